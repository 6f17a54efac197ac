import PyProof.Rows.All
import Wide.All
import OpenK.AllK
import Wide.FinOn
import HandS.ForMost
import PyProof.Rows.All
import Wide.All
import OpenK.AllK
import Wide.FinOn
import KE.KIsAll
import KE.KTryMore
import HandS.Base
import HandS.Call
import HandS.List
import HandS.Exc
import HandS.ExcOwn
import HandS.ExcValue
import HandS.ExcIs
import HandS.IsInst
import HandS.ForExc
import HandS.Wide
import HandS.Walk
import HandS.Flow
import HandS.Deep
import HandS.Steps
import HandS.Zip
import HandS.Style
import HandS.TryOnly
import KE.KDictList
import KE.KDictZip
import HandS.Dict
import HandS.Iter
import HandS.More
import HandS.Conv
import HandS.RevRange
import HandS.Rev
import PyProof.LongRange
import KE.SortData
import PyProof.ListRange
import KE.DataFind
import KE.KDictCopyH
import HandS.Text
import PyProof.StrBlock2
import KE.IntTextLaws
import PyProof.StrLawsChain
import PyProof.Rows.StrSplitCount
import PySem.Challenge.RW_shimright_k34_gap_demands
set_option synthInstance.maxSize 1000
set_option Elab.async false
set_option linter.all false
set_option maxRecDepth 100000
set_option maxHeartbeats 4000000
set_option autoImplicit false
set_option exponentiation.threshold 10000
namespace L2
open PySem PySem.Spec PyProof.Rows
def ExK (C a : Addr) : HO := .ext fun h => ∃ (oe : Obj) (vs : Array Value), h.get? a = some oe ∧ Zc (.ref C) none oe ∧ oe.data = .fields vs
section
variable {X : Cx} {pins : List (Addr × Obj)} {σ : St} {H : Hp} {s : Shared}
end
end L2
namespace L2
open PySem PySem.Spec PyProof.Rows
section
variable {X : Cx} {x n : Str} {c : Value} {i : Nat} {body suite : List Stmt} {b₀ : Stmt} {np pos pos' : Pos} {tb : WX → TS} {ts : TS}
end
end L2
namespace L2
open PySem PySem.Spec PyProof.Rows
section
variable {X : Cx}
end
end L2
namespace L3
open PySem PySem.Spec PyProof.Rows L2
inductive R (α : Type) : Type where
  | ok (a : α) | exc (c : Str) | bad
def R.bind {α β : Type} (r : R α) (f : α → R β) : R β := match r with | .ok a => f a | .exc c => .exc c | .bad => .bad
def Then {α : Type} (r : R α) (P : α → Prop) (E : Str → Prop) : Prop := match r with | .ok a => P a | .exc c => E c | .bad => False
theorem then_ok {α : Type} {a : α} {P : α → Prop} {E : Str → Prop} : Then (.ok a) P E ↔ P a := Iff.rfl
theorem then_bind {α β : Type} {r : R α} {f : α → R β} {P : β → Prop} {E : Str → Prop} : Then (r.bind f) P E ↔ Then r (fun a => Then (f a) P E) E := by
  cases r <;> exact Iff.rfl
theorem Then.mono {α : Type} {r : R α} {P P' : α → Prop} {E E' : Str → Prop} (h : Then r P E) (hp : ∀ a, P a → P' a) (he : ∀ c, E c → E' c) : Then r P' E' := by
  cases r with
  | ok a => exact hp a h
  | exc c => exact he c h
  | bad => exact h
theorem Then.imp {α : Type} {r : R α} {P P' : α → Prop} {E : Str → Prop} (h : Then r P E) (hp : ∀ a, P a → P' a) : Then r P' E := h.mono hp fun _ x => x
def guard (b : Bool) {α : Type} (r : R α) : R α := if b = true then r else .bad
theorem then_guard {α : Type} {b : Bool} {r : R α} {P : α → Prop} {E : Str → Prop} : Then (guard b r) P E ↔ b = true ∧ Then r P E := by
  unfold guard
  cases b
  · constructor
    · intro h; exact h.elim
    · intro h; exact nomatch h.1
  · exact ⟨fun h => ⟨rfl, h⟩, fun h => h.2⟩
def ofO {α : Type} (o : Option α) : R α := match o with | some a => .ok a | none => .bad
theorem then_ofO {α : Type} {o : Option α} {P : α → Prop} {E : Str → Prop} : Then (ofO o) P E ↔ ∃ a, o = some a ∧ P a := by
  cases o with
  | none => exact ⟨fun h => h.elim, fun ⟨_, h, _⟩ => nomatch h⟩
  | some a => exact ⟨fun h => ⟨a, rfl, h⟩, fun ⟨b, h, q⟩ => by cases h; exact q⟩
abbrev D := PyData
inductive T where
  | d (x : PyData)
  | ol (xs : List T)
  | ot (xs : List T)
  | od (ks : List Key) (xs : List T)
  | fd (a : Addr) (ks : List Key) (xs : List T)
  | fk (a : Addr) (o : Obj) (kvs : List (Key × V))
  | dt (en : List Key × Addr × Value → DictEntry) (ks : List (List Key)) (ds : List PyData)
  | no (v : V)
  | hl
  | rd (xs : List PyData)
  | ex (x : Str)
  | ob (x : Str) (fs : List Str) (xs : List T)
def DtAt (en : List Key × Addr × Value → DictEntry) (h : Heap) (a : Addr) (xs : List (List Key × Addr × Value)) : Prop := ∃ o es ep, h.get? a = some o ∧ o.ExactDict ∧ o.data = .dict es ep ∧ es.toList = xs.map en
abbrev Env := List (Option T)
abbrev MEx := Env → R (T × Env)
def clK (K : PySem.W.Frag) (x : Str) : Option Addr := match PySem.W.nsIn K PySem.mainGlobals x with
  | some (some (.ref C)) => some C
  | _ => none
section
variable (K : PySem.W.Frag) (F : Addr → Prop) (H : Hp)
def RdL (a : Addr) (vs : List V) : Prop := (∃ o, H a = some (.frz o (.lst vs))) ∨ ∃ (o : Obj) (its : Array Value) (n : Nat), K.lookup a = some o ∧ o.cls = .type "list" ∧ o.dict = none ∧ o.data = .seq its n ∧ its.size ≤ sizeLine ∧ Vals vs its.toList
mutual
inductive Fz : V → PyData → Prop
  | non : Fz .non .none
  | bl (b : Bool) : Fz (.bl b) (.bool b)
  | int (i : Int) : Fz (.int i) (.int i)
  | str (x : Str) : Fz (.str x) (.str x)
  | lst {a : Addr} {vs : List V} {ds : List PyData} : H a = some (.lst vs) → F a → FzAll vs ds → Fz (.ref a) (.list ds)
  | tup {a : Addr} {vs : List V} {ds : List PyData} : SqT K H a vs → FzAll vs ds → Fz (.ref a) (.tuple ds)
inductive FzAll : List V → List PyData → Prop
  | nil : FzAll [] []
  | cons {v : V} {vs : List V} {d : PyData} {ds : List PyData} : Fz v d → FzAll vs ds → FzAll (v :: vs) (d :: ds)
end
def KeysT (xs : List (List Key × Addr × Value)) : Prop := ∀ x ∈ xs, SqT K H x.2.1 (x.1.map kV)
mutual
inductive Rp : V → T → List Addr → Prop
  | d {v : V} {x : PyData} : Fz K F H v x → Rp v (.d x) []
  | ol {a : Addr} {vs : List V} {ts : List T} {A : List Addr} : H a = some (.lst vs) → RpAll vs ts A → Rp (.ref a) (.ol ts) (a :: A)
  | ot {a : Addr} {vs : List V} {ts : List T} {A : List Addr} : H a = some (.tup vs) → RpAll vs ts A → Rp (.ref a) (.ot ts) A
  | od {a : Addr} {kvs : List (Key × V)} {ks : List Key} {ts : List T} {A : List Addr} : H a = some (.dK kvs) → kvs.map Prod.fst = ks → ks.Nodup → RpAll (kvs.map Prod.snd) ts A → Rp (.ref a) (.od ks ts) (a :: A)
  | fd {a : Addr} {o : Obj} {kvs : List (Key × V)} {ks : List Key} {ts : List T} {A : List Addr} : H a = some (.frz o (.dK kvs)) → kvs.map Prod.fst = ks → ks.Nodup → RpAll (kvs.map Prod.snd) ts A → Rp (.ref a) (.fd a ks ts) A
  | fk {a : Addr} {o : Obj} {kvs : List (Key × V)} : H a = some (.frz o (.dK kvs)) → Rp (.ref a) (.fk a o kvs) []
  | dt {a : Addr} {en : List Key × Addr × Value → DictEntry} {xs : List (List Key × Addr × Value)} {vs : List V} {ks : List (List Key)} {ds : List PyData} : H a = some (.ext fun h => DtAt en h a xs) → xs.map (·.1) = ks → ks.Nodup → KeysT K H xs → Vals vs (xs.map fun x => x.2.2) → FzAll K F H vs ds → Rp (.ref a) (.dt en ks ds) []
  | no (v : V) : Rp v (.no v) []
  | hl (a : Addr) : Rp (.ref a) .hl []
  | rd {a : Addr} {vs : List V} {ds : List PyData} : RdL K H a vs → FzAll K F H vs ds → Rp (.ref a) (.rd ds) []
  | ob {a C dx : Addr} {x : Str} {kvs : List (Str × V)} {fs : List Str} {ts : List T} {A : List Addr} : H a = some (.ins C dx kvs) → clK K x = some C → kvs.map Prod.fst = fs → RpAll (kvs.map Prod.snd) ts A → Rp (.ref a) (.ob x fs ts) (a :: A)
  | ex {a C : Addr} {x : Str} : H a = some (ExK C a) → clK K x = some C → ExcC K C → Rp (.ref a) (.ex x) []
inductive RpAll : List V → List T → List Addr → Prop
  | nil : RpAll [] [] []
  | cons {v : V} {vs : List V} {t : T} {ts : List T} {A B : List Addr} : Rp v t A → RpAll vs ts B → RpAll (v :: vs) (t :: ts) (A ++ B)
end
inductive Sl : List (Option V) → Env → List Addr → Prop
  | nil : Sl [] [] []
  | skip {o : Option V} {sl : List (Option V)} {ρ : Env} {A : List Addr} : Sl sl ρ A → Sl (o :: sl) (none :: ρ) A
  | cons {v : V} {t : T} {sl : List (Option V)} {ρ : Env} {A B : List Addr} : Rp K F H v t A → Sl sl ρ B → Sl (some v :: sl) (some t :: ρ) (A ++ B)
end
section
variable {K : PySem.W.Frag} {F F' : Addr → Prop} {H H' : Hp}
theorem RdL.sq {a : Addr} {vs : List V} (h : RdL K H a vs) : SqL K H a vs := by
  rcases h with ⟨o, h⟩ | h
  · exact .inl (.inr ⟨o, h⟩)
  · exact .inr h
def Still : HO → Prop
  | .tup _ => True
  | .frz _ _ => True
  | .ext _ => True
  | _ => False
structure Mono (F F' : Addr → Prop) (H H' : Hp) : Prop where
  lst : ∀ a vs, H a = some (.lst vs) → F a → H' a = some (.lst vs) ∧ F' a
  still : ∀ a u, H a = some u → Still u → H' a = some u
theorem Mono.same (s : Same H H') : Mono F F H H' := ⟨fun _ _ h f => ⟨s _ _ h, f⟩, fun _ _ h _ => s _ _ h⟩
theorem Mono.sub (f : ∀ a, H a ≠ none → F a → F' a) : Mono F F' H H := ⟨fun _ _ h x => ⟨h, f _ (by rw [h]; exact fun z => nomatch z) x⟩, fun _ _ h _ => h⟩
theorem sqT_mono (s : ∀ a u, H a = some u → Still u → H' a = some u) {a : Addr} {vs : List V} (h : SqT K H a vs) : SqT K H' a vs := by
  rcases h with (h | ⟨o, h⟩) | h
  · exact .inl (.inl (s _ _ h trivial))
  · exact .inl (.inr ⟨o, s _ _ h trivial⟩)
  · exact .inr h
theorem RdL.mono (s : ∀ a u, H a = some u → Still u → H' a = some u) {a : Addr} {vs : List V} (h : RdL K H a vs) : RdL K H' a vs := by
  rcases h with ⟨o, h⟩ | h
  · exact .inl ⟨o, s _ _ h trivial⟩
  · exact .inr h
mutual
theorem Fz.mono (m : Mono F F' H H') : ∀ {v : V} {x : PyData}, Fz K F H v x → Fz K F' H' v x
  | _, _, .non => .non
  | _, _, .bl b => .bl b
  | _, _, .int i => .int i
  | _, _, .str x => .str x
  | _, _, .lst h f a => .lst (m.lst _ _ h f).1 (m.lst _ _ h f).2 (FzAll.mono m a)
  | _, _, .tup h a => .tup (sqT_mono m.still h) (FzAll.mono m a)
theorem FzAll.mono (m : Mono F F' H H') : ∀ {vs : List V} {xs : List PyData}, FzAll K F H vs xs → FzAll K F' H' vs xs
  | _, _, .nil => .nil
  | _, _, .cons h a => .cons (Fz.mono m h) (FzAll.mono m a)
end
mutual
theorem Rp.mono (m : Mono F F' H H') : ∀ {v : V} {t : T} {A : List Addr}, Rp K F H v t A → (∀ a ∈ A, H' a = H a) → Rp K F' H' v t A
  | _, _, _, .d h, _ => .d (h.mono m)
  | _, _, _, .ol h r, k => .ol ((k _ List.mem_cons_self).trans h) (RpAll.mono m r fun a ha => k a (List.mem_cons_of_mem _ ha))
  | _, _, _, .ot h r, k => .ot (m.still _ _ h trivial) (RpAll.mono m r k)
  | _, _, _, .od h e d r, k => .od ((k _ List.mem_cons_self).trans h) e d (RpAll.mono m r fun a ha => k a (List.mem_cons_of_mem _ ha))
  | _, _, _, .fk h, _ => .fk (m.still _ _ h trivial)
  | _, _, _, .dt h e n k v r, _ => .dt (m.still _ _ h trivial) e n (fun x hx => sqT_mono m.still (k x hx)) v (FzAll.mono m r)
  | _, _, _, .no v, _ => .no v
  | _, _, _, .hl v, _ => .hl v
  | _, _, _, .fd h e d r, k => .fd (m.still _ _ h trivial) e d (RpAll.mono m r k)
  | _, _, _, .ob h c e r, k => .ob ((k _ List.mem_cons_self).trans h) c e (RpAll.mono m r fun a ha => k a (List.mem_cons_of_mem _ ha))
  | _, _, _, .rd h r, _ => .rd (h.mono m.still) (FzAll.mono m r)
  | _, _, _, .ex h c e, _ => .ex (m.still _ _ h trivial) c e
theorem RpAll.mono (m : Mono F F' H H') : ∀ {vs : List V} {ts : List T} {A : List Addr}, RpAll K F H vs ts A → (∀ a ∈ A, H' a = H a) → RpAll K F' H' vs ts A
  | _, _, _, .nil, _ => .nil
  | _, _, _, .cons h r, k => .cons (Rp.mono m h fun a ha => k a (List.mem_append_left _ ha)) (RpAll.mono m r fun a ha => k a (List.mem_append_right _ ha))
end
theorem Sl.mono (m : Mono F F' H H') : ∀ {sl : List (Option V)} {ρ : Env} {A : List Addr}, Sl K F H sl ρ A → (∀ a ∈ A, H' a = H a) → Sl K F' H' sl ρ A
  | _, _, _, .nil, _ => .nil
  | _, _, _, .skip h, k => .skip (Sl.mono m h k)
  | _, _, _, .cons h r, k => .cons (h.mono m fun a ha => k a (List.mem_append_left _ ha)) (Sl.mono m r fun a ha => k a (List.mem_append_right _ ha))
theorem Sl.len : ∀ {sl : List (Option V)} {ρ : Env} {A : List Addr}, Sl K F H sl ρ A → sl.length = ρ.length
  | _, _, _, .nil => rfl
  | _, _, _, .skip h => by rw [List.length_cons, List.length_cons, h.len]
  | _, _, _, .cons _ h => by rw [List.length_cons, List.length_cons, h.len]
theorem FzAll.len : ∀ {vs : List V} {xs : List PyData}, FzAll K F H vs xs → vs.length = xs.length
  | _, _, .nil => rfl
  | _, _, .cons _ h => by rw [List.length_cons, List.length_cons, h.len]
theorem RpAll.len : ∀ {vs : List V} {ts : List T} {A : List Addr}, RpAll K F H vs ts A → vs.length = ts.length
  | _, _, _, .nil => rfl
  | _, _, _, .cons _ h => by rw [List.length_cons, List.length_cons, h.len]
theorem FzAll.get : ∀ {vs : List V} {xs : List PyData}, FzAll K F H vs xs → ∀ {i : Nat} {x : PyData}, xs[i]? = some x → ∃ v, vs[i]? = some v ∧ Fz K F H v x
  | _, _, .nil, i, x, h => by simp at h
  | _, _, .cons (v := v) a r, 0, x, h => by
    simp at h; subst h
    exact ⟨v, rfl, a⟩
  | _, _, .cons a r, i + 1, x, h => by
    obtain ⟨v, e, q⟩ := r.get (i := i) (x := x) (by simpa using h)
    exact ⟨v, by simpa using e, q⟩
theorem RpAll.get : ∀ {vs : List V} {ts : List T} {A : List Addr}, RpAll K F H vs ts A → ∀ {i : Nat} {t : T}, ts[i]? = some t → ∃ v B, vs[i]? = some v ∧ Rp K F H v t B ∧ ∀ a, B.count a ≤ A.count a
  | _, _, _, .nil, i, x, h => by simp at h
  | _, _, _, .cons (v := v) (A := A1) a r, 0, x, h => by
    simp at h; subst h
    exact ⟨v, A1, rfl, a, fun b => by rw [List.count_append]; omega⟩
  | _, _, _, .cons a r, i + 1, x, h => by
    obtain ⟨v, B, e, q, z⟩ := r.get (i := i) (t := x) (by simpa using h)
    exact ⟨v, B, by simpa using e, q, fun b => by have := z b; rw [List.count_append]; omega⟩
mutual
theorem Rp.own : ∀ {v : V} {t : T} {A : List Addr}, Rp K F H v t A → ∀ a ∈ A, ∃ u, H a = some u ∧ ¬ Still u
  | _, _, _, .d _, a, h => by simp at h
  | _, _, _, .ol (vs := vs) e r, a, h => by
    rcases List.mem_cons.mp h with z | z
    · exact ⟨_, (by rw [z]; exact e), (by intro y; cases y)⟩
    · exact RpAll.own r a z
  | _, _, _, .ot _ r, a, h => RpAll.own r a h
  | _, _, _, .od (kvs := kvs) e _ _ r, a, h => by
    rcases List.mem_cons.mp h with z | z
    · exact ⟨_, (by rw [z]; exact e), (by intro y; cases y)⟩
    · exact RpAll.own r a z
  | _, _, _, .ob e _ _ r, a, h => by
    rcases List.mem_cons.mp h with z | z
    · exact ⟨_, (by rw [z]; exact e), (by intro y; cases y)⟩
    · exact RpAll.own r a z
  | _, _, _, .fd _ _ _ r, a, h => RpAll.own r a h
  | _, _, _, .fk _, a, h => by simp at h
  | _, _, _, .dt _ _ _ _ _ _, a, h => by simp at h
  | _, _, _, .no _, a, h => by simp at h
  | _, _, _, .hl _, a, h => by simp at h
  | _, _, _, .rd _ _, a, h => by simp at h
  | _, _, _, .ex _ _ _, a, h => by simp at h
theorem RpAll.own : ∀ {vs : List V} {ts : List T} {A : List Addr}, RpAll K F H vs ts A → ∀ a ∈ A, ∃ u, H a = some u ∧ ¬ Still u
  | _, _, _, .nil, a, h => by simp at h
  | _, _, _, .cons x r, a, h => by
    rcases List.mem_append.mp h with z | z
    · exact Rp.own x a z
    · exact RpAll.own r a z
end
theorem Sl.own : ∀ {sl : List (Option V)} {ρ : Env} {A : List Addr}, Sl K F H sl ρ A → ∀ a ∈ A, ∃ u, H a = some u ∧ ¬ Still u
  | _, _, _, .nil, a, h => by simp at h
  | _, _, _, .skip h, a, z => h.own a z
  | _, _, _, .cons x r, a, h => by
    rcases List.mem_append.mp h with z | z
    · exact x.own a z
    · exact r.own a z
end
structure C0 where
  H0 : Hp
  A0 : List Addr
  F0 : Addr → Prop
def Fok (c : C0) (A : List Addr) : Addr → Prop := fun a => (c.F0 a ∨ c.H0 a = none ∨ a ∈ c.A0) ∧ a ∉ A
structure KeepC (c : C0) (H : Hp) : Prop where
  keep : ∀ a o, c.H0 a = some o → a ∉ c.A0 → H a = some o
  there : ∀ a, H a = none → c.H0 a = none
structure StW (K : PySem.W.Frag) (c : C0) (H : Hp) (sl : List (Option V)) (ρ : Env) (A : List Addr) : Prop where
  uniq : ∀ a, A.count a ≤ 1
  slots : Sl K (Fok c A) H sl ρ A
  own : ∀ a ∈ A, a ∈ c.A0 ∨ c.H0 a = none
  keep : KeepC c H
def StR (K : PySem.W.Frag) (c : C0) (H : Hp) (sl : List (Option V)) (ρ : Env) : Prop := ∃ A, StW K c H sl ρ A
section
variable {K : PySem.W.Frag} {c : C0} {H H' : Hp} {sl : List (Option V)} {ρ : Env} {A : List Addr}
theorem StR.keep (h : StR K c H sl ρ) : KeepC c H := let ⟨_, w⟩ := h; w.keep
theorem KeepC.grow (k : KeepC c H) (s : Same H H') : KeepC c H' := ⟨fun a o e n => s _ _ (k.keep a o e n), fun a e => k.there a (s.free e)⟩
theorem StW.grow (w : StW K c H sl ρ A) (s : Same H H') : StW K c H' sl ρ A :=
  ⟨w.uniq, w.slots.mono (.same s) fun a ha => by
    obtain ⟨u, e, _⟩ := w.slots.own a ha
    rw [e, s _ _ e], w.own, w.keep.grow s⟩
theorem StR.grow (h : StR K c H sl ρ) (s : Same H H') : StR K c H' sl ρ := let ⟨A, w⟩ := h; ⟨A, w.grow s⟩
theorem same_upd {p : Addr} {o : HO} (h : H p = none) : Same H (upd H p o) := fun b x e => by rw [upd_ne (ne_of_none e h)]; exact e
theorem Fok.sub {B : List Addr} (h : ∀ a, B.count a ≤ A.count a) : ∀ a, Fok c A a → Fok c B a := fun a ⟨x, y⟩ => ⟨x, fun z => y (by
  have := List.count_pos_iff.mpr z
  have := h a
  exact List.count_pos_iff.mp (by omega))⟩
theorem StW.drop {o : Option V} {t : Option T} (w : StW K c H (o :: sl) (t :: ρ) A) : ∃ B, StW K c H sl ρ B ∧ ∀ a, B.count a ≤ A.count a := by
  obtain ⟨u, s, ow, k⟩ := w
  cases s with
  | skip s => exact ⟨A, ⟨u, s, ow, k⟩, fun _ => Nat.le_refl _⟩
  | cons x r =>
    rename_i A1 B1
    have hb : ∀ a, B1.count a ≤ (A1 ++ B1).count a := fun a => by rw [List.count_append]; omega
    exact ⟨B1, ⟨fun a => Nat.le_trans (hb a) (u a), r.mono (.sub fun a _ => Fok.sub hb a) fun _ _ => rfl, fun a ha => ow a (List.mem_append_right _ ha), k⟩, hb⟩
theorem StR.drop {o : Option V} {t : Option T} (h : StR K c H (o :: sl) (t :: ρ)) : StR K c H sl ρ := let ⟨_, w⟩ := h; let ⟨B, w', _⟩ := w.drop; ⟨B, w'⟩
theorem StR.len (h : StR K c H sl ρ) : sl.length = ρ.length := let ⟨_, w⟩ := h; w.slots.len
theorem StW.pushD {v : V} {x : PyData} (w : StW K c H sl ρ A) (f : Fz K (Fok c A) H v x) : StW K c H (some v :: sl) (some (.d x) :: ρ) A := ⟨w.uniq, .cons (A := []) (.d f) w.slots, w.own, w.keep⟩
theorem StW.top {v : V} {t : T} (w : StW K c H (some v :: sl) (some t :: ρ) A) : ∃ A1 B, A = A1 ++ B ∧ Rp K (Fok c A) H v t A1 ∧ Sl K (Fok c A) H sl ρ B := by
  obtain ⟨u, s, ow, k⟩ := w
  cases s with
  | cons x r => exact ⟨_, _, rfl, x, r⟩
theorem StW.topD {v : V} {x : PyData} (w : StW K c H (some v :: sl) (some (.d x) :: ρ) A) : Fz K (Fok c A) H v x ∧ StW K c H sl ρ A := by
  obtain ⟨u, s, ow, k⟩ := w
  cases s with
  | cons x r =>
    cases x with
    | d f => exact ⟨f, u, r, ow, k⟩
end
section
variable {K : PySem.W.Frag} {F F' : Addr → Prop} {H H' : Hp}
structure Around1 (K : PySem.W.Frag) (F : Addr → Prop) (H : Hp) (i : Nat) (sl : List (Option V)) (ρ : Env) (B : List Addr) : Prop where
  put : ∀ {F' : Addr → Prop} {H' : Hp}, Mono F F' H H' → (∀ a ∈ B, H' a = H a) → ∀ {v' : V} {t' : T} {A2 : List Addr}, Rp K F' H' v' t' A2 →
    ∃ C, Sl K F' H' (sl.set i (some v')) (ρ.set i (some t')) C ∧ ∀ a, C.count a = A2.count a + B.count a
  gone : ∀ o : Option V, ∃ C, Sl K F H (sl.set i o) (ρ.set i none) C ∧ ∀ a, C.count a = B.count a
theorem Sl.around : ∀ {sl : List (Option V)} {ρ : Env} {A : List Addr}, Sl K F H sl ρ A → ∀ {i : Nat}, i < sl.length → ∃ B, (∀ a, B.count a ≤ A.count a) ∧ Around1 K F H i sl ρ B ∧
    ∀ t, ρ[i]? = some (some t) → ∃ v A1, sl[i]? = some (some v) ∧ Rp K F H v t A1 ∧ ∀ a, A.count a = A1.count a + B.count a
  | _, _, _, .nil, i, h => by simp at h
  | _, _, _, .skip (o := o) (sl := sl) (ρ := ρ) (A := A) r, 0, h => by
    refine ⟨A, fun _ => Nat.le_refl _, ⟨fun m k v' t' A2 x => ⟨A2 ++ A, .cons x (r.mono m k), fun a => by rw [List.count_append]⟩, fun o' => ⟨A, .skip r, fun _ => rfl⟩⟩, fun t e => by simp at e⟩
  | _, _, _, .cons (v := v) (t := t) (A := A) (B := B) x r, 0, h => by
    refine ⟨B, fun a => by rw [List.count_append]; omega, ⟨fun m k v' t' A2 y => ⟨A2 ++ B, .cons y (r.mono m k), fun a => by rw [List.count_append]⟩, fun o' => ⟨B, .skip r, fun _ => rfl⟩⟩, fun t' e => ?_⟩
    have e' : t = t' := by simpa using e
    subst e'
    exact ⟨v, A, rfl, x, fun a => by rw [List.count_append]⟩
  | _, _, _, .skip (o := o) (A := A) r, i + 1, h => by
    obtain ⟨B, hb, ar, q⟩ := r.around (i := i) (by simpa using h)
    refine ⟨B, hb, ⟨fun m k v' t' A2 x => ?_, fun o' => ?_⟩, fun t e => ?_⟩
    · obtain ⟨C, s, z⟩ := ar.put m k x
      exact ⟨C, .skip s, z⟩
    · obtain ⟨C, s, z⟩ := ar.gone o'
      exact ⟨C, .skip s, z⟩
    · obtain ⟨v, A1, e1, x, z⟩ := q t (by simpa using e)
      exact ⟨v, A1, by simpa using e1, x, z⟩
  | _, _, _, .cons (v := w) (t := t0) (A := A0) (B := B0) y r, i + 1, h => by
    obtain ⟨B, hb, ar, q⟩ := r.around (i := i) (by simpa using h)
    refine ⟨A0 ++ B, fun a => by rw [List.count_append, List.count_append]; have := hb a; omega, ⟨fun m k v' t' A2 x => ?_, fun o' => ?_⟩, fun t e => ?_⟩
    · obtain ⟨C, s, z⟩ := ar.put m (fun a ha => k a (List.mem_append_right _ ha)) x
      exact ⟨A0 ++ C, .cons (y.mono m fun a ha => k a (List.mem_append_left _ ha)) s, fun a => by rw [List.count_append, List.count_append, z a]; omega⟩
    · obtain ⟨C, s, z⟩ := ar.gone o'
      exact ⟨A0 ++ C, .cons y s, fun a => by rw [List.count_append, List.count_append, z a]⟩
    · obtain ⟨v, A1, e1, x, z⟩ := q t (by simpa using e)
      exact ⟨v, A1, by simpa using e1, x, fun a => by rw [List.count_append, List.count_append, z a]; omega⟩
theorem Sl.raise : ∀ {xs : List (Option V)} {as : Env} {ys : List (Option V)} {bs : Env} {v : V} {t : T} {A : List Addr}, xs.length = as.length → Sl K F H (xs ++ some v :: ys) (as ++ some t :: bs) A →
    ∃ C, Sl K F H (some v :: (xs ++ ys)) (some t :: (as ++ bs)) C ∧ ∀ a, C.count a = A.count a
  | [], [], _, _, _, _, A, _, h => ⟨A, h, fun _ => rfl⟩
  | o :: xs, a :: as, ys, bs, v, t, _, hl, h => by
    have hl' : xs.length = as.length := by simpa using hl
    cases h with
    | skip r =>
      obtain ⟨C, s, z⟩ := r.raise hl'
      cases s with
      | cons x s => exact ⟨_, .cons x (.skip s), z⟩
    | cons y r =>
      rename_i u t0 A1 B1
      obtain ⟨C, s, z⟩ := r.raise hl'
      cases s with
      | cons x s =>
        rename_i A2 B2
        exact ⟨_, .cons x (.cons y s), fun a => by have := z a; simp only [List.count_append] at this ⊢; omega⟩
  | [], _ :: _, _, _, _, _, _, hl, _ => by simp at hl
  | _ :: _, [], _, _, _, _, _, hl, _ => by simp at hl
end
section
variable {K : PySem.W.Frag} {c : C0} {H H' : Hp} {sl : List (Option V)} {ρ : Env} {A : List Addr}
theorem StW.remake {sl' : List (Option V)} {ρ' : Env} {C : List Addr} (w : StW K c H sl ρ A) (hc : ∀ a, C.count a ≤ A.count a) (s : Sl K (Fok c A) H sl' ρ' C) : StW K c H sl' ρ' C :=
  ⟨fun a => Nat.le_trans (hc a) (w.uniq a), s.mono (.sub fun a _ => Fok.sub hc a) fun _ _ => rfl, fun a ha => w.own a (by
    have := List.count_pos_iff.mpr ha
    have := hc a
    exact List.count_pos_iff.mp (by omega)), w.keep⟩
theorem StR.raise {xs : List (Option V)} {as : Env} {ys : List (Option V)} {bs : Env} {v : V} {t : T} (hl : xs.length = as.length) (h : StR K c H (xs ++ some v :: ys) (as ++ some t :: bs)) : StR K c H (some v :: (xs ++ ys)) (some t :: (as ++ bs)) := by
  obtain ⟨A, w⟩ := h
  obtain ⟨C, s, z⟩ := w.slots.raise hl
  exact ⟨C, w.remake (fun a => Nat.le_of_eq (z a)) s⟩
theorem Fok.fresh {p : Addr} (hp : H p = none) : Mono (Fok c A) (Fok c (p :: A)) H H :=
  .sub fun a ha ⟨x, y⟩ => ⟨x, fun z => by
    rcases List.mem_cons.mp z with e | e
    · exact ha (by rw [e]; exact hp)
    · exact y e⟩
theorem StW.not_mem_of_none {p : Addr} (w : StW K c H sl ρ A) (hp : H p = none) : p ∉ A := fun ha => by
  obtain ⟨u, e, _⟩ := w.slots.own p ha
  rw [hp] at e; cases e
end
def SimE (K : PySem.W.Frag) (E : Str → Hp → Prop) (gr : Bool) (te : TE) (m : MEx) : Prop :=
  ∀ (c : C0) (H : Hp) (tv : List (Option V)) (td : Env) (σ : L2.St) (ρ : Env), tv.length = td.length → StR K c H (tv ++ σ) (td ++ ρ) → ∀ Q : VK,
    Then (m ρ) (fun r => ∀ v H', (gr = true → Same H H') → StR K c H' (some v :: (tv ++ σ)) (some r.1 :: (td ++ r.2)) → Q v H') (fun x => ∀ H', KeepC c H' → E x H') → te σ H Q
structure QE (X : Cx) (E : Str → Hp → Prop) (gr : Bool) (e : Expr) (te : TE) (m : MEx) : Prop where
  pe : PE X e te
  sim : SimE X.K E gr te m
end L3
namespace L3
open PySem PySem.Spec PyProof.Rows L2
mutual
def T.fz : T → Option PyData
  | .d x => some x
  | .ol ts => (T.fzAll ts).map PyData.list
  | .ot ts => (T.fzAll ts).map PyData.tuple
  | _ => none
def T.fzAll : List T → Option (List PyData)
  | [] => some []
  | t :: r => (T.fz t).bind fun x => (T.fzAll r).map fun xs => x :: xs
end
mutual
def T.toD : T → Option PyData
  | .d x => some x
  | .ol ts => (T.toDAll ts).map PyData.list
  | .ot ts => (T.toDAll ts).map PyData.tuple
  | .rd ds => some (.list ds)
  | .od _ _ => none
  | .fd _ _ _ => none
  | .fk _ _ _ => none
  | .dt _ _ _ => none
  | .no _ => none
  | .hl => none
  | .ex _ => none
  | .ob _ _ _ => none
def T.toDAll : List T → Option (List PyData)
  | [] => some []
  | t :: r => (T.toD t).bind fun x => (T.toDAll r).map fun xs => x :: xs
end
section
variable {K : PySem.W.Frag} {F F' : Addr → Prop} {H H' : Hp}
mutual
theorem Rp.freeze : ∀ {t : T} {v : V} {A : List Addr} {x : PyData}, Rp K F H v t A → (∀ a, H a ≠ none → F a → F' a) → (∀ a ∈ A, F' a) → t.fz = some x → Fz K F' H v x
  | .d y, _, _, x, .d h, f, _, e => by
    have e' : y = x := Option.some.inj (by simpa [T.fz] using e)
    subst e'
    exact h.mono (.sub f)
  | .ol ts, _, _, x, .ol h r, f, k, e => by
    simp only [T.fz, Option.map_eq_some_iff] at e
    obtain ⟨xs, e1, e2⟩ := e
    subst e2
    exact .lst h (k _ List.mem_cons_self) (RpAll.freeze r f (fun a ha => k a (List.mem_cons_of_mem _ ha)) e1)
  | .ot ts, _, _, x, .ot h r, f, k, e => by
    simp only [T.fz, Option.map_eq_some_iff] at e
    obtain ⟨xs, e1, e2⟩ := e
    subst e2
    exact .tup (.of h) (RpAll.freeze r f k e1)
  | .od _ _, _, _, x, _, _, _, e => by simp [T.fz] at e
  | .fd _ _ _, _, _, x, _, _, _, e => by simp [T.fz] at e
  | .fk _ _ _, _, _, x, _, _, _, e => by simp [T.fz] at e
  | .dt _ _ _, _, _, x, _, _, _, e => by simp [T.fz] at e
  | .no _, _, _, x, _, _, _, e => by simp [T.fz] at e
  | .hl, _, _, x, _, _, _, e => by simp [T.fz] at e
  | .ob _ _ _, _, _, x, _, _, _, e => by simp [T.fz] at e
  | .rd _, _, _, x, _, _, _, e => by simp [T.fz] at e
theorem RpAll.freeze : ∀ {ts : List T} {vs : List V} {A : List Addr} {xs : List PyData}, RpAll K F H vs ts A → (∀ a, H a ≠ none → F a → F' a) → (∀ a ∈ A, F' a) → T.fzAll ts = some xs → FzAll K F' H vs xs
  | [], _, _, xs, .nil, _, _, e => by
    have e' : [] = xs := Option.some.inj (by simpa [T.fzAll] using e)
    subst e'
    exact .nil
  | t :: r, _, _, xs, .cons h hr, f, k, e => by
    simp only [T.fzAll, Option.bind_eq_some_iff, Option.map_eq_some_iff] at e
    obtain ⟨y, e1, ys, e2, e3⟩ := e
    subst e3
    exact .cons (Rp.freeze h f (fun a ha => k a (List.mem_append_left _ ha)) e1) (RpAll.freeze hr f (fun a ha => k a (List.mem_append_right _ ha)) e2)
end
mutual
theorem Fz.dp : ∀ {v : V} {x : PyData}, Fz K F H v x → Dp K H v x
  | _, _, .non => .non
  | _, _, .bl b => .bl b
  | _, _, .int i => .int i
  | _, _, .str x => .str x
  | _, _, .lst h _ a => .lst (.of h) (FzAll.dp a)
  | _, _, .tup h a => .tup h (FzAll.dp a)
theorem FzAll.dp : ∀ {vs : List V} {xs : List PyData}, FzAll K F H vs xs → DpAll K H vs xs
  | _, _, .nil => .nil
  | _, _, .cons h a => .cons (Fz.dp h) (FzAll.dp a)
end
mutual
theorem Rp.dp : ∀ {t : T} {v : V} {A : List Addr} {x : PyData}, Rp K F H v t A → t.toD = some x → Dp K H v x
  | .d y, _, _, x, .d h, e => by
    have e' : y = x := Option.some.inj (by simpa [T.toD] using e)
    subst e'
    exact h.dp
  | .ol ts, _, _, x, .ol h r, e => by
    simp only [T.toD, Option.map_eq_some_iff] at e
    obtain ⟨xs, e1, e2⟩ := e
    subst e2
    exact .lst (.of h) (RpAll.dp r e1)
  | .ot ts, _, _, x, .ot h r, e => by
    simp only [T.toD, Option.map_eq_some_iff] at e
    obtain ⟨xs, e1, e2⟩ := e
    subst e2
    exact .tup (.of h) (RpAll.dp r e1)
  | .rd ds, _, _, x, .rd h r, e => by
    have e' : PyData.list ds = x := Option.some.inj (by simpa [T.toD] using e)
    subst e'
    exact .lst h.sq r.dp
  | .od _ _, _, _, x, _, e => by simp [T.toD] at e
  | .fd _ _ _, _, _, x, _, e => by simp [T.toD] at e
  | .fk _ _ _, _, _, x, _, e => by simp [T.toD] at e
  | .dt _ _ _, _, _, x, _, e => by simp [T.toD] at e
  | .no _, _, _, x, _, e => by simp [T.toD] at e
  | .hl, _, _, x, _, e => by simp [T.toD] at e
  | .ob _ _ _, _, _, x, _, e => by simp [T.toD] at e
  | .ex _, _, _, x, _, e => by simp [T.toD] at e
theorem RpAll.dp : ∀ {ts : List T} {vs : List V} {A : List Addr} {xs : List PyData}, RpAll K F H vs ts A → T.toDAll ts = some xs → DpAll K H vs xs
  | [], _, _, xs, .nil, e => by
    have e' : [] = xs := Option.some.inj (by simpa [T.toDAll] using e)
    subst e'
    exact .nil
  | t :: r, _, _, xs, .cons h hr, e => by
    simp only [T.toDAll, Option.bind_eq_some_iff, Option.map_eq_some_iff] at e
    obtain ⟨y, e1, ys, e2, e3⟩ := e
    subst e3
    exact .cons (Rp.dp h e1) (RpAll.dp hr e2)
end
end
section
variable {X : Cx} {E : Str → Hp → Prop}
theorem app_at {α : Type} {xs ys : List α} {n i : Nat} (h : xs.length = n) : (xs ++ ys)[n + i]? = ys[i]? := by
  subst h
  rw [List.getElem?_append_right (by omega)]
  congr 1
  omega
theorem app_set {α : Type} {ys : List α} {i : Nat} {y : α} : ∀ {xs : List α} {n : Nat}, xs.length = n → (xs ++ ys).set (n + i) y = xs ++ ys.set i y
  | [], n, h => by subst h; simp
  | x :: xs, n, h => by
    subst h
    have e : (x :: xs).length + i = (xs.length + i) + 1 := by simp; omega
    rw [e]
    show x :: (xs ++ ys).set (xs.length + i) y = _
    rw [app_set rfl]
    rfl
theorem set_self {α : Type} : ∀ {xs : List α} {i : Nat} {a : α}, xs[i]? = some a → xs.set i a = xs
  | [], _, _, h => by simp at h
  | x :: xs, 0, a, h => by simp at h; subst h; rfl
  | x :: xs, i + 1, a, h => by
    show x :: xs.set i a = x :: xs
    rw [set_self (by simpa using h)]
def mC (x : PyData) : MEx := fun ρ => .ok (.d x, ρ)
def mVar (i : Nat) : MEx := fun ρ => match ρ[i]? with
  | some (some (.d x)) => .ok (.d x, ρ)
  | some (some t) => (match t.fz with | some x => .ok (.d x, ρ.set i (some (.d x))) | none => .bad)
  | _ => .bad
def mMove (i : Nat) : MEx := fun ρ => match ρ[i]? with
  | some (some t) => .ok (t, ρ.set i none)
  | _ => .bad
theorem sim_var {K : PySem.W.Frag} (i : Nat) : SimE K E true (tVar i) (mVar i) := by
  intro c H tv td σ ρ hl st Q q
  obtain ⟨A, w⟩ := st
  have hlen := w.slots.len
  unfold mVar at q
  cases e : ρ[i]? with
  | none => rw [e] at q; exact q.elim
  | some o =>
    cases o with
    | none => rw [e] at q; exact q.elim
    | some t =>
      have hi : i < ρ.length := (List.getElem?_eq_some_iff.mp e).1
      have hi2 : tv.length + i < (tv ++ σ).length := by
        rw [hlen, List.length_append]; omega
      have e2 : (td ++ ρ)[tv.length + i]? = some (some t) := by rw [app_at hl.symm, e]
      obtain ⟨B, hb, ar, get⟩ := w.slots.around hi2
      obtain ⟨v, A1, e3, x, hc⟩ := get t e2
      rw [app_at rfl] at e3
      rw [e] at q
      have key : ∀ y : PyData, t.fz = some y → (∀ v H', (true = true → Same H H') → StR K c H' (some v :: (tv ++ σ)) (some (.d y) :: (td ++ ρ.set i (some (.d y)))) → Q v H') → tVar i σ H Q := by
        intro y ey qq
        refine ⟨v, e3, qq v H (fun _ => Same.refl H) ?_⟩
        have hBA : ∀ a, B.count a ≤ A.count a := hb
        have fsub : ∀ a, H a ≠ none → Fok c A a → Fok c B a := fun a _ => Fok.sub hBA a
        have own1 : ∀ a ∈ A1, Fok c B a := fun a ha => by
          have h1 := List.count_pos_iff.mpr ha
          have h2 := hc a
          have h3 := w.uniq a
          refine ⟨?_, fun z => ?_⟩
          · rcases w.own a (List.count_pos_iff.mp (by omega)) with z | z
            · exact .inr (.inr z)
            · exact .inr (.inl z)
          · have := List.count_pos_iff.mpr z
            omega
        have fx : Fz K (Fok c B) H v y := x.freeze fsub own1 ey
        obtain ⟨C, s, z⟩ := ar.put (Mono.sub fsub) (fun _ _ => rfl) (.d fx)
        have hsl : (tv ++ σ).set (tv.length + i) (some v) = tv ++ σ := by
          rw [app_set rfl, set_self e3]
        rw [hsl, app_set hl.symm] at s
        have zc : ∀ a, C.count a = B.count a := fun a => by rw [z a]; simp
        refine ⟨C, ⟨fun a => ?_, ?_, fun a ha => ?_, w.keep⟩⟩
        · rw [zc a]; exact Nat.le_trans (hBA a) (w.uniq a)
        · have m : Mono (Fok c B) (Fok c C) H H := .sub fun a _ => Fok.sub (fun a => Nat.le_of_eq (zc a)) a
          exact .cons (A := []) (.d (fx.mono m)) (s.mono m fun _ _ => rfl)
        · refine w.own a (List.count_pos_iff.mp ?_)
          have := List.count_pos_iff.mpr ha
          have := zc a
          have := hBA a
          omega
      cases t with
      | d y =>
        refine key y (by simp [T.fz]) fun v' H' sm' st' => ?_
        have e4 : ρ.set i (some (.d y)) = ρ := set_self e
        rw [e4] at st'
        exact q v' H' sm' st'
      | ol ts =>
        dsimp only at q
        cases ez : (T.ol ts).fz with
        | none => rw [ez] at q; exact q.elim
        | some y => rw [ez] at q; exact key y ez q
      | ot ts =>
        dsimp only at q
        cases ez : (T.ot ts).fz with
        | none => rw [ez] at q; exact q.elim
        | some y => rw [ez] at q; exact key y ez q
      | od ks ts =>
        dsimp only at q
        cases ez : (T.od ks ts).fz with
        | none => rw [ez] at q; exact q.elim
        | some y => rw [ez] at q; exact key y ez q
      | fd a0 ks ts =>
        dsimp only at q
        cases ez : (T.fd a0 ks ts).fz with
        | none => rw [ez] at q; exact q.elim
        | some y => rw [ez] at q; exact key y ez q
      | fk a0 o0 ks =>
        dsimp only at q
        cases ez : (T.fk a0 o0 ks).fz with
        | none => rw [ez] at q; exact q.elim
        | some y => rw [ez] at q; exact key y ez q
      | dt en0 ks0 ds0 =>
        dsimp only at q
        cases ez : (T.dt en0 ks0 ds0).fz with
        | none => rw [ez] at q; exact q.elim
        | some y => rw [ez] at q; exact key y ez q
      | no v0 =>
        dsimp only at q
        cases ez : (T.no v0).fz with
        | none => rw [ez] at q; exact q.elim
        | some y => rw [ez] at q; exact key y ez q
      | hl =>
        dsimp only at q
        cases ez : (T.hl).fz with
        | none => rw [ez] at q; exact q.elim
        | some y => rw [ez] at q; exact key y ez q
      | rd ds =>
        dsimp only at q
        cases ez : (T.rd ds).fz with
        | none => rw [ez] at q; exact q.elim
        | some y => rw [ez] at q; exact key y ez q
      | ex xn =>
        dsimp only at q
        cases ez : (T.ex xn).fz with
        | none => rw [ez] at q; exact q.elim
        | some y => rw [ez] at q; exact key y ez q
      | ob xn fs ts =>
        dsimp only at q
        cases ez : (T.ob xn fs ts).fz with
        | none => rw [ez] at q; exact q.elim
        | some y => rw [ez] at q; exact key y ez q
theorem sim_move {K : PySem.W.Frag} (i : Nat) : SimE K E true (tVar i) (mMove i) := by
  intro c H tv td σ ρ hl st Q q
  obtain ⟨A, w⟩ := st
  have hlen := w.slots.len
  unfold mMove at q
  cases e : ρ[i]? with
  | none => rw [e] at q; exact q.elim
  | some o =>
    cases o with
    | none => rw [e] at q; exact q.elim
    | some t =>
      have hi : i < ρ.length := (List.getElem?_eq_some_iff.mp e).1
      have hi2 : tv.length + i < (tv ++ σ).length := by
        rw [hlen, List.length_append]; omega
      have e2 : (td ++ ρ)[tv.length + i]? = some (some t) := by rw [app_at hl.symm, e]
      obtain ⟨B, hb, ar, get⟩ := w.slots.around hi2
      obtain ⟨v, A1, e3, x, hc⟩ := get t e2
      rw [app_at rfl] at e3
      rw [e] at q
      refine ⟨v, e3, q v H (fun _ => Same.refl H) ?_⟩
      obtain ⟨C, s, z⟩ := ar.gone (some v)
      have hsl : (tv ++ σ).set (tv.length + i) (some v) = tv ++ σ := by
        rw [app_set rfl, set_self e3]
      rw [hsl, app_set hl.symm] at s
      refine ⟨A1 ++ C, w.remake (fun a => ?_) (.cons x s)⟩
      rw [List.count_append, z a, hc a]
      exact Nat.le_refl _
theorem qe_var (i : Nat) {x : Str} {pos : Pos} (hN : X.N[i]? = some x := by rfl) (hv : Vis X.env.scope x := by first | exact Or.inl rfl | exact Or.inr (Or.inl rfl) | exact Or.inr (Or.inr rfl)) (hd : (x == ("__debug__" : Str)) = false := by decide)
    (hcd : (x == ("__classdict__" : Str)) = false := by decide) : QE X E true (.Name x pos) (tVar i) (mVar i) := ⟨pe_var hN hv hd hcd, sim_var i⟩
theorem qe_move (i : Nat) {x : Str} {pos : Pos} (hN : X.N[i]? = some x := by rfl) (hv : Vis X.env.scope x := by first | exact Or.inl rfl | exact Or.inr (Or.inl rfl) | exact Or.inr (Or.inr rfl)) (hd : (x == ("__debug__" : Str)) = false := by decide)
    (hcd : (x == ("__classdict__" : Str)) = false := by decide) : QE X E true (.Name x pos) (tVar i) (mMove i) := ⟨pe_var hN hv hd hcd, sim_move i⟩
end
inductive RV where
  | v (t : T) | nl (ds : List PyData) | nt (ds : List PyData)
def RV.toT : RV → T
  | .v t => t
  | .nl ds => .ol (ds.map T.d)
  | .nt ds => .d (.tuple ds)
section
variable {K : PySem.W.Frag} {F F' : Addr → Prop} {H H' : Hp}
def RVto (K : PySem.W.Frag) (F : Addr → Prop) (H : Hp) (A : List Addr) (Q : VK) : RV → Prop
  | .v t => ∀ w C, Rp K F H w t C → (∀ a, C.count a ≤ A.count a) → Q w H
  | .nl ds => ∀ p ws, H p = none → FzAll K F H ws ds → Q (.ref p) (upd H p (.lst ws))
  | .nt ds => ∀ p ws, H p = none → FzAll K F H ws ds → Q (.ref p) (upd H p (.tup ws))
def OpV (K : PySem.W.Frag) (r : R2) (op : T → T → R RV) : Prop := ∀ (F : Addr → Prop) (H : Hp) (v u : V) (x y : T) (A B : List Addr), Rp K F H v x A → Rp K F H u y B → ∀ Q : VK, Then (op x y) (RVto K F H (A ++ B) Q) (fun _ => False) → r v u H Q
def UnV (K : PySem.W.Frag) (r : V → Hp → VK → Prop) (op : T → R RV) : Prop := ∀ (F : Addr → Prop) (H : Hp) (v : V) (x : T) (A : List Addr), Rp K F H v x A → ∀ Q : VK, Then (op x) (RVto K F H A Q) (fun _ => False) → r v H Q
theorem RpAll.ofFz : ∀ {ws : List V} {ds : List PyData}, FzAll K F H ws ds → RpAll K F H ws (ds.map T.d) []
  | _, _, .nil => .nil
  | _, _, .cons h a => .cons (A := []) (B := []) (.d h) (RpAll.ofFz a)
theorem StW.result {c : C0} {sl : List (Option V)} {ρ : Env} {A A1 B : List Addr} (hc : ∀ a, A1.count a + B.count a ≤ A.count a) (u : ∀ a, A.count a ≤ 1) (ow : ∀ a ∈ A, a ∈ c.A0 ∨ c.H0 a = none) (k : KeepC c H)
    (s : Sl K (Fok c A) H sl ρ B) {Q : VK} {z : RV} (q : ∀ v H', Same H H' → StR K c H' (some v :: sl) (some z.toT :: ρ) → Q v H') : RVto K (Fok c A) H A1 Q z := by
  have mem : ∀ {C : List Addr}, (∀ a, C.count a ≤ A.count a) → ∀ a ∈ C, a ∈ A := fun h a ha => List.count_pos_iff.mp (Nat.lt_of_lt_of_le (List.count_pos_iff.mpr ha) (h a))
  have there : ∀ a ∈ B, H a ≠ none := fun a ha e => by
    obtain ⟨u, z, _⟩ := s.own a ha
    rw [e] at z; cases z
  cases z with
  | v t =>
    intro w C x hC
    have hCB : ∀ a, (C ++ B).count a ≤ A.count a := fun a => by rw [List.count_append]; have := hC a; have := hc a; omega
    exact q w H (Same.refl H) ⟨C ++ B, fun a => Nat.le_trans (hCB a) (u a), (Sl.cons x s).mono (.sub fun a _ => Fok.sub hCB a) fun _ _ => rfl, fun a ha => ow a (mem hCB a ha), k⟩
  | nl ds =>
    intro p ws hp fz
    have hB : ∀ a, B.count a ≤ A.count a := fun a => by have := hc a; omega
    have m0 : Mono (Fok c A) (Fok c (p :: B)) H H := .sub fun a ha ⟨x, y⟩ => ⟨x, fun z => by
      rcases List.mem_cons.mp z with e | e
      · exact ha (by rw [e]; exact hp)
      · exact y (mem hB a e)⟩
    have sm := same_upd (o := .lst ws) hp
    have x1 : Rp K (Fok c (p :: B)) (upd H p (.lst ws)) (.ref p) (.ol (ds.map T.d)) [p] := .ol upd_same (RpAll.ofFz ((fz.mono m0).mono (.same sm)))
    have s1 : Sl K (Fok c (p :: B)) (upd H p (.lst ws)) sl ρ B := (s.mono m0 fun _ _ => rfl).mono (.same sm) fun a ha => by rw [upd_ne (fun e => there a ha (by rw [e]; exact hp))]
    refine q _ _ sm ⟨[p] ++ B, fun a => ?_, .cons x1 s1, fun a ha => ?_, k.grow sm⟩
    · rw [List.count_append, List.count_singleton]
      have h1 := hB a
      have h2 := u a
      by_cases e : p = a
      · subst e
        have : B.count p = 0 := List.count_eq_zero.mpr fun z => there p z hp
        simp [this]
      · have e' : (p == a) = false := by simpa using e
        simp [e']; omega
    · rcases List.mem_append.mp ha with z | z
      · have e : a = p := by simpa using z
        subst e
        exact .inr (k.there _ hp)
      · exact ow a (mem hB a z)
  | nt ds =>
    intro p ws hp fz
    have hB : ∀ a, B.count a ≤ A.count a := fun a => by have := hc a; omega
    have m0 : Mono (Fok c A) (Fok c B) H H := .sub fun a _ => Fok.sub hB a
    have sm := same_upd (o := .tup ws) hp
    have x1 : Rp K (Fok c B) (upd H p (.tup ws)) (.ref p) (.d (.tuple ds)) [] := .d (.tup (.of upd_same) ((fz.mono m0).mono (.same sm)))
    have s1 : Sl K (Fok c B) (upd H p (.tup ws)) sl ρ B := (s.mono m0 fun _ _ => rfl).mono (.same sm) fun a ha => by rw [upd_ne (fun e => there a ha (by rw [e]; exact hp))]
    exact q _ _ sm ⟨[] ++ B, fun a => Nat.le_trans (hB a) (u a), .cons x1 s1, fun a ha => ow a (mem hB a ha), k.grow sm⟩
end
section
variable {X : Cx} {E : Str → Hp → Prop} {a b : Expr} {ta tb : TE} {ma mb : MEx} {pos : Pos}
def mBin (op : T → T → R RV) (ma mb : MEx) : MEx := fun ρ => (ma ρ).bind fun x => (mb x.2).bind fun y => (op x.1 y.1).bind fun z => .ok (z.toT, y.2)
def mUn (op : T → R RV) (ma : MEx) : MEx := fun ρ => (ma ρ).bind fun x => (op x.1).bind fun z => .ok (z.toT, x.2)
theorem noexc {α : Type} {r : R α} {P : α → Prop} {P' : α → Prop} {E' : Str → Prop} (hx : ∀ c, r ≠ .exc c) (h : Then r P E') (hp : ∀ a, P a → P' a) : Then r P' (fun _ => False) := by
  cases r with
  | ok a => exact hp a h
  | exc c => exact (hx c rfl).elim
  | bad => exact h
def NoX (op : T → T → R RV) : Prop := ∀ x y c, op x y ≠ .exc c
theorem sim_bin {K : PySem.W.Frag} {r : R2} {op : T → T → R RV} (ho : OpV K r op) (hx : NoX op) {g1 g2 : Bool} (sa : SimE K E g1 ta ma) (sb : SimE K E g2 tb mb) : SimE K E (g1 && g2) (tOp r ta tb) (mBin op ma mb) := by
  intro c H tv td σ ρ hl st Q q
  unfold mBin at q
  rw [then_bind] at q
  refine sa c H tv td σ ρ hl st _ (q.imp ?_)
  intro x q1 v H1 sm1 st1
  rw [then_bind] at q1
  refine sb c H1 (some v :: tv) (some x.1 :: td) σ x.2 (by simp [hl]) st1 _ (q1.imp ?_)
  intro y q2 u H2 sm2 st2
  rw [then_bind] at q2
  obtain ⟨A, w⟩ := st2
  obtain ⟨A1, B1, rfl, x1, s1⟩ := w.top
  cases s1 with
  | cons x2 s2 =>
    rename_i A2 B2
    refine ho _ H2 v u x.1 y.1 A2 A1 x2 x1 Q (noexc (hx _ _) q2 fun z q3 => ?_)
    refine StW.result (fun a => ?_) w.uniq w.own w.keep s2 fun v' H' sm' => q3 v' H' fun e => ?_
    · simp only [List.count_append]
      omega
    · rw [Bool.and_eq_true] at e
      exact ((sm1 e.1).trans (sm2 e.2)).trans sm'
end
end L3
namespace L3
open PySem PySem.Spec PyProof.Rows L2
def T.allD : List T → Option (List PyData)
  | [] => some []
  | .d x :: r => (T.allD r).map fun xs => x :: xs
  | _ => none
def T.lst? : T → Option (List PyData)
  | .d (.list ds) => some ds
  | .ol ts => T.allD ts
  | _ => none
section
variable {K : PySem.W.Frag} {F F' : Addr → Prop} {H H' : Hp}
theorem allD_map : ∀ ds : List PyData, T.allD (ds.map T.d) = some ds
  | [] => rfl
  | x :: r => by
    show (T.allD (r.map T.d)).map (fun xs => x :: xs) = _
    rw [allD_map r]; rfl
theorem RpAll.data : ∀ {ts : List T} {vs : List V} {A : List Addr} {ds : List PyData}, RpAll K F H vs ts A → T.allD ts = some ds → FzAll K F H vs ds ∧ A = [] ∧ ts = ds.map T.d
  | [], _, _, ds, .nil, e => by
    have e' : [] = ds := Option.some.inj e
    subst e'
    exact ⟨.nil, rfl, rfl⟩
  | .d x :: r, _, _, ds, .cons h hr, e => by
    have e' : (T.allD r).map (fun xs => x :: xs) = some ds := e
    obtain ⟨ys, e1, e2⟩ := Option.map_eq_some_iff.mp e'
    subst e2
    obtain ⟨f, z, zz⟩ := hr.data e1
    cases h with
    | d h => exact ⟨.cons h f, by rw [z]; rfl, by rw [zz]; rfl⟩
  | .ol _ :: _, _, _, _, _, e => by cases e
  | .ot _ :: _, _, _, _, _, e => by cases e
  | .od _ _ :: _, _, _, _, _, e => by cases e
  | .fd _ _ _ :: _, _, _, _, _, e => by cases e
  | .fk _ _ _ :: _, _, _, _, _, e => by cases e
  | .dt _ _ _ :: _, _, _, _, _, e => by cases e
  | .no _ :: _, _, _, _, _, e => by cases e
  | .hl :: _, _, _, _, _, e => by cases e
  | .ob _ _ _ :: _, _, _, _, _, e => by cases e
  | .rd _ :: _, _, _, _, _, e => by cases e
  | .ex _ :: _, _, _, _, _, e => by cases e
theorem Rp.lst? {x : T} {v : V} {A : List Addr} {ds : List PyData} (h : Rp K F H v x A) (e : x.lst? = some ds) : ∃ a vs, v = .ref a ∧ H a = some (.lst vs) ∧ FzAll K F H vs ds := by
  cases h with
  | d h =>
    cases h with
    | lst h1 h2 h3 =>
      have e' := Option.some.inj (by simpa [T.lst?] using e)
      subst e'
      exact ⟨_, _, rfl, h1, h3⟩
    | _ => simp [T.lst?] at e
  | ol h1 h2 => exact ⟨_, _, rfl, h1, (h2.data e).1⟩
  | ot _ _ => simp [T.lst?] at e
  | od _ _ _ _ => simp [T.lst?] at e
  | fd _ _ _ _ => simp [T.lst?] at e
  | fk _ => simp [T.lst?] at e
  | dt _ _ _ _ _ _ => simp [T.lst?] at e
  | no _ => simp [T.lst?] at e
  | hl _ => simp [T.lst?] at e
  | rd _ _ => simp [T.lst?] at e
  | ex _ _ _ => simp [T.lst?] at e
  | ob _ _ _ _ => simp [T.lst?] at e
theorem FzAll.append : ∀ {vs ws : List V} {xs ys : List PyData}, FzAll K F H vs xs → FzAll K F H ws ys → FzAll K F H (vs ++ ws) (xs ++ ys)
  | _, _, _, _, .nil, h => h
  | _, _, _, _, .cons a r, h => .cons a (r.append h)
theorem Rp.i {v : V} {i : Int} {A : List Addr} (h : Rp K F H v (.d (.int i)) A) : v = .int i := by
  cases h with
  | d h => cases h; rfl
theorem Rp.b {v : V} {i : Bool} {A : List Addr} (h : Rp K F H v (.d (.bool i)) A) : v = .bl i := by
  cases h with
  | d h => cases h; rfl
theorem Rp.s {v : V} {i : Str} {A : List Addr} (h : Rp K F H v (.d (.str i)) A) : v = .str i := by
  cases h with
  | d h => cases h; rfl
theorem Rp.n {v : V} {A : List Addr} (h : Rp K F H v (.d .none) A) : v = .non := by
  cases h with
  | d h => cases h; rfl
theorem Rp.t {v : V} {xs : List PyData} {A : List Addr} (h : Rp K F H v (.d (.tuple xs)) A) : ∃ a vs, v = .ref a ∧ SqT K H a vs ∧ FzAll K F H vs xs := by
  cases h with
  | d h => cases h with
    | tup h r => exact ⟨_, _, rfl, h, r⟩
theorem rv_d {Q : VK} {A : List Addr} {v : V} {x : PyData} (q : RVto K F H A Q (.v (.d x))) (f : Fz K F H v x) : Q v H := q v [] (.d f) fun _ => by simp
end
def sLine : Nat := 16777216
theorem sLine_eq : sLine = sizeLine := sizeLine_eq.symm
def opAdd : T → T → R RV
  | .d (.int i), .d (.int j) => .ok (.v (.d (.int (i + j))))
  | .d (.int i), .d (.bool k) => .ok (.v (.d (.int (i + b2i k))))
  | .d (.str x), .d (.str y) => guard (decide (x.length + y.length ≤ sLine)) (.ok (.v (.d (.str (x ++ y)))))
  | .d (.tuple xs), .d (.tuple ys) => guard (!xs.isEmpty && !ys.isEmpty && decide (xs.length + ys.length ≤ sLine)) (.ok (.nt (xs ++ ys)))
  | x, y => match x.lst?, y.lst? with
    | some xs, some ys => guard (decide (xs.length + ys.length ≤ sLine)) (.ok (.nl (xs ++ ys)))
    | _, _ => .bad
abbrev rAddStr : R2 := fun x y H Q => ∃ i j, x = .str i ∧ y = .str j ∧ i.length + j.length ≤ sizeLine ∧ Q (.str (i ++ j)) H
abbrev rAddIB : R2 := fun x y H Q => ∃ i k, x = .int i ∧ y = .bl k ∧ Q (.int (i + b2i k)) H
def rAdd (K : PySem.W.Frag) : R2 := fun x y H Q => rI0 (fun i j => .int (i + j)) x y H Q ∨ (rAddIB x y H Q ∨ (rAddStr x y H Q ∨ (rCatT K x y H Q ∨ rCat x y H Q)))
theorem op_addA {X : Cx} : OpR X (binaryOp .Add) (rAdd X.K) := op_add.or (op_add_ib.or (op_add_str.or (op_catT.or op_cat)))
theorem guard_noexc {α : Type} {b : Bool} {r : R α} (h : ∀ c, r ≠ .exc c) (c : Str) : guard b r ≠ .exc c := by
  unfold guard
  cases b
  · (intro z; cases z)
  · exact h c
theorem opAdd_nox : NoX opAdd := by
  intro x y c
  unfold opAdd
  split
  · (intro z; cases z)
  · (intro z; cases z)
  · exact guard_noexc (by intro _ z; cases z) c
  · exact guard_noexc (by intro _ z; cases z) c
  · split
    · exact guard_noexc (by intro _ z; cases z) c
    · (intro z; cases z)
theorem opAdd_v {K : PySem.W.Frag} : OpV K (rAdd K) opAdd := by
  intro F H v u x y A B hx hy Q q
  unfold opAdd at q
  split at q
  · exact .inl ⟨_, _, hx.i, hy.i, rv_d q (.int _)⟩
  · exact .inr (.inl ⟨_, _, hx.i, hy.b, rv_d q (.int _)⟩)
  · obtain ⟨g, q⟩ := then_guard.mp q
    exact .inr (.inr (.inl ⟨_, _, hx.s, hy.s, by rw [← sLine_eq]; exact of_decide_eq_true g, rv_d q (.str _)⟩))
  · obtain ⟨g, q⟩ := then_guard.mp q
    simp only [Bool.and_eq_true, Bool.not_eq_true', List.isEmpty_eq_false_iff, decide_eq_true_eq] at g
    obtain ⟨a, vs, rfl, h1, f1⟩ := hx.t
    obtain ⟨b, ws, rfl, h2, f2⟩ := hy.t
    have l1 := f1.len
    have l2 := f2.len
    refine .inr (.inr (.inr (.inl ⟨a, b, vs, ws, rfl, rfl, h1, h2, fun e => ?_, by rw [l1, l2, ← sLine_eq]; exact g.2, fun e => ?_, fun _ p hp => q p _ hp (f1.append f2)⟩)))
    · subst e
      cases f1
      exact g.1.1 rfl
    · subst e
      cases f2
      exact (g.1.2 rfl).elim
  · split at q
    · rename_i xs ys e1 e2
      obtain ⟨g, q⟩ := then_guard.mp q
      obtain ⟨a, vs, rfl, h1, f1⟩ := hx.lst? e1
      obtain ⟨b, ws, rfl, h2, f2⟩ := hy.lst? e2
      exact .inr (.inr (.inr (.inr ⟨a, b, vs, ws, rfl, rfl, h1, h2, by rw [f1.len, f2.len, ← sLine_eq]; exact of_decide_eq_true g, fun p hp => q p _ hp (f1.append f2)⟩)))
    · exact q.elim
def opI2 (g : Int → Int → Bool) (f : Int → Int → PyData) : T → T → R RV
  | .d (.int i), .d (.int j) => guard (g i j) (.ok (.v (.d (f i j))))
  | _, _ => .bad
theorem opI2_nox {g : Int → Int → Bool} {f : Int → Int → PyData} : NoX (opI2 g f) := by
  intro x y c
  unfold opI2
  split
  · exact guard_noexc (by intro _ z; cases z) c
  · (intro z; cases z)
theorem opI2_v {K : PySem.W.Frag} {g : Int → Int → Bool} {f : Int → Int → PyData} {C : Int → Int → Prop} {h : Int → Int → V} (hg : ∀ i j, g i j = true → C i j) (hf : ∀ (F : Addr → Prop) (H : Hp) i j, Fz K F H (h i j) (f i j)) : OpV K (rI C h) (opI2 g f) := by
  intro F H v u x y A B hx hy Q q
  unfold opI2 at q
  split at q
  · obtain ⟨e, q⟩ := then_guard.mp q
    exact ⟨_, _, hx.i, hy.i, hg _ _ e, rv_d q (hf _ _ _ _)⟩
  · exact q.elim
def yes2 : Int → Int → Bool := fun _ _ => true
def mulOk (i j : Int) : Bool := !(decide (Builtin.Int.intBits i > shortFactorBits) && decide (Builtin.Int.intBits j > shortFactorBits) && Builtin.Int.intTooBig (Builtin.Int.intBits i + Builtin.Int.intBits j))
def divOk (i j : Int) : Bool := decide (j ≠ 0) && !(Builtin.divisionGoesByPylong i j)
def modOk (_ j : Int) : Bool := decide (j ≠ 0)
def powOk (i j : Int) : Bool := decide (0 ≤ j ∧ j ≤ 1000000 ∧ i.natAbs < 2 ^ 64)
def opSub := opI2 yes2 fun i j => .int (i - j)
def opMulI := opI2 mulOk fun i j => .int (i * j)
def opMod := opI2 modOk fun i j => .int (i.fmod j)
def opFdiv := opI2 divOk fun i j => .int (i.fdiv j)
def opPow := opI2 powOk fun i j => .int (i ^ j.toNat)
def opLt := opI2 yes2 fun i j => .bool (decide (i < j))
def opLe := opI2 yes2 fun i j => .bool (decide (i ≤ j))
def opGt := opI2 yes2 fun i j => .bool (decide (j < i))
def opGe := opI2 yes2 fun i j => .bool (decide (j ≤ i))
theorem rI_of0 {X : Cx} {f : Value → Value → Sem Value} {h : Int → Int → V} (o : OpR X f (rI0 h)) : OpR X f (rI (fun _ _ => True) h) := fun pins s σ H x y v u Q I rx ry ⟨i, j, e1, e2, _, q⟩ => o pins s σ H x y v u Q I rx ry ⟨i, j, e1, e2, q⟩
section
variable {X : Cx}
theorem mulOk_iff {i j : Int} : mulOk i j = true ↔ IntMulOk i j := by
  unfold mulOk IntMulOk
  rw [Bool.not_eq_true', Bool.not_eq_true]
theorem op_subA : OpR X (binaryOp .Sub) (rI (fun _ _ => True) fun i j => .int (i - j)) := rI_of0 op_sub
theorem op_mulA : OpR X (binaryOp .Mult) (rI (fun i j => mulOk i j = true) fun i j => .int (i * j)) := opI fun _ _ _ _ _ _ _ hc q => mul_int q (mulOk_iff.mp hc)
theorem op_modA : OpR X (binaryOp .Mod) (rI (fun i j => modOk i j = true) fun i j => .int (i.fmod j)) := opI fun _ _ _ _ _ _ _ hc q => mod_int' (of_decide_eq_true hc) q
theorem op_fdivA : OpR X (binaryOp .FloorDiv) (rI (fun i j => divOk i j = true) fun i j => .int (i.fdiv j)) := opI fun _ _ _ _ _ _ _ hc q => by
  unfold divOk at hc
  simp only [Bool.and_eq_true, Bool.not_eq_true', decide_eq_true_eq] at hc
  exact floordiv_int hc.1 q (.inl hc.2)
theorem op_powA : OpR X (binaryOp .Pow) (rI (fun i j => powOk i j = true) fun i j => .int (i ^ j.toNat)) := opI fun i j _ _ _ _ _ hc q => by
  obtain ⟨h1, h2, h3⟩ := of_decide_eq_true (show decide (0 ≤ j ∧ j ≤ 1000000 ∧ i.natAbs < 2 ^ 64) = true from hc)
  exact pow_int_small h1 h2 h3 q
theorem op_ltA : OpR X (compareOp .Lt) (rI (fun _ _ => True) fun i j => .bl (decide (i < j))) := rI_of0 op_lt
theorem op_gtA : OpR X (compareOp .Gt) (rI (fun _ _ => True) fun i j => .bl (decide (j < i))) := rI_of0 op_gt
end
def eqS : PyData → PyData → Option Bool
  | .int i, .int j => some (decide (i = j))
  | .bool i, .bool j => some (decide (i = j))
  | .str i, .str j => some (decide (i = j))
  | .none, .none => some true
  | _, _ => none
def eqD (x y : T) : R Bool := match x.toD, y.toD with
  | some a, some b => (match eqS a b with
    | some k => .ok k
    | none => guard (SeqAt.shaped a && SeqAt.shaped b) (.ok (PyData.eqv a b)))
  | _, _ => .bad
def opEq (x y : T) : R RV := (eqD x y).bind fun k => .ok (.v (.d (.bool k)))
def opNe (x y : T) : R RV := (eqD x y).bind fun k => .ok (.v (.d (.bool (!k))))
def rEqA (K : PySem.W.Frag) : R2 := fun x y H Q => rEq x y H Q ∨ rEqD K x y H Q
def rNeA (K : PySem.W.Frag) : R2 := fun x y H Q => rNe x y H Q ∨ rNeD K x y H Q
theorem op_eqA {X : Cx} (hu : X.A.units + 64 < cLine) : OpR X (compareOp .Eq) (rEqA X.K) := op_eq.or (op_eqD hu)
theorem op_neA {X : Cx} (hu : X.A.units + 64 < cLine) : OpR X (compareOp .NotEq) (rNeA X.K) := op_ne.or (op_neD hu)
theorem eqD_noexc {x y : T} (c : Str) : eqD x y ≠ .exc c := by
  unfold eqD
  split
  · split
    · (intro z; cases z)
    · exact guard_noexc (by intro _ z; cases z) c
  · (intro z; cases z)
theorem bind_noexc {α β : Type} {r : R α} {f : α → R β} (h1 : ∀ c, r ≠ .exc c) (h2 : ∀ a c, f a ≠ .exc c) (c : Str) : r.bind f ≠ .exc c := by
  cases r with
  | ok a => exact h2 a c
  | exc d => exact (h1 d rfl).elim
  | bad => (intro z; cases z)
theorem opEq_nox : NoX opEq := fun x y c => bind_noexc (fun _ => eqD_noexc _) (by intro _ _ z; cases z) c
theorem opNe_nox : NoX opNe := fun x y c => bind_noexc (fun _ => eqD_noexc _) (by intro _ _ z; cases z) c
section
variable {K : PySem.W.Frag} {F : Addr → Prop} {H : Hp}
theorem eqD_red {v u : V} {x y : T} {A B : List Addr} (hx : Rp K F H v x A) (hy : Rp K F H u y B) {P : Bool → Prop} (q : Then (eqD x y) P (fun _ => False)) :
    (∃ k, scal v u = true ∧ decide (v = u) = k ∧ P k) ∨ ∃ d e, Dp K H v d ∧ Dp K H u e ∧ SeqAt.shaped d = true ∧ SeqAt.shaped e = true ∧ P (PyData.eqv d e) := by
  unfold eqD at q
  split at q
  · rename_i a b e1 e2
    have d1 := hx.dp e1
    have d2 := hy.dp e2
    split at q
    · rename_i k ek
      refine .inl ⟨k, ?_⟩
      have q' : P k := q
      unfold eqS at ek
      split at ek
      · cases d1; cases d2; cases ek
        exact ⟨rfl, by simp [V.int.injEq], q'⟩
      · cases d1; cases d2; cases ek
        exact ⟨rfl, by simp [V.bl.injEq], q'⟩
      · cases d1; cases d2; cases ek
        exact ⟨rfl, by simp [V.str.injEq], q'⟩
      · cases d1; cases d2; cases ek
        exact ⟨rfl, by simp, q'⟩
      · cases ek
    · obtain ⟨g, q⟩ := then_guard.mp q
      rw [Bool.and_eq_true] at g
      exact .inr ⟨a, b, d1, d2, g.1, g.2, q⟩
  · exact q.elim
end
theorem opEq_v {K : PySem.W.Frag} : OpV K (rEqA K) opEq := by
  intro F H v u x y A B hx hy Q q
  have q' : Then (eqD x y) (fun k => Q (.bl k) H) (fun _ => False) := (then_bind.mp q).imp fun k h => rv_d h (.bl k)
  rcases eqD_red hx hy q' with ⟨k, s, e, q⟩ | ⟨d, e, h1, h2, h3, h4, q⟩
  · exact .inl ⟨s, by rw [e]; exact q⟩
  · exact .inr ⟨d, e, h1, h2, h3, h4, q⟩
theorem opNe_v {K : PySem.W.Frag} : OpV K (rNeA K) opNe := by
  intro F H v u x y A B hx hy Q q
  have q' : Then (eqD x y) (fun k => Q (.bl (!k)) H) (fun _ => False) := (then_bind.mp q).imp fun k h => rv_d h (.bl (!k))
  rcases eqD_red hx hy q' with ⟨k, s, e, q⟩ | ⟨d, e, h1, h2, h3, h4, q⟩
  · exact .inl ⟨s, by rw [e]; exact q⟩
  · exact .inr ⟨d, e, h1, h2, h3, h4, q⟩
def T.isNone : T → Bool
  | .d .none => true
  | .no .non => true
  | _ => false
def opIsN (x y : T) : R RV := guard y.isNone (.ok (.v (.d (.bool x.isNone))))
def opNotN (x y : T) : R RV := guard y.isNone (.ok (.v (.d (.bool (!x.isNone)))))
def opIdx : T → T → R RV
  | .d (.list ds), .d (.int i) => (ofO (atI ds i)).bind fun x => .ok (.v (.d x))
  | .d (.tuple ds), .d (.int i) => (ofO (atI ds i)).bind fun x => .ok (.v (.d x))
  | .d (.str z), .d (.int i) => guard (decide (z.length ≤ sLine)) ((ofO (atI z.cps.toList i)).bind fun c => .ok (.v (.d (.str ⟨#[c]⟩))))
  | .ol ts, .d (.int i) => (ofO (atI ts i)).bind fun x => .ok (.v x)
  | .ot ts, .d (.int i) => (ofO (atI ts i)).bind fun x => .ok (.v x)
  | .rd ds, .d (.int i) => (ofO (atI ds i)).bind fun x => .ok (.v (.d x))
  | _, _ => .bad
theorem ofO_noexc {α : Type} {o : Option α} (c : Str) : ofO o ≠ .exc c := by
  cases o <;> (intro z; cases z)
theorem opIdx_nox : NoX opIdx := by
  intro x y c
  unfold opIdx
  split
  · exact bind_noexc (fun _ => ofO_noexc _) (by intro _ _ z; cases z) c
  · exact bind_noexc (fun _ => ofO_noexc _) (by intro _ _ z; cases z) c
  · exact guard_noexc (bind_noexc (fun _ => ofO_noexc _) (by intro _ _ z; cases z)) c
  · exact bind_noexc (fun _ => ofO_noexc _) (by intro _ _ z; cases z) c
  · exact bind_noexc (fun _ => ofO_noexc _) (by intro _ _ z; cases z) c
  · exact bind_noexc (fun _ => ofO_noexc _) (by intro _ _ z; cases z) c
  · (intro z; cases z)
section
variable {K : PySem.W.Frag} {F : Addr → Prop} {H : Hp}
theorem atI_rel {α β : Type} {xs : List α} {ys : List β} (hl : ys.length = xs.length) {P : α → β → Prop} (g : ∀ (j : Nat) (x : α), xs[j]? = some x → ∃ y, ys[j]? = some y ∧ P x y) {i : Int} {x : α} (h : atI xs i = some x) : ∃ y, atI ys i = some y ∧ P x y := by
  unfold atI at h ⊢
  rw [hl]
  obtain ⟨j, e1, e2⟩ := Option.bind_eq_some_iff.mp h
  obtain ⟨y, e3, p⟩ := g j x e2
  exact ⟨y, by rw [e1]; exact e3, p⟩
end
theorem opIdx_v {K : PySem.W.Frag} : OpV K (rIx K) opIdx := by
  intro F H v u x y A B hx hy Q q
  unfold opIdx at q
  split at q
  · obtain ⟨z, e, q⟩ := then_ofO.mp (then_bind.mp q)
    obtain ⟨a, vs, rfl, h1, f1⟩ := hx.lst? (ds := _) rfl
    obtain ⟨w, e2, p⟩ := atI_rel f1.len (fun j x hx => f1.get hx) e
    exact .inl ⟨a, vs, _, w, rfl, hy.i, .of h1, e2, rv_d q p⟩
  · obtain ⟨z, e, q⟩ := then_ofO.mp (then_bind.mp q)
    obtain ⟨a, vs, rfl, h1, f1⟩ := hx.t
    obtain ⟨w, e2, p⟩ := atI_rel f1.len (fun j x hx => f1.get hx) e
    exact .inr (.inl ⟨a, vs, _, w, rfl, hy.i, h1, e2, rv_d q p⟩)
  · obtain ⟨g, q⟩ := then_guard.mp q
    obtain ⟨z, e, q⟩ := then_ofO.mp (then_bind.mp q)
    exact .inr (.inr ⟨_, _, z, hx.s, hy.i, by rw [← sLine_eq]; exact of_decide_eq_true g, e, rv_d q (.str _)⟩)
  · obtain ⟨z, e, q⟩ := then_ofO.mp (then_bind.mp q)
    cases hx with
    | ol h1 r =>
      obtain ⟨w, e2, C, p, hc⟩ := atI_rel (P := fun t w => ∃ C, Rp K F H w t C ∧ ∀ a, C.count a ≤ _) r.len (fun j x hx => by
        obtain ⟨w, C, e, p, hc⟩ := r.get hx
        exact ⟨w, e, C, p, hc⟩) e
      exact .inl ⟨_, _, _, w, rfl, hy.i, .of h1, e2, q w C p fun b => by have := hc b; rw [List.count_append, List.count_cons]; omega⟩
  · obtain ⟨z, e, q⟩ := then_ofO.mp (then_bind.mp q)
    cases hx with
    | ot h1 r =>
      obtain ⟨w, e2, C, p, hc⟩ := atI_rel (P := fun t w => ∃ C, Rp K F H w t C ∧ ∀ a, C.count a ≤ _) r.len (fun j x hx => by
        obtain ⟨w, C, e, p, hc⟩ := r.get hx
        exact ⟨w, e, C, p, hc⟩) e
      exact .inr (.inl ⟨_, _, _, w, rfl, hy.i, .of h1, e2, q w C p fun b => by have := hc b; rw [List.count_append]; omega⟩)
  · obtain ⟨z, e, q⟩ := then_ofO.mp (then_bind.mp q)
    cases hx with
    | rd h1 f1 =>
      obtain ⟨w, e2, p⟩ := atI_rel f1.len (fun j x hx => f1.get hx) e
      exact .inl ⟨_, _, _, w, rfl, hy.i, h1.sq, e2, rv_d q p⟩
  · exact q.elim
end L3
namespace L3
open PySem PySem.Spec PyProof.Rows L2
abbrev MP := Env → Option T
def SimP (K : PySem.W.Frag) (te : TE) (m : MP) : Prop :=
  ∀ (c : C0) (H : Hp) (tv : List (Option V)) (td : Env) (σ : L2.St) (ρ : Env) (A : List Addr) (t : T), tv.length = td.length → StW K c H (tv ++ σ) (td ++ ρ) A → m ρ = some t → ∀ Q : VK,
    (∀ v A1, Rp K (Fok c A) H v t A1 → (∀ a ∈ A1, a ∈ A) → Q v H) → te σ H Q
structure QP (X : Cx) (e : Expr) (te : TE) (m : MP) : Prop where
  pe : PE X e te
  sim : SimP X.K te m
def mLift (m : MP) : MEx := fun ρ => match m ρ with | some (.d x) => .ok (.d x, ρ) | _ => .bad
def okV : R RV → Option T
  | .ok (.v t) => some t
  | _ => none
def pVar (i : Nat) : MP := fun ρ => match ρ[i]? with | some (some t) => some t | _ => none
def pC (x : PyData) : MP := fun _ => some (.d x)
def pBin (op : T → T → R RV) (ma mb : MP) : MP := fun ρ => (ma ρ).bind fun x => (mb ρ).bind fun y => okV (op x y)
def pUn (op : T → R RV) (ma : MP) : MP := fun ρ => (ma ρ).bind fun x => okV (op x)
section
variable {X : Cx} {E : Str → Hp → Prop} {e a b : Expr} {te ta tb : TE} {m ma mb : MP} {pos : Pos}
theorem QP.lift (h : QP X e te m) : QE X E true e te (mLift m) := by
  refine ⟨h.pe, fun c H tv td σ ρ hl st Q q => ?_⟩
  obtain ⟨A, w⟩ := st
  unfold mLift at q
  cases e1 : m ρ with
  | none => rw [e1] at q; exact q.elim
  | some t =>
    rw [e1] at q
    cases t with
    | d x =>
      refine h.sim c H tv td σ ρ A _ hl w e1 Q fun v A1 r _ => ?_
      cases r with
      | d f => exact q v H (fun _ => Same.refl H) ⟨A, w.pushD f⟩
    | _ => exact q.elim
theorem qp_int {i : Int} {j : Nat} {pos : Pos} : QP X (.Constant (.int i) j pos) (tC (.int i)) (pC (.int i)) := ⟨pe_int, fun c H tv td σ ρ A t _ _ e Q q => by cases e; exact q _ [] (.d (.int i)) fun _ z => by simp at z⟩
theorem qp_bl {i : Bool} {j : Nat} {pos : Pos} : QP X (.Constant (.bool i) j pos) (tC (.bl i)) (pC (.bool i)) := ⟨pe_bl, fun c H tv td σ ρ A t _ _ e Q q => by cases e; exact q _ [] (.d (.bl i)) fun _ z => by simp at z⟩
theorem qp_str {i : Str} {j : Nat} {pos : Pos} : QP X (.Constant (.str i) j pos) (tC (.str i)) (pC (.str i)) := ⟨pe_str, fun c H tv td σ ρ A t _ _ e Q q => by cases e; exact q _ [] (.d (.str i)) fun _ z => by simp at z⟩
theorem StW.see {K : PySem.W.Frag} {c : C0} {H : Hp} {tv : List (Option V)} {td : Env} {σ : L2.St} {ρ : Env} {A : List Addr} (hl : tv.length = td.length) (w : StW K c H (tv ++ σ) (td ++ ρ) A) {i : Nat} {t : T} (e : ρ[i]? = some (some t)) :
    ∃ v A1, σ[i]? = some (some v) ∧ Rp K (Fok c A) H v t A1 ∧ ∀ a ∈ A1, a ∈ A := by
  have hlen := w.slots.len
  have hi : i < ρ.length := (List.getElem?_eq_some_iff.mp e).1
  have hi2 : tv.length + i < (tv ++ σ).length := by
    rw [hlen, List.length_append]; omega
  obtain ⟨B, hb, ar, get⟩ := w.slots.around hi2
  obtain ⟨v, A1, e3, x, hc⟩ := get t (by rw [app_at hl.symm, e])
  rw [app_at rfl] at e3
  exact ⟨v, A1, e3, x, fun a ha => List.count_pos_iff.mp (by have := hc a; have := List.count_pos_iff.mpr ha; omega)⟩
theorem sim_pvar {K : PySem.W.Frag} (i : Nat) : SimP K (tVar i) (pVar i) := by
  intro c H tv td σ ρ A t hl w e Q q
  unfold pVar at e
  split at e
  · rename_i e0
    cases e
    obtain ⟨v, A1, e3, x, hc⟩ := w.see hl e0
    exact ⟨v, e3, q v A1 x hc⟩
  · cases e
theorem qp_var (i : Nat) {x : Str} {pos : Pos} (hN : X.N[i]? = some x := by rfl) (hv : Vis X.env.scope x := by first | exact Or.inl rfl | exact Or.inr (Or.inl rfl) | exact Or.inr (Or.inr rfl)) (hd : (x == ("__debug__" : Str)) = false := by decide)
    (hcd : (x == ("__classdict__" : Str)) = false := by decide) : QP X (.Name x pos) (tVar i) (pVar i) := ⟨pe_var hN hv hd hcd, sim_pvar i⟩
theorem then_okV {z : R RV} {t : T} (e : okV z = some t) {P : RV → Prop} (h : P (.v t)) : Then z P (fun _ => False) := by
  unfold okV at e
  split at e
  · cases e; exact h
  · cases e
theorem sim_pbin {K : PySem.W.Frag} {r : R2} {op : T → T → R RV} (ho : OpV K r op) (sa : SimP K ta ma) (sb : SimP K tb mb) : SimP K (tOp r ta tb) (pBin op ma mb) := by
  intro c H tv td σ ρ A t hl w e Q q
  unfold pBin at e
  obtain ⟨x, e1, e⟩ := Option.bind_eq_some_iff.mp e
  obtain ⟨y, e2, e⟩ := Option.bind_eq_some_iff.mp e
  refine sa c H tv td σ ρ A x hl w e1 _ fun v A1 r1 h1 => ?_
  refine sb c H tv td σ ρ A y hl w e2 _ fun u A2 r2 h2 => ?_
  refine ho _ H v u x y A1 A2 r1 r2 Q (then_okV e ?_)
  intro w' C r3 h3
  refine q w' C r3 fun a ha => ?_
  have z := h3 a
  rw [List.count_append] at z
  have z2 := List.count_pos_iff.mpr ha
  by_cases hA : a ∈ A1
  · exact h1 a hA
  · have := List.count_eq_zero.mpr hA
    exact h2 a (List.count_pos_iff.mp (by omega))
theorem sim_pun {K : PySem.W.Frag} {r : V → Hp → VK → Prop} {op : T → R RV} (ho : UnV K r op) (sa : SimP K ta ma) : SimP K (tUn r ta) (pUn op ma) := by
  intro c H tv td σ ρ A t hl w e Q q
  unfold pUn at e
  obtain ⟨x, e1, e⟩ := Option.bind_eq_some_iff.mp e
  refine sa c H tv td σ ρ A x hl w e1 _ fun v A1 r1 h1 => ?_
  refine ho _ H v x A1 r1 Q (then_okV e ?_)
  intro w' C r3 h3
  exact q w' C r3 fun a ha => h1 a (List.count_pos_iff.mp (Nat.lt_of_lt_of_le (List.count_pos_iff.mpr ha) (h3 a)))
theorem qp_op {op : Operator} {r : R2} {f : T → T → R RV} (ho : OpR X (binaryOp op) r) (hv : OpV X.K r f) (ha : QP X a ta ma) (hb : QP X b tb mb) : QP X (.BinOp a op b pos) (tOp r ta tb) (pBin f ma mb) := ⟨pe_op ho ha.pe hb.pe, sim_pbin hv ha.sim hb.sim⟩
theorem qp_cmp {op : CmpOp} {r : R2} {f : T → T → R RV} (ho : OpR X (compareOp op) r) (hv : OpV X.K r f) (ha : QP X a ta ma) (hb : QP X b tb mb) (hm : behindInMarks op b = false) : QP X (.Compare a [op] [b] pos) (tOp r ta tb) (pBin f ma mb) := ⟨pe_cmpR ho ha.pe hb.pe hm, sim_pbin hv ha.sim hb.sim⟩
theorem qp_ix (ha : QP X a ta ma) (hb : QP X b tb mb) (hs : PlainIx b := by exact fun _ _ => rfl) : QP X (.Subscript a b pos) (tOp (rIx X.K) ta tb) (pBin opIdx ma mb) := ⟨pe_ix ix_seq ha.pe hb.pe hs, sim_pbin opIdx_v ha.sim hb.sim⟩
theorem qe_op {op : Operator} {r : R2} {f : T → T → R RV} {ma mb : MEx} (ho : OpR X (binaryOp op) r) (hv : OpV X.K r f) (hx : NoX f) {g1 g2 : Bool} (ha : QE X E g1 a ta ma) (hb : QE X E g2 b tb mb) : QE X E (g1 && g2) (.BinOp a op b pos) (tOp r ta tb) (mBin f ma mb) := ⟨pe_op ho ha.pe hb.pe, sim_bin hv hx ha.sim hb.sim⟩
theorem qe_cmp {op : CmpOp} {r : R2} {f : T → T → R RV} {ma mb : MEx} (ho : OpR X (compareOp op) r) (hv : OpV X.K r f) (hx : NoX f) {g1 g2 : Bool} (ha : QE X E g1 a ta ma) (hb : QE X E g2 b tb mb) (hm : behindInMarks op b = false) : QE X E (g1 && g2) (.Compare a [op] [b] pos) (tOp r ta tb) (mBin f ma mb) := ⟨pe_cmpR ho ha.pe hb.pe hm, sim_bin hv hx ha.sim hb.sim⟩
theorem qe_ix {ma mb : MEx} {g1 g2 : Bool} (ha : QE X E g1 a ta ma) (hb : QE X E g2 b tb mb) (hs : PlainIx b := by exact fun _ _ => rfl) : QE X E (g1 && g2) (.Subscript a b pos) (tOp (rIx X.K) ta tb) (mBin opIdx ma mb) := ⟨pe_ix ix_seq ha.pe hb.pe hs, sim_bin opIdx_v opIdx_nox ha.sim hb.sim⟩
end
abbrev MA := Env → R (List T × Env)
def SimA (K : PySem.W.Frag) (E : Str → Hp → Prop) (gr : Bool) (ta : TA) (m : MA) : Prop :=
  ∀ (c : C0) (H : Hp) (tv : List (Option V)) (td : Env) (σ : L2.St) (ρ : Env), tv.length = td.length → StR K c H (tv ++ σ) (td ++ ρ) → ∀ Q : List V → Hp → Prop,
    Then (m ρ) (fun r => ∀ vs H', (gr = true → Same H H') → vs.length = r.1.length → StR K c H' (vs.map some ++ (tv ++ σ)) (r.1.map some ++ (td ++ r.2)) → Q vs H') (fun x => ∀ H', KeepC c H' → E x H') → ta σ H Q
structure QA (X : Cx) (E : Str → Hp → Prop) (gr : Bool) (es : List Expr) (ta : TA) (m : MA) : Prop where
  pa : PA X es ta
  sim : SimA X.K E gr ta m
  len : ∀ ρ r, m ρ = .ok r → r.1.length = es.length
def mNil : MA := fun ρ => .ok ([], ρ)
def mCons (m : MEx) (r : MA) : MA := fun ρ => (m ρ).bind fun x => (r x.2).bind fun y => .ok (x.1 :: y.1, y.2)
abbrev MPA := Env → Option (List T)
def SimPA (K : PySem.W.Frag) (ta : TA) (m : MPA) : Prop :=
  ∀ (c : C0) (H : Hp) (tv : List (Option V)) (td : Env) (σ : L2.St) (ρ : Env) (A : List Addr) (ts : List T), tv.length = td.length → StW K c H (tv ++ σ) (td ++ ρ) A → m ρ = some ts → ∀ Q : List V → Hp → Prop,
    (∀ vs A1, RpAll K (Fok c A) H vs ts A1 → (∀ a ∈ A1, a ∈ A) → Q vs H) → ta σ H Q
structure QPA (X : Cx) (es : List Expr) (ta : TA) (m : MPA) : Prop where
  pa : PA X es ta
  sim : SimPA X.K ta m
def pNil : MPA := fun _ => some []
def pCons (m : MP) (r : MPA) : MPA := fun ρ => (m ρ).bind fun x => (r ρ).bind fun y => some (x :: y)
section
variable {X : Cx} {E : Str → Hp → Prop} {e a b : Expr} {es : List Expr} {te ta tb : TE} {t : TA} {m ma mb : MEx} {r : MA} {pos : Pos}
theorem qa_nil : QA X E true [] tNil mNil := ⟨pa_nil, fun c H tv td σ ρ hl st Q q => q [] H (fun _ => Same.refl H) rfl st, fun ρ r e => by cases e; rfl⟩
theorem qa_cons {g1 g2 : Bool} (h : QE X E g1 e te m) (hr : QA X E g2 es t r) (hs : starEach (e :: es) X.env = (false, eval e X.env) :: starEach es X.env := by rfl) : QA X E (g1 && g2) (e :: es) (tCons te t) (mCons m r) := by
  refine ⟨pa_cons h.pe hr.pa hs, fun c H tv td σ ρ hl st Q q => ?_, fun ρ z ez => ?_⟩
  · unfold mCons at q
    rw [then_bind] at q
    refine h.sim c H tv td σ ρ hl st _ (q.imp ?_)
    intro x q1 v H1 sm1 st1
    rw [then_bind] at q1
    refine hr.sim c H1 (some v :: tv) (some x.1 :: td) σ x.2 (by simp [hl]) st1 _ (q1.imp ?_)
    intro y q2 vs H2 sm2 hvs st2
    refine q2 (v :: vs) H2 (fun e => by rw [Bool.and_eq_true] at e; exact (sm1 e.1).trans (sm2 e.2)) (by simp [hvs]) ?_
    exact StR.raise (xs := vs.map some) (as := y.1.map some) (by simp [hvs]) st2
  · unfold mCons at ez
    cases e1 : m ρ with
    | ok x =>
      rw [e1] at ez
      cases e2 : r x.2 with
      | ok y =>
        have ez' : (R.ok (x.1 :: y.1, y.2) : R (List T × Env)) = .ok z := by rw [← ez]; show _ = (r x.2).bind _; rw [e2]; rfl
        cases ez'
        simp [hr.len _ _ e2]
      | exc _ => have ez' : (r x.2).bind (fun y => R.ok (x.1 :: y.1, y.2)) = R.ok z := ez; rw [e2] at ez'; cases ez'
      | bad => have ez' : (r x.2).bind (fun y => R.ok (x.1 :: y.1, y.2)) = R.ok z := ez; rw [e2] at ez'; cases ez'
    | exc _ => rw [e1] at ez; cases ez
    | bad => rw [e1] at ez; cases ez
theorem qpa_nil : QPA X [] tNil pNil := ⟨pa_nil, fun c H tv td σ ρ A ts _ _ e Q q => by cases e; exact q [] [] .nil fun _ z => by simp at z⟩
theorem qpa_cons {m : MP} {r : MPA} (h : QP X e te m) (hr : QPA X es t r) (hs : starEach (e :: es) X.env = (false, eval e X.env) :: starEach es X.env := by rfl) : QPA X (e :: es) (tCons te t) (pCons m r) := by
  refine ⟨pa_cons h.pe hr.pa hs, fun c H tv td σ ρ A ts hl w e Q q => ?_⟩
  unfold pCons at e
  obtain ⟨x, e1, e⟩ := Option.bind_eq_some_iff.mp e
  obtain ⟨y, e2, e⟩ := Option.bind_eq_some_iff.mp e
  cases e
  refine h.sim c H tv td σ ρ A x hl w e1 _ fun v A1 r1 h1 => ?_
  refine hr.sim c H tv td σ ρ A y hl w e2 _ fun vs A2 r2 h2 => ?_
  exact q (v :: vs) (A1 ++ A2) (.cons r1 r2) fun a ha => (List.mem_append.mp ha).elim (h1 a) (h2 a)
section
variable {K : PySem.W.Frag} {F : Addr → Prop} {H : Hp}
theorem Sl.front : ∀ {vs : List V} {ts : List T} {sl : List (Option V)} {ρ : Env} {A : List Addr}, vs.length = ts.length → Sl K F H (vs.map some ++ sl) (ts.map some ++ ρ) A → ∃ A1 B, A = A1 ++ B ∧ RpAll K F H vs ts A1 ∧ Sl K F H sl ρ B
  | [], [], _, _, A, _, h => ⟨[], A, rfl, .nil, h⟩
  | v :: vs, t :: ts, _, _, _, hl, h => by
    cases h with
    | cons x r =>
      obtain ⟨A1, B, e, ra, s⟩ := r.front (by simpa using hl)
      exact ⟨_, B, by rw [e, ← List.append_assoc], .cons x ra, s⟩
  | [], _ :: _, _, _, _, hl, _ => by simp at hl
  | _ :: _, [], _, _, _, hl, _ => by simp at hl
end
def mkTup (ts : List T) : T := match T.allD ts with | some ds => .d (.tuple ds) | none => .ot ts
def mTup (m : MA) : MEx := fun ρ => (m ρ).bind fun r => .ok (mkTup r.1, r.2)
def mLst (m : MA) : MEx := fun ρ => (m ρ).bind fun r => .ok (.ol r.1, r.2)
theorem sz1000 {n : Nat} (h : n ≤ 1000) : n ≤ sizeLine := Nat.le_trans h (by decide)
theorem qe_tup {k : Nat} {ma : MA} {g1 : Bool} (h : QA X E g1 es t ma) (hz : es.length ≤ 1000 := by decide) : QE X E g1 (.Tuple es k pos) (tTup t) (mTup ma) := by
  refine ⟨pe_tup h.pa, fun c H tv td σ ρ hl st Q q => ?_⟩
  unfold mTup at q
  rw [then_bind] at q
  refine h.sim c H tv td σ ρ hl st _ ?_
  have hlen := h.len ρ
  cases e : ma ρ with
  | bad => rw [e] at q; exact q.elim
  | exc x => rw [e] at q; exact q
  | ok r =>
    rw [e] at q
    intro vs H1 sm1 hvs st1
    have hn := hlen r e
    refine ⟨sz1000 (by omega), fun p hp => q _ _ (fun e => (sm1 e).trans (same_upd hp)) ?_⟩
    obtain ⟨A, w⟩ := st1
    obtain ⟨A1, B, eA, ra, s⟩ := w.slots.front hvs
    have sm := same_upd (o := .tup vs) hp
    have w2 := w.grow sm
    have eq1 : ∀ a ∈ A, (upd H1 p (.tup vs)) a = H1 a := fun a ha => upd_ne (fun z => w.not_mem_of_none hp (by rw [← z]; exact ha))
    have ra2 := ra.mono (.same sm) fun a ha => eq1 a (by rw [eA]; exact List.mem_append_left _ ha)
    have s2 := s.mono (.same sm) fun a ha => eq1 a (by rw [eA]; exact List.mem_append_right _ ha)
    refine ⟨A1 ++ B, w2.remake (fun a => by rw [eA]; exact Nat.le_refl _) (.cons ?_ s2)⟩
    show Rp X.K (Fok c A) (upd H1 p (.tup vs)) (.ref p) (mkTup r.1) A1
    unfold mkTup
    cases ed : T.allD r.1 with
    | none => exact .ot upd_same ra2
    | some ds =>
      obtain ⟨f, z, _⟩ := ra2.data ed
      subst z
      exact .d (.tup (.of upd_same) f)
theorem qe_lst {ma : MA} {g1 : Bool} (h : QA X E g1 es t ma) (hz : es.length ≤ 1000 := by decide) : QE X E g1 (.List es pos) (tLst t) (mLst ma) := by
  refine ⟨pe_lst h.pa, fun c H tv td σ ρ hl st Q q => ?_⟩
  unfold mLst at q
  rw [then_bind] at q
  refine h.sim c H tv td σ ρ hl st _ ?_
  have hlen := h.len ρ
  cases e : ma ρ with
  | bad => rw [e] at q; exact q.elim
  | exc x => rw [e] at q; exact q
  | ok r =>
    rw [e] at q
    intro vs H1 sm1 hvs st1
    have hn := hlen r e
    refine ⟨sz1000 (by omega), fun p hp => q _ _ (fun e => (sm1 e).trans (same_upd hp)) ?_⟩
    obtain ⟨A, w⟩ := st1
    obtain ⟨A1, B, eA, ra, s⟩ := w.slots.front hvs
    have sm := same_upd (o := .lst vs) hp
    have m0 : Mono (Fok c A) (Fok c (p :: A)) H1 H1 := Fok.fresh hp
    have eq1 : ∀ a ∈ A, (upd H1 p (.lst vs)) a = H1 a := fun a ha => upd_ne (fun z => w.not_mem_of_none hp (by rw [← z]; exact ha))
    have ra2 := (ra.mono m0 fun _ _ => rfl).mono (.same sm) fun a ha => eq1 a (by rw [eA]; exact List.mem_append_left _ ha)
    have s2 := (s.mono m0 fun _ _ => rfl).mono (.same sm) fun a ha => eq1 a (by rw [eA]; exact List.mem_append_right _ ha)
    have ec : (p :: A1) ++ B = p :: A := by rw [eA]; rfl
    have cc : Sl X.K (Fok c (p :: A)) (upd H1 p (.lst vs)) (some (.ref p) :: (tv ++ σ)) (some (.ol r.1) :: (td ++ r.2)) ((p :: A1) ++ B) := .cons (.ol upd_same ra2) s2
    rw [ec] at cc
    refine ⟨p :: A, fun a => ?_, cc, fun a ha => ?_, w.keep.grow sm⟩
    · rw [List.count_cons]
      have h2 := w.uniq a
      by_cases e : p = a
      · subst e
        have : A.count p = 0 := List.count_eq_zero.mpr (w.not_mem_of_none hp)
        simp [this]
      · have e' : (p == a) = false := by simpa using e
        simp [e']; omega
    · rcases List.mem_cons.mp ha with z | z
      · subst z
        exact .inr (w.keep.there _ hp)
      · exact w.own a z
def CallV (K : PySem.W.Frag) (r : List V → Hp → VK → Prop) (op : List T → R RV) : Prop := ∀ (F : Addr → Prop) (H : Hp) (vs : List V) (ts : List T) (A : List Addr), RpAll K F H vs ts A → ∀ Q : VK, Then (op ts) (RVto K F H A Q) (fun _ => False) → r vs H Q
def NoXL (op : List T → R RV) : Prop := ∀ x c, op x ≠ .exc c
def mCallB (op : List T → R RV) (m : MA) : MEx := fun ρ => (m ρ).bind fun r => (op r.1).bind fun z => .ok (z.toT, r.2)
def pCallB (op : List T → R RV) (m : MPA) : MP := fun ρ => (m ρ).bind fun ts => okV (op ts)
theorem sim_callB {K : PySem.W.Frag} {rr : List V → Hp → VK → Prop} {op : List T → R RV} {ma : MA} (ho : CallV K rr op) (hx : NoXL op) {g1 : Bool} (sa : SimA K E g1 t ma) : SimE K E g1 (tCB rr t) (mCallB op ma) := by
  intro c H tv td σ ρ hl st Q q
  unfold mCallB at q
  rw [then_bind] at q
  refine sa c H tv td σ ρ hl st _ (q.imp ?_)
  intro x q1 vs H1 sm1 hvs st1
  rw [then_bind] at q1
  obtain ⟨A, w⟩ := st1
  obtain ⟨A1, B, eA, ra, s⟩ := w.slots.front hvs
  refine ho _ H1 vs x.1 A1 ra Q (noexc (hx _) q1 fun z q3 => ?_)
  refine StW.result (fun a => ?_) w.uniq w.own w.keep s fun v' H' sm' => q3 v' H' fun e => (sm1 e).trans sm'
  rw [eA, List.count_append]
  omega
theorem sim_pcallB {K : PySem.W.Frag} {rr : List V → Hp → VK → Prop} {op : List T → R RV} {ma : MPA} (ho : CallV K rr op) (sa : SimPA K t ma) : SimP K (tCB rr t) (pCallB op ma) := by
  intro c H tv td σ ρ A tt hl w e Q q
  unfold pCallB at e
  obtain ⟨x, e1, e⟩ := Option.bind_eq_some_iff.mp e
  refine sa c H tv td σ ρ A x hl w e1 _ fun vs A1 r1 h1 => ?_
  refine ho _ H vs x A1 r1 Q (then_okV e ?_)
  intro w' C r3 h3
  exact q w' C r3 fun a ha => h1 a (List.count_pos_iff.mp (Nat.lt_of_lt_of_le (List.count_pos_iff.mpr ha) (h3 a)))
variable {x : Str} {p : Pos} {id TY : String} {rr : List V → Hp → VK → Prop} {op : List T → R RV}
theorem qp_callB {ma : MPA} (hc : CallR X (.builtin id) rr) (hv : CallV X.K rr op) (hm : X.mg x = none) (hb : bootBuiltins x = some (.builtin id)) (ha : QPA X (e :: es) t ma) (hg : Gl X x := by rfl) (hn : x ≠ "__name__" := by decide) (hdb : (x == ("__debug__" : Str)) = false := by decide)
    (he : starEach (e :: es) X.env = (false, eval e X.env) :: starEach es X.env := by rfl) (hpl : (backTo pos (starEach es X.env)).any (·.1) = false := by rfl) : QP X (.Call (.Name x p) (e :: es) [] pos) (tCB rr t) (pCallB op ma) :=
  ⟨pe_callB hc hg hm hb ha.pa hn hdb he hpl, sim_pcallB hv ha.sim⟩
theorem qe_callTy {ma : MA} (hc : CallR X (.type TY) rr) (hv : CallV X.K rr op) (hx : NoXL op) (hm : X.mg x = none) (hb : bootBuiltins x = some (.type TY)) {g1 : Bool} (ha : QA X E g1 (e :: es) t ma) (hg : Gl X x := by rfl) (hn : x ≠ "__name__" := by decide) (hdb : (x == ("__debug__" : Str)) = false := by decide)
    (he : starEach (e :: es) X.env = (false, eval e X.env) :: starEach es X.env := by rfl) (hpl : (backTo pos (starEach es X.env)).any (·.1) = false := by rfl) : QE X E g1 (.Call (.Name x p) (e :: es) [] pos) (tCB rr t) (mCallB op ma) :=
  ⟨pe_callTy hc hg hm hb ha.pa hn hdb he hpl, sim_callB hv hx ha.sim⟩
end
end L3
namespace L3
open PySem PySem.Spec PyProof.Rows L2
abbrev MT := Env → R (Bool × Env)
def SimT (K : PySem.W.Frag) (E : Str → Hp → Prop) (tt : TT) (m : MT) : Prop :=
  ∀ (c : C0) (H : Hp) (tv : List (Option V)) (td : Env) (σ : L2.St) (ρ : Env), tv.length = td.length → StR K c H (tv ++ σ) (td ++ ρ) → ∀ Q : Bool → Hp → Prop,
    Then (m ρ) (fun r => ∀ H', StR K c H' (tv ++ σ) (td ++ r.2) → Q r.1 H') (fun x => ∀ H', KeepC c H' → E x H') → tt σ H Q
structure QT (X : Cx) (E : Str → Hp → Prop) (e : Expr) (tt : TT) (m : MT) : Prop where
  pt : PT X e tt
  sim : SimT X.K E tt m
structure QW (X : Cx) (E : Str → Hp → Prop) (e : Expr) (tt : TT) (m : MT) : Prop where
  pw : PW X e tt
  sim : SimT X.K E tt m
def mTest (m : MEx) : MT := fun ρ => (m ρ).bind fun r => match r.1 with | .d (.bool b) => .ok (b, r.2) | _ => .bad
def T.truth : T → Option Bool
  | .d .none => some false
  | .d (.bool b) => some b
  | .d (.int i) => some (i != 0)
  | .d (.list ds) => some (!ds.isEmpty)
  | .d (.tuple ds) => some (!ds.isEmpty)
  | .ol ts => some (!ts.isEmpty)
  | _ => none
def mTruth (m : MP) : MT := fun ρ => match (m ρ).bind T.truth with | some b => .ok (b, ρ) | none => .bad
def mNot (m : MT) : MT := fun ρ => (m ρ).bind fun r => .ok (!r.1, r.2)
def mAnd (m n : MT) : MT := fun ρ => (m ρ).bind fun r => if r.1 = true then n r.2 else .ok (false, r.2)
def mOr (m n : MT) : MT := fun ρ => (m ρ).bind fun r => if r.1 = true then .ok (true, r.2) else n r.2
def mIf (m : MT) (a b : MEx) : MEx := fun ρ => (m ρ).bind fun r => if r.1 = true then a r.2 else b r.2
section
variable {X : Cx} {E : Str → Hp → Prop} {e a b c' : Expr} {es : List Expr} {te ta tb : TE} {tt tu : TT} {m ma mb : MEx} {mt mu : MT} {g1 g2 : Bool} {pos : Pos}
theorem sim_test {K : PySem.W.Frag} {g : Bool} (s : SimE K E g te m) : SimT K E (tTest te) (mTest m) := by
  intro c H tv td σ ρ hl st Q q
  unfold mTest at q
  rw [then_bind] at q
  refine s c H tv td σ ρ hl st _ (q.imp ?_)
  rintro ⟨t, ρ1⟩ q1 v H1 _ st1
  dsimp only at q1
  split at q1
  · obtain ⟨A, w⟩ := st1
    obtain ⟨f, w'⟩ := w.topD
    cases f
    exact ⟨_, rfl, q1 H1 ⟨A, w'⟩⟩
  · exact q1.elim
theorem qt_cmp {op : CmpOp} {r : R2} {f : T → T → R RV} (ho : OpR X (compareOp op) r) (hv : OpV X.K r f) (hx : NoX f) (ha : QE X E g1 a ta ma) (hb : QE X E g2 b tb mb) (hm : behindInMarks op b = false) : QT X E (.Compare a [op] [b] pos) (tTest (tOp r ta tb)) (mTest (mBin f ma mb)) :=
  ⟨pt_cmpR ho ha.pe hb.pe hm, sim_test (sim_bin hv hx ha.sim hb.sim)⟩
theorem qt_pcmp {op : CmpOp} {r : R2} {f : T → T → R RV} {ma mb : MP} (ho : OpR X (compareOp op) r) (hv : OpV X.K r f) (ha : QP X a ta ma) (hb : QP X b tb mb) (hm : behindInMarks op b = false) : QT X E (.Compare a [op] [b] pos) (tTest (tOp r ta tb)) (mTest (mLift (pBin f ma mb))) :=
  ⟨pt_cmpR ho ha.pe hb.pe hm, sim_test (qp_cmp (pos := pos) ho hv ha hb hm).lift.sim⟩
theorem qt_val (h : QE X E g1 e te m) (he : ∀ whole, isTrue e X.env whole = (do let v ← whole; standAt e.pos; holding [v] (truthy v)) := by intro _; rfl) : QT X E e (tTest te) (mTest m) := ⟨pt_val h.pe he, sim_test h.sim⟩
theorem truth_v {K : PySem.W.Frag} {F : Addr → Prop} {H : Hp} {v : V} {t : T} {A : List Addr} {k : Bool} (h : Rp K F H v t A) (e : t.truth = some k) : TruV K v H k := by
  unfold T.truth at e
  split at e
  · cases h with | d h => cases h; cases e; rfl
  · cases h with | d h => cases h; cases e; rfl
  · cases h with | d h => cases h; cases e; rfl
  · cases h with | d h =>
      cases h with
      | lst h1 _ f =>
        cases e
        have l := f.len
        refine .inl ⟨_, .of h1, ?_⟩
        cases f <;> rfl
  · cases h with | d h =>
      cases h with
      | tup h1 f =>
        cases e
        refine .inr (.inl ⟨_, h1, ?_⟩)
        cases f <;> rfl
  · cases h with
    | ol h1 f =>
      cases e
      refine .inl ⟨_, .of h1, ?_⟩
      cases f <;> rfl
  · cases e
theorem qt_truth {m : MP} (h : QP X e te m) (he : ∀ whole, isTrue e X.env whole = (do let v ← whole; standAt e.pos; holding [v] (truthy v)) := by intro _; rfl) :
    QT X E e (fun σ H Q => te σ H fun x H' => ∃ k, TruV X.K x H' k ∧ Q k H') (mTruth m) := by
  refine ⟨pt_truth h.pe he, fun c H tv td σ ρ hl st Q q => ?_⟩
  unfold mTruth at q
  obtain ⟨A, w⟩ := st
  cases e1 : (m ρ).bind T.truth with
  | none => rw [e1] at q; exact q.elim
  | some k =>
    rw [e1] at q
    obtain ⟨t, e2, e3⟩ := Option.bind_eq_some_iff.mp e1
    exact h.sim c H tv td σ ρ A t hl w e2 _ fun v A1 r _ => ⟨k, truth_v r e3, q H ⟨A, w⟩⟩
theorem sim_tnot {K : PySem.W.Frag} (s : SimT K E tt mt) : SimT K E (tNot tt) (mNot mt) := by
  intro c H tv td σ ρ hl st Q q
  unfold mNot at q
  rw [then_bind] at q
  exact s c H tv td σ ρ hl st _ (q.imp fun r q1 H1 st1 => q1 H1 st1)
theorem qt_not (h : QT X E e tt mt) : QT X E (.UnaryOp .Not e pos) (tNot tt) (mNot mt) := ⟨pt_not h.pt, sim_tnot h.sim⟩
theorem QW.qt (h : QW X E e tt mt) : QT X E e tt mt := ⟨h.pw.pt, h.sim⟩
theorem qw_or1 (h : QT X E a tt mt) : QW X E (.BoolOp .Or [a] pos) tt mt := ⟨pw_or1 h.pt, h.sim⟩
theorem sim_tor {K : PySem.W.Frag} (s : SimT K E tt mt) (s2 : SimT K E tu mu) : SimT K E (tOr tt tu) (mOr mt mu) := by
  intro c H tv td σ ρ hl st Q q
  unfold mOr at q
  rw [then_bind] at q
  refine s c H tv td σ ρ hl st _ (q.imp ?_)
  rintro ⟨k, ρ1⟩ q1 H1 st1
  cases k with
  | true => exact q1 H1 st1
  | false => exact s2 c H1 tv td σ ρ1 hl st1 Q q1
theorem qw_or {rest : List Expr} (h : QT X E a tt mt) (h2 : QW X E (.BoolOp .Or (b :: rest) pos) tu mu) : QW X E (.BoolOp .Or (a :: b :: rest) pos) (tOr tt tu) (mOr mt mu) := ⟨pw_or h.pt h2.pw, sim_tor h.sim h2.sim⟩
def mAndV (m n : MEx) : MEx := fun ρ => (mTest m ρ).bind fun r => if r.1 = true then n r.2 else .ok (.d (.bool false), r.2)
def mOrV (m n : MEx) : MEx := fun ρ => (mTest m ρ).bind fun r => if r.1 = true then .ok (.d (.bool true), r.2) else n r.2
def mNotV (m : MEx) : MEx := fun ρ => (mTest m ρ).bind fun r => .ok (.d (.bool (!r.1)), r.2)
theorem StR.pushC {K : PySem.W.Frag} {c : C0} {H : Hp} {sl : List (Option V)} {ρ : Env} {v : V} {x : PyData} (h : StR K c H sl ρ) (f : ∀ F H, Fz K F H v x) : StR K c H (some v :: sl) (some (.d x) :: ρ) := let ⟨A, w⟩ := h; ⟨A, w.pushD (f _ _)⟩
theorem StR.topB {K : PySem.W.Frag} {c : C0} {H : Hp} {sl : List (Option V)} {ρ : Env} {v : V} {b : Bool} (h : StR K c H (some v :: sl) (some (.d (.bool b)) :: ρ)) : v = .bl b ∧ StR K c H sl ρ := by
  obtain ⟨A, w⟩ := h
  obtain ⟨f, w'⟩ := w.topD
  cases f
  exact ⟨rfl, A, w'⟩
theorem sim_boolean {K : PySem.W.Frag} {g : Bool} (s : SimE K E g te m) {c : C0} {H : Hp} {tv : List (Option V)} {td : Env} {σ : L2.St} {ρ : Env} (hl : tv.length = td.length) (st : StR K c H (tv ++ σ) (td ++ ρ)) {Q : VK}
    (q : Then (mTest m ρ) (fun r => ∀ H', (g = true → Same H H') → StR K c H' (tv ++ σ) (td ++ r.2) → Q (.bl r.1) H') (fun x => ∀ H', KeepC c H' → E x H')) : te σ H Q := by
  unfold mTest at q
  rw [then_bind] at q
  refine s c H tv td σ ρ hl st _ (q.imp ?_)
  rintro ⟨t, ρ1⟩ q1 v H1 sm st1
  dsimp only at q1
  split at q1
  · obtain ⟨rfl, st2⟩ := st1.topB
    exact q1 H1 sm st2
  · exact q1.elim
theorem qe_and {rest : List Expr} (h : QE X E g1 a ta ma) (h2 : QE X E g2 (.BoolOp .And (b :: rest) pos) tb mb) : QE X E (g1 && g2) (.BoolOp .And (a :: b :: rest) pos) (tAndV ta tb) (mAndV ma mb) := by
  refine ⟨pe_and h.pe h2.pe, fun c H tv td σ ρ hl st Q q => ?_⟩
  unfold mAndV at q
  rw [then_bind] at q
  refine sim_boolean h.sim hl st (q.imp ?_)
  rintro ⟨k, ρ1⟩ q1 H1 sm st1
  refine ⟨k, rfl, ?_⟩
  cases k with
  | true => exact h2.sim c H1 tv td σ ρ1 hl st1 Q (q1.imp fun r q2 v H2 sm2 st2 => q2 v H2 (fun e => by rw [Bool.and_eq_true] at e; exact (sm e.1).trans (sm2 e.2)) st2)
  | false => exact q1 _ H1 (fun e => by rw [Bool.and_eq_true] at e; exact sm e.1) (st1.pushC fun _ _ => .bl false)
theorem qe_one {op : BoolOp} (h : QE X E g1 a ta ma) : QE X E g1 (.BoolOp op [a] pos) ta ma := ⟨pe_one h.pe, h.sim⟩
def mFz (m : MEx) : MEx := fun ρ => (m ρ).bind fun r => match r.1.fz with | some x => .ok (.d x, r.2) | none => .bad
theorem StW.freezeTop {K : PySem.W.Frag} {c : C0} {H : Hp} {sl : List (Option V)} {ρ : Env} {A : List Addr} {v : V} {t : T} {x : PyData} (w : StW K c H (some v :: sl) (some t :: ρ) A) (e : t.fz = some x) : StR K c H (some v :: sl) (some (.d x) :: ρ) := by
  obtain ⟨A1, B, eA, r, s⟩ := w.top
  have hB : ∀ a, B.count a ≤ A.count a := fun a => by rw [eA, List.count_append]; omega
  have own1 : ∀ a ∈ A1, Fok c B a := fun a ha => by
    have h1 := List.count_pos_iff.mpr ha
    have h3 := w.uniq a
    rw [eA, List.count_append] at h3
    refine ⟨?_, fun z => ?_⟩
    · rcases w.own a (by rw [eA]; exact List.mem_append_left _ ha) with z | z
      · exact .inr (.inr z)
      · exact .inr (.inl z)
    · have := List.count_pos_iff.mpr z
      omega
  have f := r.freeze (fun a _ => Fok.sub hB a) own1 e
  have w' : StW K c H sl ρ B := ⟨fun a => Nat.le_trans (hB a) (w.uniq a), s.mono (.sub fun a _ => Fok.sub hB a) fun _ _ => rfl, fun a ha => w.own a (by rw [eA]; exact List.mem_append_right _ ha), w.keep⟩
  exact ⟨B, w'.pushD f⟩
theorem QE.fz (h : QE X E g1 e te m) : QE X E g1 e te (mFz m) := by
  refine ⟨h.pe, fun c H tv td σ ρ hl st Q q => ?_⟩
  unfold mFz at q
  rw [then_bind] at q
  refine h.sim c H tv td σ ρ hl st _ (q.imp ?_)
  rintro ⟨t, ρ1⟩ q1 v H1 sm st1
  dsimp only at q1
  cases e1 : t.fz with
  | none => rw [e1] at q1; exact q1.elim
  | some x =>
    rw [e1] at q1
    obtain ⟨A, w⟩ := st1
    exact q1 v H1 sm (w.freezeTop e1)
end
inductive Out where
  | next (ρ : Env) | ret (t : T) (ρ : Env) | brk (ρ : Env) | cont (ρ : Env)
abbrev MS := Env → R Out
structure SameIo (io : List Nat) (σ σ' : L2.St) : Prop where
  len : σ'.length = σ.length
  same : ∀ i ∈ io, σ'[i]? = σ[i]?
theorem SameIo.refl {io : List Nat} {σ : L2.St} : SameIo io σ σ := ⟨rfl, fun _ _ => rfl⟩
theorem SameIo.trans {io : List Nat} {σ σ1 σ2 : L2.St} (a : SameIo io σ σ1) (b : SameIo io σ1 σ2) : SameIo io σ σ2 := ⟨b.len.trans a.len, fun i h => (b.same i h).trans (a.same i h)⟩
theorem SameIo.set {io : List Nat} {σ : L2.St} {i : Nat} {o : Option V} (h : io.contains i = false) : SameIo io σ (σ.set i o) := ⟨by simp, fun j hj => by
  have e : i ≠ j := fun z => by
    subst z
    rw [List.contains_eq_mem] at h
    simp [hj] at h
  rw [List.getElem?_set_ne e]⟩
def OutTo (K : PySem.W.Frag) (c : C0) (tv : List (Option V)) (td : Env) (io : List Nat) (σ : L2.St) (D : Ends) : Out → Prop
  | .next ρ' => ∀ σ' H', SameIo io σ σ' → StR K c H' (tv ++ σ') (td ++ ρ') → D.nx σ' H'
  | .ret t ρ' => ∀ v σ' H', SameIo io σ σ' → StR K c H' (some v :: (tv ++ σ')) (some t :: (td ++ ρ')) → D.rt v H'
  | .brk ρ' => ∀ σ' H', SameIo io σ σ' → StR K c H' (tv ++ σ') (td ++ ρ') → D.bk σ' H'
  | .cont ρ' => ∀ σ' H', SameIo io σ σ' → StR K c H' (tv ++ σ') (td ++ ρ') → D.ct σ' H'
theorem OutTo.from {K : PySem.W.Frag} {c : C0} {tv : List (Option V)} {td : Env} {io : List Nat} {σ σ1 : L2.St} {D : Ends} {o : Out} (s : SameIo io σ σ1) (h : OutTo K c tv td io σ D o) : OutTo K c tv td io σ1 D o := by
  cases o with
  | next ρ => exact fun σ' H' s' st => h σ' H' (s.trans s') st
  | ret t ρ => exact fun v σ' H' s' st => h v σ' H' (s.trans s') st
  | brk ρ => exact fun σ' H' s' st => h σ' H' (s.trans s') st
  | cont ρ => exact fun σ' H' s' st => h σ' H' (s.trans s') st
def SimS (K : PySem.W.Frag) (E : Str → Hp → Prop) (io : List Nat) (ts : TS) (m : MS) : Prop :=
  ∀ (c : C0) (H : Hp) (tv : List (Option V)) (td : Env) (σ : L2.St) (ρ : Env), tv.length = td.length → StR K c H (tv ++ σ) (td ++ ρ) → ∀ D : Ends,
    Then (m ρ) (OutTo K c tv td io σ D) (fun x => ∀ H', KeepC c H' → E x H') → ts D σ H
structure QS (X : Cx) (E : Str → Hp → Prop) (io : List Nat) (s : Stmt) (ts : TS) (m : MS) : Prop where
  ps : PS X s ts
  sim : SimS X.K E io ts m
structure QSs (X : Cx) (E : Str → Hp → Prop) (io : List Nat) (s : List Stmt) (ts : TS) (m : MS) : Prop where
  ps : PSs X s ts
  sim : SimS X.K E io ts m
def SimS0 (K : PySem.W.Frag) (E : Str → Hp → Prop) (io : List Nat) (ts : TS) (m : MS) : Prop :=
  ∀ (c : C0) (H : Hp) (σ : L2.St) (ρ : Env), StR K c H σ ρ → ∀ D : Ends,
    Then (m ρ) (OutTo K c [] [] io σ D) (fun x => ∀ H', KeepC c H' → E x H') → ts D σ H
theorem SimS.z {K : PySem.W.Frag} {E : Str → Hp → Prop} {io : List Nat} {ts : TS} {m : MS} (h : SimS K E io ts m) : SimS0 K E io ts m := fun c H σ ρ st D q => h c H [] [] σ ρ rfl st D q
structure QSs0 (X : Cx) (E : Str → Hp → Prop) (io : List Nat) (s : List Stmt) (ts : TS) (m : MS) : Prop where
  ps : PSs X s ts
  sim : SimS0 X.K E io ts m
structure QS0 (X : Cx) (E : Str → Hp → Prop) (io : List Nat) (s : Stmt) (ts : TS) (m : MS) : Prop where
  ps : PS X s ts
  sim : SimS0 X.K E io ts m
theorem QSs.z {X : Cx} {E : Str → Hp → Prop} {io : List Nat} {s : List Stmt} {ts : TS} {m : MS} (h : QSs X E io s ts m) : QSs0 X E io s ts m := ⟨h.ps, h.sim.z⟩
theorem QS.z {X : Cx} {E : Str → Hp → Prop} {io : List Nat} {s : Stmt} {ts : TS} {m : MS} (h : QS X E io s ts m) : QS0 X E io s ts m := ⟨h.ps, h.sim.z⟩
def mNext : MS := fun ρ => .ok (.next ρ)
def mSeq (m n : MS) : MS := fun ρ => (m ρ).bind fun o => match o with | .next ρ1 => n ρ1 | o => .ok o
def mRet (m : MEx) : MS := fun ρ => (m ρ).bind fun r => .ok (.ret r.1 r.2)
def mDrop (m : MEx) : MS := fun ρ => (m ρ).bind fun r => .ok (.next r.2)
def mIfS (m : MT) (a b : MS) : MS := fun ρ => (m ρ).bind fun r => if r.1 = true then a r.2 else b r.2
def mBrk : MS := fun ρ => .ok (.brk ρ)
def mCont : MS := fun ρ => .ok (.cont ρ)
section
variable {X : Cx} {E : Str → Hp → Prop} {io : List Nat} {e a b c' : Expr} {st : Stmt} {rest : List Stmt} {te ta tb : TE} {tt tu : TT} {t u : TS} {m ma mb : MEx} {mt mu : MT} {ms mr : MS} {g1 g2 : Bool} {pos : Pos}
theorem sim_next {K : PySem.W.Frag} : SimS K E io tNext mNext := fun c H tv td σ ρ hl st D q => q σ H .refl st
theorem qss_nil : QSs X E io [] tNext mNext := ⟨pss_nil, sim_next⟩
theorem sim_seq {K : PySem.W.Frag} (s1 : SimS K E io t ms) (s2 : SimS K E io u mr) : SimS K E io (tSeq t u) (mSeq ms mr) := by
  intro c H tv td σ ρ hl st D q
  unfold mSeq at q
  rw [then_bind] at q
  refine s1 c H tv td σ ρ hl st { D with nx := u D } (q.imp ?_)
  intro o q1
  cases o with
  | next ρ1 => exact fun σ' H' s' st' => s2 c H' tv td σ' ρ1 hl st' D (q1.imp fun o' z => z.from s')
  | ret t ρ1 => exact q1
  | brk ρ1 => exact q1
  | cont ρ1 => exact q1
theorem qss_cons (h : QS X E io st t ms) (h2 : QSs X E io rest u mr) : QSs X E io (st :: rest) (tSeq t u) (mSeq ms mr) := ⟨pss_cons h.ps h2.ps, sim_seq h.sim h2.sim⟩
theorem qss_one (h : QS X E io st t ms) : QSs X E io [st] t ms := ⟨pss_one h.ps, h.sim⟩
theorem qs_ret (h : QE X E g1 e te m) : QS X E io (.Return (some e) pos) (tRet te) (mRet m) := by
  refine ⟨ps_ret h.pe, fun c H tv td σ ρ hl st D q => ?_⟩
  unfold mRet at q
  rw [then_bind] at q
  exact h.sim c H tv td σ ρ hl st _ (q.imp fun r q1 v H1 _ st1 => q1 v σ H1 .refl st1)
theorem qs_expr (h : QE X E g1 e te m) (hs : swapsWith e none pos.line X.env = pure false := by rfl) : QS X E io (.Expr e pos) (tDrop te) (mDrop m) := by
  refine ⟨ps_expr h.pe hs, fun c H tv td σ ρ hl st D q => ?_⟩
  unfold mDrop at q
  rw [then_bind] at q
  exact h.sim c H tv td σ ρ hl st _ (q.imp fun r q1 v H1 _ st1 => q1 σ H1 .refl st1.drop)
theorem qs_if {p q' : List Stmt} (h : QT X E c' tt mt) (h1 : QSs X E io p t ms) (h2 : QSs X E io q' u mr) : QS X E io (.If c' p q' pos) (tIfS tt t u) (mIfS mt ms mr) := by
  refine ⟨ps_if h.pt h1.ps h2.ps, fun c H tv td σ ρ hl st D q => ?_⟩
  unfold mIfS at q
  rw [then_bind] at q
  refine h.sim c H tv td σ ρ hl st _ (q.imp ?_)
  rintro ⟨k, ρ1⟩ q1 H1 st1
  cases k with
  | true => exact h1.sim c H1 tv td σ ρ1 hl st1 D q1
  | false => exact h2.sim c H1 tv td σ ρ1 hl st1 D q1
def mNever : MS := fun _ => .bad
theorem qs_never : QS X E io st tNever mNever := ⟨ps_never, fun c H tv td σ ρ hl st D q => q.elim⟩
structure SameP (pr : Nat → Bool) (σ σ' : L2.St) : Prop where
  len : σ'.length = σ.length
  same : ∀ i, pr i = true → σ'[i]? = σ[i]?
theorem SameP.refl {pr : Nat → Bool} {σ : L2.St} : SameP pr σ σ := ⟨rfl, fun _ _ => rfl⟩
theorem SameP.trans {pr : Nat → Bool} {σ σ1 σ2 : L2.St} (a : SameP pr σ σ1) (b : SameP pr σ1 σ2) : SameP pr σ σ2 := ⟨b.len.trans a.len, fun i h => (b.same i h).trans (a.same i h)⟩
theorem SameP.set {pr : Nat → Bool} {σ : L2.St} {i : Nat} {o : Option V} (h : pr i = false) : SameP pr σ (σ.set i o) := ⟨by simp, fun j hj => by
  have e : i ≠ j := fun z => by
    subst z
    rw [h] at hj
    cases hj
  rw [List.getElem?_set_ne e]⟩
abbrev inIo (io : List Nat) : Nat → Bool := fun i => io.contains i
theorem SameP.toIo {io : List Nat} {σ σ' : L2.St} (h : SameP (inIo io) σ σ') : SameIo io σ σ' := ⟨h.len, fun i hi => h.same i (by show io.contains i = true; rw [List.contains_eq_mem]; exact decide_eq_true hi)⟩
variable {pr : Nat → Bool}
abbrev MG := T → Env → Option Env
def SimG (K : PySem.W.Frag) (pr : Nat → Bool) (tg : TG) (m : MG) : Prop :=
  ∀ (c : C0) (H : Hp) (tv : List (Option V)) (td : Env) (σ : L2.St) (ρ ρ' : Env) (v : V) (t : T), tv.length = td.length → StR K c H (some v :: (tv ++ σ)) (some t :: (td ++ ρ)) → m t ρ = some ρ' → ∀ Q : L2.St → Hp → Prop,
    (∀ σ' H', SameP pr σ σ' → StR K c H' (tv ++ σ') (td ++ ρ') → Q σ' H') → tg v σ H Q
structure QG (X : Cx) (pr : Nat → Bool) (e : Expr) (tg : TG) (m : MG) : Prop where
  pg : PG X e tg
  sim : SimG X.K pr tg m
def mgName (i : Nat) : MG := fun t ρ => some (ρ.set i (some t))
theorem StR.store {K : PySem.W.Frag} {c : C0} {H : Hp} {tv : List (Option V)} {td : Env} {σ : L2.St} {ρ : Env} {v : V} {t : T} {i : Nat} (hl : tv.length = td.length) (h : StR K c H (some v :: (tv ++ σ)) (some t :: (td ++ ρ))) : StR K c H (tv ++ σ.set i (some v)) (td ++ ρ.set i (some t)) := by
  obtain ⟨A, w⟩ := h
  obtain ⟨A1, B, eA, r, s⟩ := w.top
  have hlen : (tv ++ σ).length = (td ++ ρ).length := s.len
  by_cases hi : i < σ.length
  · obtain ⟨B1, hb, ar, _⟩ := s.around (i := tv.length + i) (by rw [List.length_append]; omega)
    obtain ⟨C, s', z⟩ := ar.put (Mono.sub fun _ _ x => x) (fun _ _ => rfl) r
    rw [app_set rfl, app_set hl.symm] at s'
    refine ⟨C, w.remake (fun a => ?_) s'⟩
    rw [z a, eA, List.count_append]
    have := hb a
    omega
  · have hi2 : ¬ i < ρ.length := by
      rw [List.length_append, List.length_append] at hlen; omega
    rw [List.set_eq_of_length_le (by omega), List.set_eq_of_length_le (by omega)]
    exact ⟨B, w.remake (fun a => by rw [eA, List.count_append]; omega) s⟩
theorem sim_gname {K : PySem.W.Frag} {i : Nat} (hio : pr i = false) : SimG K pr (gName i) (mgName i) := by
  intro c H tv td σ ρ ρ' v t hl st e Q q
  cases e
  exact q _ H (.set hio) (st.store hl)
theorem qg_name {i : Nat} {x : Str} (hN : X.N.Nodup) (hi : X.N[i]? = some x := by rfl) (hx : Loc X.env.scope x := by first | exact Or.inl rfl | exact Or.inr rfl) (hio : pr i = false := by rfl) (hf : X.fn x = true ∨ X.env.scope.names.lookup x = some .local := by first | exact .inl rfl | exact .inr rfl | assumption) : QG X pr (.Name x pos) (gName i) (mgName i) :=
  ⟨pg_name hN hi hx hf, sim_gname hio⟩
def mAsg (m : MEx) (g : MG) : MS := fun ρ => (m ρ).bind fun r => (ofO (g r.1 r.2)).bind fun ρ' => .ok (.next ρ')
theorem sim_asg {K : PySem.W.Frag} {g : TG} {mg : MG} (s : SimE K E g1 te m) (sg : SimG K (inIo io) g mg) : SimS K E io (tAsg te g) (mAsg m mg) := by
  intro c H tv td σ ρ hl st D q
  unfold mAsg at q
  rw [then_bind] at q
  refine s c H tv td σ ρ hl st _ (q.imp ?_)
  intro r q1 v H1 _ st1
  obtain ⟨ρ', e, q2⟩ := then_ofO.mp (then_bind.mp q1)
  exact sg c H1 tv td σ r.2 ρ' v r.1 hl st1 e _ fun σ' H' s st' => q2 σ' H' s.toIo st'
theorem qs_set {i : Nat} {x : Str} {pos' : Pos} (hN : X.N.Nodup) (he : QE X E g1 e te m) (hi : X.N[i]? = some x := by rfl) (hx : Loc X.env.scope x := by first | exact Or.inl rfl | exact Or.inr rfl) (hs : swapsWith e (some (.Name x pos')) pos.line X.env = pure false := by rfl) (hio : inIo io i = false := by rfl)
    (hf : X.fn x = true ∨ X.env.scope.names.lookup x = some .local := by first | exact .inl rfl | exact .inr rfl | assumption) : QS X E io (.Assign [.Name x pos'] e pos) (tAsg te (gName i)) (mAsg m (mgName i)) := ⟨ps_set hN hi hx he.pe hs hf, sim_asg he.sim (sim_gname hio)⟩
theorem qs_asg {tg : Expr} {g : TG} {mg : MG} (he : QE X E g1 e te m) (hg : QG X (inIo io) tg g mg) (hs : swapsWithSole [tg] e pos.line X.env = pure false := by rfl) (hw : swappedStores [tg] e X.env = pure none := by rfl)
    (h1 : (assignEach [tg] X.env).map (·.2) = [assign tg X.env] := by rfl) : QS X E io (.Assign [tg] e pos) (tAsg te g) (mAsg m mg) := ⟨ps_asg he.pe hg.pg hs hw h1, sim_asg he.sim hg.sim⟩
abbrev MGs := List T → Env → Option Env
def SimGs (K : PySem.W.Frag) (pr : Nat → Bool) (tg : TGs) (m : MGs) : Prop :=
  ∀ (c : C0) (H : Hp) (tv : List (Option V)) (td : Env) (σ : L2.St) (ρ ρ' : Env) (vs : List V) (ts : List T), tv.length = td.length → vs.length = ts.length → StR K c H (vs.map some ++ (tv ++ σ)) (ts.map some ++ (td ++ ρ)) → m ts ρ = some ρ' → ∀ Q : L2.St → Hp → Prop,
    (∀ σ' H', SameP pr σ σ' → StR K c H' (tv ++ σ') (td ++ ρ') → Q σ' H') → tg vs σ H Q
structure QGs (X : Cx) (pr : Nat → Bool) (es : List Expr) (tg : TGs) (m : MGs) : Prop where
  pg : PGs X es tg
  sim : SimGs X.K pr tg m
def mgNil : MGs := fun ts ρ => if ts.isEmpty then some ρ else none
def mgCons (g : MG) (r : MGs) : MGs := fun ts ρ => match ts with | t :: ts => (g t ρ).bind fun ρ1 => r ts ρ1 | [] => none
theorem qgs_nil : QGs X pr [] gNil mgNil := by
  refine ⟨pgs_nil, fun c H tv td σ ρ ρ' vs ts hl hv st e Q q => ?_⟩
  unfold mgNil at e
  cases ts with
  | nil =>
    cases vs with
    | nil => cases e; exact ⟨rfl, q σ H .refl st⟩
    | cons _ _ => simp at hv
  | cons _ _ => cases e
theorem qgs_cons {es : List Expr} {tg : TG} {tgs : TGs} {g : MG} {r : MGs} (h : QG X pr e tg g) (h2 : QGs X pr es tgs r) (hs : (assignEach (e :: es) X.env).map (·.2) = assign e X.env :: (assignEach es X.env).map (·.2) := by rfl) : QGs X pr (e :: es) (gCons tg tgs) (mgCons g r) := by
  refine ⟨pgs_cons h.pg h2.pg hs, fun c H tv td σ ρ ρ' vs ts hl hv st e Q q => ?_⟩
  cases ts with
  | nil => cases e
  | cons t ts =>
    cases vs with
    | nil => simp at hv
    | cons v vs =>
      obtain ⟨ρ1, e1, e2⟩ := Option.bind_eq_some_iff.mp e
      have hv' : vs.length = ts.length := by simpa using hv
      refine ⟨v, vs, rfl, ?_⟩
      refine h.sim c H (vs.map some ++ tv) (ts.map some ++ td) σ ρ ρ1 v t (by simp [hl, hv']) (by simpa using st) e1 _ fun σ1 H1 s1 st1 => ?_
      exact h2.sim c H1 tv td σ1 ρ1 ρ' vs ts hl hv' (by simpa using st1) e2 Q fun σ2 H2 s2 st2 => q σ2 H2 (s1.trans s2) st2
def T.parts : T → Option (List T)
  | .d (.tuple ds) => some (ds.map T.d)
  | .ot ts => some ts
  | _ => none
def mgTup (n : Nat) (r : MGs) : MG := fun t ρ => match t.parts with | some ts => if ts.length = n then r ts ρ else none | none => none
section
variable {K : PySem.W.Frag} {F : Addr → Prop} {H : Hp}
theorem Sl.many : ∀ {vs : List V} {ts : List T} {A B : List Addr} {sl : List (Option V)} {ρ : Env}, RpAll K F H vs ts A → Sl K F H sl ρ B → Sl K F H (vs.map some ++ sl) (ts.map some ++ ρ) (A ++ B)
  | _, _, _, _, _, _, .nil, s => s
  | _, _, _, _, _, _, .cons x r, s => by
    rw [List.append_assoc]
    exact .cons x (Sl.many r s)
theorem Rp.parts {v : V} {t : T} {ts : List T} {A : List Addr} (h : Rp K F H v t A) (e : t.parts = some ts) : ∃ a vs, v = .ref a ∧ SqT K H a vs ∧ RpAll K F H vs ts A := by
  unfold T.parts at e
  split at e
  · cases e
    cases h with
    | d h =>
      cases h with
      | tup h f => exact ⟨_, _, rfl, h, RpAll.ofFz f⟩
  · cases e
    cases h with
    | ot h r => exact ⟨_, _, rfl, .of h, r⟩
  · cases e
end
theorem qg_tup {es : List Expr} {k : Nat} {tgs : TGs} {r : MGs} (hc : X.calm = true) (h : QGs X pr es tgs r) {n : Nat} (hn : (assignEach es X.env).length = n := by rfl) (hst : (assignEach es X.env).findIdx? (·.1) = none := by rfl) : QG X pr (.Tuple es k pos) (gTup X.K n tgs) (mgTup n r) := by
  refine ⟨pg_tup hc h.pg hn hst, fun c H tv td σ ρ ρ' v t hl st e Q q => ?_⟩
  unfold mgTup at e
  cases ep : t.parts with
  | none => rw [ep] at e; cases e
  | some ts =>
    rw [ep] at e
    dsimp only at e
    split at e
    · rename_i hlen
      obtain ⟨A, w⟩ := st
      obtain ⟨A1, B, eA, x, s⟩ := w.top
      obtain ⟨a, vs, rfl, hq, ra⟩ := x.parts ep
      have hvt := ra.len
      refine ⟨a, vs, rfl, hq, by omega, ?_⟩
      exact h.sim c H tv td σ ρ ρ' vs ts hl hvt ⟨A1 ++ B, w.remake (fun b => by rw [eA]; exact Nat.le_refl _) (Sl.many ra s)⟩ e Q q
    · cases e
end
end L3
namespace L3
open PySem PySem.Spec PyProof.Rows L2
section
variable {K : PySem.W.Frag} {F F' : Addr → Prop} {H H' : Hp}
theorem Sl.raiseO : ∀ {xs : List (Option V)} {as : Env} {ys : List (Option V)} {bs : Env} {v : Option V} {t : Option T} {A : List Addr}, xs.length = as.length → Sl K F H (xs ++ v :: ys) (as ++ t :: bs) A →
    ∃ C, Sl K F H (v :: (xs ++ ys)) (t :: (as ++ bs)) C ∧ ∀ a, C.count a = A.count a
  | [], [], _, _, _, _, A, _, h => ⟨A, h, fun _ => rfl⟩
  | o :: xs, a :: as, ys, bs, v, t, _, hl, h => by
    have hl' : xs.length = as.length := by simpa using hl
    cases h with
    | skip r =>
      obtain ⟨C, s, z⟩ := r.raiseO hl'
      cases s with
      | cons x s => exact ⟨_, .cons x (.skip s), z⟩
      | skip s => exact ⟨_, .skip (.skip s), z⟩
    | cons y r =>
      rename_i u t0 A1 B1
      obtain ⟨C, s, z⟩ := r.raiseO hl'
      cases s with
      | cons x s =>
        rename_i A2 B2
        exact ⟨_, .cons x (.cons y s), fun a => by have := z a; simp only [List.count_append] at this ⊢; omega⟩
      | skip s => exact ⟨_, .skip (.cons y s), fun a => by have := z a; simp only [List.count_append] at this ⊢; omega⟩
  | [], _ :: _, _, _, _, _, _, hl, _ => by simp at hl
  | _ :: _, [], _, _, _, _, _, hl, _ => by simp at hl
end
def sel (io : List Nat) (vs : List V) : List V := io.filterMap fun i => vs[i]?
structure KeepF (H H' : Hp) (A : List Addr) : Prop where
  keep : ∀ a o, H a = some o → a ∉ A → H' a = some o
  there : ∀ a, H' a = none → H a = none
def EX (cl : Str → Option Addr) (E : XK) : Str → Hp → Prop := fun x H' => ∀ C, cl x = some C → E (.ref C) none H'
def spT (K : PySem.W.Frag) (rz : Bool) (cl : Str → Option Addr) (n : Nat) (io : List Nat) (m : List T → R (T × List T)) : Sp := fun vs H Q E => ∃ (ts : List T) (F : Addr → Prop) (A : List Addr), vs.length = n ∧ (∀ a, A.count a ≤ 1) ∧ RpAll K (fun a => F a ∧ a ∉ A) H vs ts A ∧
  Then (m ts) (fun r => ∀ v H' A', (∀ a, A'.count a ≤ 1) → (∀ a ∈ A', a ∈ A ∨ H a = none) → KeepF H H' A → (io = [] → A = [] → Same H H') → RpAll K (fun a => (F a ∨ H a = none ∨ a ∈ A) ∧ a ∉ A') H' (v :: sel io vs) (r.1 :: r.2) A' → Q v H') (fun x => rz = true ∧ ∀ H', KeepF H H' A → EX cl E x H')
def outs : List Nat → Env → R (List T)
  | [], _ => .ok []
  | i :: r, ρ => match ρ[i]? with
    | some (some t) => (outs r ρ).bind fun os => .ok (t :: os)
    | _ => .bad
def mFn (io : List Nat) (k : Nat) (ms : MS) : List T → R (T × List T) := fun ts => (ms (ts.map some ++ List.replicate k none)).bind fun o => match o with
  | .ret t ρ => (outs io ρ).bind fun os => .ok (t, os)
  | .next ρ => (outs io ρ).bind fun os => .ok (.d .none, os)
  | _ => .bad
section
variable {K : PySem.W.Frag} {F F' : Addr → Prop} {H H' : Hp}
theorem outs_cons {i : Nat} {r : List Nat} {ρ : Env} {os : List T} (e : outs (i :: r) ρ = .ok os) : ∃ t os', ρ[i]? = some (some t) ∧ outs r ρ = .ok os' ∧ os = t :: os' := by
  unfold outs at e
  split at e
  · rename_i t e0
    cases e1 : outs r ρ with
    | ok os' => rw [e1] at e; cases e; exact ⟨t, os', e0, rfl, rfl⟩
    | exc _ => rw [e1] at e; cases e
    | bad => rw [e1] at e; cases e
  · cases e
theorem outs_gone {i : Nat} : ∀ {r : List Nat} {ρ : Env} {os : List T}, i ∉ r → outs r ρ = .ok os → outs r (ρ.set i none) = .ok os
  | [], _, _, _, e => e
  | j :: r, ρ, os, h, e => by
    obtain ⟨t, os', e1, e2, rfl⟩ := outs_cons e
    have hj : i ≠ j := fun z => h (by rw [z]; exact List.mem_cons_self)
    have e3 := outs_gone (fun z => h (List.mem_cons_of_mem _ z)) e2
    unfold outs
    rw [List.getElem?_set_ne hj, e1]
    dsimp only
    rw [e3]
    rfl
theorem Sl.pick {us : List V} : ∀ {io : List Nat} {sl : List (Option V)} {ρ : Env} {A : List Addr} {os : List T}, io.Nodup → (∀ i ∈ io, ∃ v, us[i]? = some v ∧ sl[i]? = some (some v)) → Sl K F H sl ρ A → outs io ρ = .ok os →
    ∃ A1 B, RpAll K F H (sel io us) os A1 ∧ ∀ a, A1.count a + List.count a B = A.count a
  | [], _, _, A, _, _, _, s, e => by cases e; exact ⟨[], A, .nil, fun a => by simp⟩
  | i :: io, sl, ρ, A, os, nd, hv, s, e => by
    obtain ⟨t, os', e1, e2, rfl⟩ := outs_cons e
    obtain ⟨v, hv1, hv2⟩ := hv i List.mem_cons_self
    have hi : i < sl.length := (List.getElem?_eq_some_iff.mp hv2).1
    obtain ⟨B, hb, ar, get⟩ := s.around hi
    obtain ⟨v', A1, e3, x, hc⟩ := get t e1
    have ev : v' = v := by rw [hv2] at e3; cases e3; rfl
    subst ev
    obtain ⟨C, s', z⟩ := ar.gone (some v')
    have hnd := List.nodup_cons.mp nd
    rw [set_self hv2] at s'
    obtain ⟨A2, B2, ra, hc2⟩ := Sl.pick (us := us) hnd.2 (fun j hj => hv j (List.mem_cons_of_mem _ hj)) s' (outs_gone hnd.1 e2)
    refine ⟨A1 ++ A2, B2, ?_, fun a => ?_⟩
    · have : sel (i :: io) us = v' :: sel io us := by unfold sel; rw [List.filterMap_cons, hv1]
      rw [this]
      exact .cons x ra
    · have h1 := hc a
      have h2 := hc2 a
      have h3 := z a
      rw [List.count_append]
      omega
theorem Sl.nones : ∀ (k : Nat) (sl : List (Option V)), sl.length = k → Sl K F H sl (List.replicate k none) []
  | 0, [], _ => .nil
  | k + 1, o :: sl, h => by
    rw [List.replicate_succ]
    exact .skip (Sl.nones k sl (by simpa using h))
  | 0, _ :: _, h => by simp at h
  | _ + 1, [], h => by simp at h
theorem start_eq (N : List Str) (vs : List V) : start N vs = vs.map some ++ List.replicate (N.length - vs.length) none := rfl
theorem body_run {E : Str → Hp → Prop} {io : List Nat} {tb : TS} {ms : MS} {cl : Str → Option Addr} {N : List Str} {vs : List V} {Q : VK} {Ek : XK} {rz : Bool} {n : Nat} (sm : SimS0 K E io tb ms) (hE : ∀ x H', EX cl Ek x H' → E x H') (hnd : io.Nodup) (hio : ∀ i ∈ io, i < n)
    (h : spT K rz cl n io (mFn io (N.length - n) ms) vs H Q Ek) : tb { nx := fun _ H' => Q .non H', rt := Q } (start N vs) H := by
  obtain ⟨ts, F, A, hn, u, ra, q⟩ := h
  have hts := ra.len
  unfold mFn at q
  rw [then_bind] at q
  have c0 : Sl K (Fok ⟨H, A, F⟩ A) H (start N vs) (ts.map some ++ List.replicate (N.length - n) none) A := by
    rw [start_eq, hn]
    have r2 : RpAll K (Fok ⟨H, A, F⟩ A) H vs ts A := ra.mono (.sub fun a _ ⟨x, y⟩ => ⟨.inl x, y⟩) fun _ _ => rfl
    have := Sl.many r2 (Sl.nones (N.length - n) (List.replicate (N.length - n) none) (by simp))
    rwa [List.append_nil] at this
  have w0 : StW K ⟨H, A, F⟩ H (start N vs) (ts.map some ++ List.replicate (N.length - n) none) A := ⟨u, c0, fun a ha => .inl ha, ⟨fun _ _ e _ => e, fun _ e => e⟩⟩
  refine sm ⟨H, A, F⟩ H (start N vs) _ ⟨A, w0⟩ _ (q.mono ?_ fun x k H' kc => hE _ _ (k.2 H' ⟨kc.keep, kc.there⟩))
  have pickS : ∀ {σ' : L2.St} {H' : Hp} {ρ' : Env} {os : List T} {B : List Addr} {F1 : Addr → Prop}, SameIo io (start N vs) σ' → Sl K F1 H' σ' ρ' B → outs io ρ' = .ok os → ∃ A1 B1, RpAll K F1 H' (sel io vs) os A1 ∧ ∀ a, A1.count a + List.count a B1 = B.count a := by
    intro σ' H' ρ' os B F1 s' sl eo
    refine Sl.pick hnd (fun i hi => ?_) sl eo
    have h1 : i < vs.length := by have := hio i hi; omega
    refine ⟨vs[i], List.getElem?_eq_getElem h1, ?_⟩
    rw [s'.same i hi, start_eq, List.getElem?_append_left (by simpa using h1), List.getElem?_map, List.getElem?_eq_getElem h1]
    rfl
  have fin : ∀ {v : V} {t : T} {σ' : L2.St} {H' : Hp} {ρ' : Env} {os : List T}, SameIo io (start N vs) σ' → StR K ⟨H, A, F⟩ H' (some v :: σ') (some t :: ρ') → outs io ρ' = .ok os →
      (∀ v H' A', (∀ a, A'.count a ≤ 1) → (∀ a ∈ A', a ∈ A ∨ H a = none) → KeepF H H' A → (io = [] → A = [] → Same H H') → RpAll K (fun a => (F a ∨ H a = none ∨ a ∈ A) ∧ a ∉ A') H' (v :: sel io vs) (t :: os) A' → Q v H') → Q v H' := by
    intro v t σ' H' ρ' os s' st eo k
    obtain ⟨A2, w⟩ := st
    obtain ⟨A3, B, eA, x, s⟩ := w.top
    obtain ⟨A4, B4, rr, hc⟩ := pickS s' s eo
    have hle : ∀ a, (A3 ++ A4).count a ≤ A2.count a := fun a => by rw [eA, List.count_append, List.count_append]; have := hc a; omega
    refine k v H' (A3 ++ A4) (fun a => Nat.le_trans (hle a) (w.uniq a)) (fun a ha => ?_) ⟨w.keep.keep, w.keep.there⟩ (fun _ eA0 a o e => w.keep.keep a o e (by rw [eA0]; simp)) ?_
    · exact w.own a (List.count_pos_iff.mp (Nat.lt_of_lt_of_le (List.count_pos_iff.mpr ha) (hle a)))
    · exact (RpAll.cons x rr).mono (.sub fun a _ => Fok.sub hle a) fun _ _ => rfl
  intro o qo
  cases o with
  | ret t ρ' =>
    intro v σ' H' s' st
    cases eo : outs io ρ' with
    | ok os =>
      have qo' : Then ((outs io ρ').bind fun os => R.ok (t, os)) _ _ := qo
      rw [eo] at qo'
      exact fin s' st eo qo'
    | exc _ => have qo' : Then ((outs io ρ').bind fun os => R.ok (t, os)) _ _ := qo; rw [eo] at qo'; exact (outs_noexc eo).elim
    | bad => have qo' : Then ((outs io ρ').bind fun os => R.ok (t, os)) _ _ := qo; rw [eo] at qo'; exact qo'.elim
  | next ρ' =>
    intro σ' H' s' st
    have st2 : StR K ⟨H, A, F⟩ H' (some .non :: σ') (some (.d .none) :: ρ') := st.pushC fun _ _ => .non
    cases eo : outs io ρ' with
    | ok os =>
      have qo' : Then ((outs io ρ').bind fun os => R.ok (T.d .none, os)) _ _ := qo
      rw [eo] at qo'
      exact fin s' st2 eo qo'
    | exc _ => have qo' : Then ((outs io ρ').bind fun os => R.ok (T.d .none, os)) _ _ := qo; rw [eo] at qo'; exact (outs_noexc eo).elim
    | bad => have qo' : Then ((outs io ρ').bind fun os => R.ok (T.d .none, os)) _ _ := qo; rw [eo] at qo'; exact qo'.elim
  | brk ρ' => exact qo.elim
  | cont ρ' => exact qo.elim
where
  outs_noexc {io : List Nat} {ρ : Env} {x : Str} (e : outs io ρ = .exc x) : False := by
    induction io with
    | nil => cases e
    | cons i r ih =>
      unfold outs at e
      split at e
      · cases e1 : outs r ρ with
        | ok os => rw [e1] at e; cases e
        | exc y => rw [e1] at e; cases e; exact ih e1
        | bad => rw [e1] at e; cases e
      · cases e
end
section
variable {P : Program} {w : World} {K : PySem.W.Frag} {mg : Str → Option Value} {base : Heap} {cl : Str → Option Addr}
theorem fnT {x qual : Str} {st : Stmt} {f : Addr} {fd : FuncData} {N ps : List Str} {k : Nat} {io : List Nat} {ms : MS} (Fu : Fun K x qual st f fd) (S : FnScope N ps (defScope st)) (hnd : io.Nodup) (hio : ∀ i ∈ io, i < ps.length)
    (body : ∀ (cdv : Value) (A : Around) (outer : List PySem.Env) (s : Shared) (H : Hp) (E : XK), Room k (A.deeper (envOfC qual (defScope st) s.heap.objs.size f cdv)) →
      ∃ t, QSs ((cxOf CX0 P w K mg base N qual (defScope st) f cdv A outer s H E).nox) (EX cl E0) io (defBody st) t ms) : FnOk P w K mg base CX0 (k + 1) f fd ps (spT K false cl ps.length io (mFn io (N.length - ps.length) ms)) := by
  refine Fu.ok S (fun vs H Q E h => by obtain ⟨_, _, _, h, _⟩ := h; exact h) fun cdv A outer s H vs Q E hr h => ?_
  obtain ⟨t, b⟩ := body cdv A outer s H E hr
  refine ⟨t, b.ps, ?_⟩
  obtain ⟨ts, F, A1, h1, h2, h3, h4⟩ := h
  exact body_run (Ek := E0) (rz := false) b.sim.z (fun _ _ z => z) hnd hio ⟨ts, F, A1, h1, h2, h3, h4.mono (fun _ z => z) fun _ z => by cases z.1⟩
end
abbrev MB := Env → R (List (Option T) × Env)
def SimB (K : PySem.W.Frag) (E : Str → Hp → Prop) (gr : Bool) (ks : List (Option Nat)) (ta : TA) (m : MB) : Prop :=
  ∀ (c : C0) (H : Hp) (tv : List (Option V)) (td : Env) (σ : L2.St) (ρ : Env), tv.length = td.length → StR K c H (tv ++ σ) (td ++ ρ) → ∀ Q : List V → Hp → Prop,
    Then (m ρ) (fun r => ∀ vs H', (gr = true → Same H H') → vs.length = r.1.length → (∀ (j i : Nat), ks[j]? = some (some i) → ∃ v, vs[j]? = some v ∧ σ[i]? = some (some v)) → StR K c H' (vs.map some ++ (tv ++ σ)) (r.1 ++ (td ++ r.2)) → Q vs H') (fun x => ∀ H', KeepC c H' → E x H') → ta σ H Q
structure QB (X : Cx) (E : Str → Hp → Prop) (gr : Bool) (ks : List (Option Nat)) (es : List Expr) (ta : TA) (m : MB) : Prop where
  pa : PA X es ta
  sim : SimB X.K E gr ks ta m
def mbNil : MB := fun ρ => .ok ([], ρ)
def mbCons (m : MEx) (r : MB) : MB := fun ρ => (m ρ).bind fun x => (r x.2).bind fun y => .ok (some x.1 :: y.1, y.2)
def mbIo (i : Nat) (r : MB) : MB := fun ρ => match ρ[i]? with | some (some _) => (r ρ).bind fun y => .ok (none :: y.1, y.2) | _ => .bad
theorem StR.raiseO {K : PySem.W.Frag} {c : C0} {H : Hp} {xs : List (Option V)} {as : Env} {ys : List (Option V)} {bs : Env} {v : Option V} {t : Option T} (hl : xs.length = as.length) (h : StR K c H (xs ++ v :: ys) (as ++ t :: bs)) : StR K c H (v :: (xs ++ ys)) (t :: (as ++ bs)) := by
  obtain ⟨A, w⟩ := h
  obtain ⟨C, s, z⟩ := w.slots.raiseO hl
  exact ⟨C, w.remake (fun a => Nat.le_of_eq (z a)) s⟩
section
variable {X : Cx} {E : Str → Hp → Prop} {e : Expr} {es : List Expr} {te : TE} {t : TA} {m : MEx} {r : MB} {ks : List (Option Nat)} {g1 g2 : Bool} {pos : Pos}
theorem qb_nil : QB X E true [] [] tNil mbNil := ⟨pa_nil, fun c H tv td σ ρ hl st Q q => q [] H (fun _ => Same.refl H) rfl (fun _ _ z => by simp at z) st⟩
theorem qb_cons (h : QE X E g1 e te m) (hr : QB X E g2 ks es t r) (hs : starEach (e :: es) X.env = (false, eval e X.env) :: starEach es X.env := by rfl) : QB X E (g1 && g2) (none :: ks) (e :: es) (tCons te t) (mbCons m r) := by
  refine ⟨pa_cons h.pe hr.pa hs, fun c H tv td σ ρ hl st Q q => ?_⟩
  unfold mbCons at q
  rw [then_bind] at q
  refine h.sim c H tv td σ ρ hl st _ (q.imp ?_)
  intro x q1 v H1 sm1 st1
  rw [then_bind] at q1
  refine hr.sim c H1 (some v :: tv) (some x.1 :: td) σ x.2 (by simp [hl]) st1 _ (q1.imp ?_)
  intro y q2 vs H2 sm2 hvs hk st2
  refine q2 (v :: vs) H2 (fun e => by rw [Bool.and_eq_true] at e; exact (sm1 e.1).trans (sm2 e.2)) (by simp [hvs]) (fun j i z => ?_) ?_
  · cases j with
    | zero => simp at z
    | succ j => exact hk j i (by simpa using z)
  · exact StR.raiseO (xs := vs.map some) (as := y.1) (by simp [hvs]) st2
theorem qb_io (i : Nat) {x : Str} {p : Pos} (hr : QB X E g2 ks es t r) (hN : X.N[i]? = some x := by rfl) (hv : Vis X.env.scope x := by first | exact Or.inl rfl | exact Or.inr (Or.inl rfl) | exact Or.inr (Or.inr rfl)) (hd : (x == ("__debug__" : Str)) = false := by decide)
    (hcd : (x == ("__classdict__" : Str)) = false := by decide) (hs : starEach (.Name x p :: es) X.env = (false, eval (.Name x p) X.env) :: starEach es X.env := by rfl) : QB X E g2 (some i :: ks) (.Name x p :: es) (tCons (tVar i) t) (mbIo i r) := by
  refine ⟨pa_cons (pe_var hN hv hd hcd) hr.pa hs, fun c H tv td σ ρ hl st Q q => ?_⟩
  unfold mbIo at q
  split at q
  · rename_i t0 e0
    rw [then_bind] at q
    obtain ⟨A, w⟩ := st
    obtain ⟨v, A1, e3, _, _⟩ := w.see hl e0
    refine ⟨v, e3, ?_⟩
    have st' : StR X.K c H ((some v :: tv) ++ σ) ((none :: td) ++ ρ) := ⟨A, w.uniq, .skip w.slots, w.own, w.keep⟩
    refine hr.sim c H (some v :: tv) (none :: td) σ ρ (by simp [hl]) st' _ (q.imp ?_)
    intro y q2 vs H2 sm2 hvs hk st2
    refine q2 (v :: vs) H2 sm2 (by simp [hvs]) (fun j i' z => ?_) ?_
    · cases j with
      | zero =>
        have : i = i' := by simpa using z
        subst this
        exact ⟨v, rfl, e3⟩
      | succ j => exact hk j i' (by simpa using z)
    · exact StR.raiseO (xs := vs.map some) (as := y.1) (by simp [hvs]) st2
  · exact q.elim
end
def fillIo : List (Option Nat) → List (Option T) → Env → Option (List T × Env)
  | [], [], ρ => some ([], ρ)
  | none :: ks, some t :: ts, ρ => (fillIo ks ts ρ).map fun r => (t :: r.1, r.2)
  | some i :: ks, none :: ts, ρ => match ρ[i]? with
    | some (some t) => (fillIo ks ts (ρ.set i none)).map fun r => (t :: r.1, r.2)
    | _ => none
  | _, _, _ => none
def putIo : List Nat → List T → Env → Option Env
  | [], [], ρ => some ρ
  | i :: is, t :: ts, ρ => putIo is ts (ρ.set i (some t))
  | _, _, _ => none
def R.nx {α : Type} : R α → R α
  | .exc _ => .bad
  | r => r
section
variable {K : PySem.W.Frag} {F F' : Addr → Prop} {H H' : Hp}
theorem Sl.fill {tv : List (Option V)} {td : Env} {σ : L2.St} (hl : tv.length = td.length) : ∀ {ks : List (Option Nat)} {vs : List V} {os : List (Option T)} {ρ ρ2 : Env} {ts : List T} {A : List Addr}, vs.length = os.length →
    (∀ (j i : Nat), ks[j]? = some (some i) → ∃ v, vs[j]? = some v ∧ σ[i]? = some (some v)) → Sl K F H (vs.map some ++ (tv ++ σ)) (os ++ (td ++ ρ)) A → fillIo ks os ρ = some (ts, ρ2) →
    ∃ A1 B, RpAll K F H vs ts A1 ∧ Sl K F H (tv ++ σ) (td ++ ρ2) B ∧ ∀ a, A1.count a + B.count a = A.count a
  | [], [], [], ρ, ρ2, ts, A, _, _, s, e => by
    cases e
    exact ⟨[], A, .nil, s, fun a => by simp⟩
  | none :: ks, v :: vs, some t :: os, ρ, ρ2, ts, A, hv, hk, s, e => by
    unfold fillIo at e
    obtain ⟨r, e1, e2⟩ := Option.map_eq_some_iff.mp e
    cases e2
    cases s with
    | cons x s =>
      rename_i A0 B0
      obtain ⟨A1, B, ra, s', hc⟩ := Sl.fill hl (by simpa using hv) (fun j i z => hk (j + 1) i (by simpa using z)) s e1
      exact ⟨A0 ++ A1, B, .cons x ra, s', fun a => by have := hc a; rw [List.count_append, List.count_append]; omega⟩
  | some i :: ks, v :: vs, none :: os, ρ, ρ2, ts, A, hv, hk, s, e => by
    unfold fillIo at e
    split at e
    · rename_i t e0
      obtain ⟨r, e1, e2⟩ := Option.map_eq_some_iff.mp e
      cases e2
      obtain ⟨v', h1, h2⟩ := hk 0 i rfl
      have ev : v = v' := by simpa using h1
      subst ev
      cases s with
      | skip s0 =>
        have s : Sl K F H (vs.map some ++ (tv ++ σ)) (os ++ (td ++ ρ)) A := s0
        have hv' : vs.length = os.length := by simpa using hv
        have hlen := s.len
        have hi : i < σ.length := (List.getElem?_eq_some_iff.mp h2).1
        obtain ⟨B0, hb, ar, get⟩ := s.around (i := vs.length + (tv.length + i)) (by simp only [List.length_append, List.length_map]; omega)
        have e3 : (os ++ (td ++ ρ))[vs.length + (tv.length + i)]? = some (some t) := by rw [app_at hv'.symm, app_at hl.symm, e0]
        obtain ⟨v2, A2, e4, x, hc⟩ := get t e3
        have e5 : (vs.map some ++ (tv ++ σ))[vs.length + (tv.length + i)]? = some (some v) := by rw [app_at (by simp), app_at rfl, h2]
        have : v2 = v := by rw [e4] at e5; cases e5; rfl
        subst this
        obtain ⟨C, s', z⟩ := ar.gone (some v2)
        rw [app_set (by simp), app_set rfl, set_self h2, app_set hv'.symm, app_set hl.symm] at s'
        obtain ⟨A1, B, ra, s2, hc2⟩ := Sl.fill hl hv' (fun j i z => hk (j + 1) i (by simpa using z)) s' e1
        exact ⟨A2 ++ A1, B, .cons x ra, s2, fun a => by have := hc a; have := hc2 a; have := z a; rw [List.count_append]; omega⟩
    · cases e
  | [], _ :: _, some _ :: _, _, _, _, _, hv, _, _, e => by cases e
  | [], _ :: _, none :: _, _, _, _, _, hv, _, _, e => by cases e
  | [], _ :: _, [], _, _, _, _, hv, _, _, e => by simp at hv
  | [], [], _ :: _, _, _, _, _, hv, _, _, e => by simp at hv
  | none :: _, [], [], _, _, _, _, _, hk, _, e => by cases e
  | some _ :: _, [], [], _, _, _, _, _, hk, _, e => by cases e
  | _ :: _, [], _ :: _, _, _, _, _, hv, _, _, e => by simp at hv
  | _ :: _, _ :: _, [], _, _, _, _, hv, _, _, e => by simp at hv
  | none :: _, _ :: _, none :: _, _, _, _, _, hv, _, _, e => by cases e
  | some _ :: _, _ :: _, some _ :: _, _, _, _, _, hv, _, _, e => by cases e
theorem Sl.putIo {tv : List (Option V)} {td : Env} {σ : L2.St} (hl : tv.length = td.length) : ∀ {is : List Nat} {us : List V} {os : List T} {ρ ρ2 : Env} {A B : List Addr}, RpAll K F H us os A → (∀ (j i : Nat), is[j]? = some i → ∃ v, us[j]? = some v ∧ σ[i]? = some (some v)) → us.length = is.length →
    Sl K F H (tv ++ σ) (td ++ ρ) B → L3.putIo is os ρ = some ρ2 → ∃ C, Sl K F H (tv ++ σ) (td ++ ρ2) C ∧ ∀ a, C.count a ≤ A.count a + B.count a
  | [], _, [], ρ, ρ2, A, B, ra, _, _, s, e => by
    cases e
    exact ⟨B, s, fun a => by omega⟩
  | i :: is, u :: us, o :: os, ρ, ρ2, _, B, ra, hk, hz, s, e => by
    cases ra with
    | cons x r =>
    rename_i A1 A2
    have e' : L3.putIo is os (ρ.set i (some o)) = some ρ2 := e
    obtain ⟨v, h1, h2⟩ := hk 0 i rfl
    have ev : u = v := by simpa using h1
    subst ev
    have hlen := s.len
    have hi : i < σ.length := (List.getElem?_eq_some_iff.mp h2).1
    obtain ⟨B0, hb, ar, _⟩ := s.around (i := tv.length + i) (by rw [List.length_append]; omega)
    obtain ⟨C, s', z⟩ := ar.put (Mono.sub fun _ _ x => x) (fun _ _ => rfl) x
    rw [app_set rfl, set_self h2, app_set hl.symm] at s'
    obtain ⟨C2, s2, z2⟩ := Sl.putIo hl r (fun j i z => hk (j + 1) i (by simpa using z)) (by simpa using hz) s' e'
    exact ⟨C2, s2, fun a => by have := z2 a; have := z a; have := hb a; rw [List.count_append]; omega⟩
  | _ :: _, [], _, _, _, _, _, _, _, hz, _, _ => by simp at hz
  | _ :: _, _ :: _, [], _, _, _, _, _, _, _, _, e => by cases e
  | [], _, _ :: _, _, _, _, _, _, _, _, _, e => by cases e
end
def posOf : List (Option Nat) → Nat → List Nat
  | [], _ => []
  | some _ :: r, n => n :: posOf r (n + 1)
  | none :: r, n => posOf r (n + 1)
theorem posOf_at {σ : L2.St} {vs0 : List V} : ∀ {ks : List (Option Nat)} {n : Nat}, (∀ (j i : Nat), ks[j]? = some (some i) → ∃ v, vs0[n + j]? = some v ∧ σ[i]? = some (some v)) →
    (sel (posOf ks n) vs0).length = (ks.filterMap id).length ∧ ∀ (j i : Nat), (ks.filterMap id)[j]? = some i → ∃ v, (sel (posOf ks n) vs0)[j]? = some v ∧ σ[i]? = some (some v)
  | [], n, _ => ⟨rfl, fun j i z => by simp at z⟩
  | none :: r, n, h => posOf_at (ks := r) (n := n + 1) fun j i z => by
      have := h (j + 1) i (by simpa using z)
      rwa [show n + (j + 1) = n + 1 + j by omega] at this
  | some i0 :: r, n, h => by
    obtain ⟨v, h1, h2⟩ := h 0 i0 rfl
    obtain ⟨a, b⟩ := posOf_at (ks := r) (n := n + 1) fun j i z => by
      have := h (j + 1) i (by simpa using z)
      rwa [show n + (j + 1) = n + 1 + j by omega] at this
    have e : sel (posOf (some i0 :: r) n) vs0 = v :: sel (posOf r (n + 1)) vs0 := by
      show List.filterMap _ (n :: posOf r (n + 1)) = _
      rw [List.filterMap_cons, show vs0[n]? = some v by simpa using h1]
      rfl
    rw [e]
    refine ⟨by simp [a], fun j i z => ?_⟩
    cases j with
    | zero =>
      have : i0 = i := by simpa using z
      subst this
      exact ⟨v, rfl, h2⟩
    | succ j => exact b j i (by simpa using z)
def allData : List T → Bool
  | [] => true
  | .d _ :: r => allData r
  | _ => false
theorem RpAll.allData {K : PySem.W.Frag} {F : Addr → Prop} {H : Hp} : ∀ {vs : List V} {ts : List T} {A : List Addr}, RpAll K F H vs ts A → L3.allData ts = true → A = []
  | _, _, _, .nil, _ => rfl
  | _, .d _ :: _, _, .cons x r, e => by
    cases x with
    | d _ => exact r.allData e
  | _, .ol _ :: _, _, .cons _ _, e => by cases e
  | _, .ot _ :: _, _, .cons _ _, e => by cases e
  | _, .od _ _ :: _, _, .cons _ _, e => by cases e
  | _, .fd _ _ _ :: _, _, .cons _ _, e => by cases e
  | _, .fk _ _ _ :: _, _, .cons _ _, e => by cases e
  | _, .dt _ _ _ :: _, _, .cons _ _, e => by cases e
  | _, .no _ :: _, _, .cons _ _, e => by cases e
  | _, .hl :: _, _, .cons _ _, e => by cases e
  | _, .ob _ _ _ :: _, _, .cons _ _, e => by cases e
  | _, .rd _ :: _, _, .cons _ _, e => by cases e
theorem nx_red {α : Type} {rz : Bool} {r : R α} {P P' : α → Prop} {E E' : Str → Prop} (h : Then (if rz = true then r else r.nx) P E) (hp : ∀ a, P a → P' a) (he : ∀ x, E x → E' x) : Then r P' (fun x => rz = true ∧ E' x) := by
  cases rz with
  | true =>
    rw [if_pos rfl] at h
    exact h.mono hp fun x z => ⟨rfl, he x z⟩
  | false =>
    rw [if_neg (by decide)] at h
    cases r with
    | ok a => exact hp a h
    | exc x => exact h.elim
    | bad => exact h.elim
section
variable {X : Cx} {CX : CXT} {k : Nat} {f : Addr} {fd : FuncData} {ps : List Str} {Ek : XK} {cl : Str → Option Addr} {x : Str} {p pos : Pos} {e : Expr} {es : List Expr} {t : TA} {mb : MB} {ks : List (Option Nat)} {io : List Nat} {fm : List T → R (T × List T)} {rz g : Bool} {n : Nat}
theorem sim_call {K : PySem.W.Frag} (hio : io = posOf ks 0) (sb : SimB K (EX cl Ek) g ks t mb) {gz : Bool} (hg : gz = true → g = true ∧ io = []) : SimE K (EX cl Ek) gz (tCall (spT K rz cl n io fm) [] Ek t) (fun ρ => (mb ρ).bind fun r => (ofO (fillIo ks r.1 r.2)).bind fun s =>
    guard (!gz || allData s.1) ((if decide (s.1.length = n) then (if rz = true then fm s.1 else (fm s.1).nx) else .bad).bind fun z => (ofO (putIo (ks.filterMap id) z.2 s.2)).bind fun ρ' => .ok (z.1, ρ'))) := by
  intro c H tv td σ ρ hl st Q q
  rw [then_bind] at q
  refine sb c H tv td σ ρ hl st _ (q.imp ?_)
  intro r q1 vs H1 sm1 hvs hk st1
  rw [then_bind] at q1
  obtain ⟨s, es, q1⟩ := then_ofO.mp q1
  obtain ⟨gd, q1⟩ := then_guard.mp q1
  rw [then_bind] at q1
  have hn : s.1.length = n := by
    by_cases h : s.1.length = n
    · exact h
    · rw [if_neg (by simp [h])] at q1; exact q1.elim
  rw [if_pos (by simp [hn])] at q1
  obtain ⟨A, w⟩ := st1
  obtain ⟨A1, B, ra, sl, hc⟩ := w.slots.fill hl hvs hk es
  have hA1 : ∀ a, A1.count a ≤ A.count a := fun a => by have := hc a; omega
  have hB : ∀ a, B.count a ≤ A.count a := fun a => by have := hc a; omega
  have mem1 : ∀ a ∈ A1, a ∈ A := fun a ha => List.count_pos_iff.mp (Nat.lt_of_lt_of_le (List.count_pos_iff.mpr ha) (hA1 a))
  have memB : ∀ a ∈ B, a ∈ A := fun a ha => List.count_pos_iff.mp (Nat.lt_of_lt_of_le (List.count_pos_iff.mpr ha) (hB a))
  have apart : ∀ a ∈ B, a ∉ A1 := fun a ha z => by
    have h1 := List.count_pos_iff.mpr ha
    have h2 := List.count_pos_iff.mpr z
    have h3 := hc a
    have h4 := w.uniq a
    omega
  have thereB : ∀ a ∈ B, H1 a ≠ none := fun a ha e => by
    obtain ⟨u, z, _⟩ := sl.own a ha
    rw [e] at z; cases z
  show spT K rz cl n io fm (vs ++ []) H1 Q Ek
  rw [List.append_nil]
  refine ⟨s.1, Fok c A, A1, by rw [ra.len, hn], fun a => Nat.le_trans (hA1 a) (w.uniq a), ra.mono (.sub fun a _ z => ⟨z, fun y => z.2 (mem1 a y)⟩) fun _ _ => rfl, ?_⟩
  have kc : ∀ {H' : Hp}, KeepF H1 H' A1 → KeepC c H' := fun {H'} kf => ⟨fun a o e n => kf.keep a o (w.keep.keep a o e n) fun ha => by
    rcases w.own a (mem1 a ha) with z | z
    · exact n z
    · exact absurd (e.symm.trans z) (by intro y; cases y), fun a e => w.keep.there a (kf.there a e)⟩
  refine nx_red q1 (fun z q2 => ?_) (fun y q2 H' kf => q2 H' (kc kf))
  rw [then_bind] at q2
  obtain ⟨ρ', ep, q2⟩ := then_ofO.mp q2
  intro v H' A' u' own' kf same rr
  cases rr with
  | cons xv rio =>
    rename_i C0 C1
    have own2 : ∀ a ∈ C0 ++ C1, a ∈ c.A0 ∨ c.H0 a = none := fun a ha => by
      rcases own' a ha with z | z
      · exact w.own a (mem1 a z)
      · exact .inr (w.keep.there a z)
    have eqB : ∀ a ∈ B, H' a = H1 a := fun a ha => by
      obtain ⟨u, z, _⟩ := sl.own a ha
      rw [z, kf.keep a _ z (apart a ha)]
    have dis : ∀ a ∈ B, a ∉ C0 ++ C1 := fun a ha z => by
      rcases own' a z with y | y
      · exact apart a ha y
      · exact thereB a ha y
    have tot : ∀ a, (C0 ++ C1).count a + B.count a ≤ 1 := fun a => by
      by_cases ha : a ∈ B
      · rw [List.count_eq_zero.mpr (dis a ha)]; have := hB a; have := w.uniq a; omega
      · rw [List.count_eq_zero.mpr ha]; exact u' a
    let G : Addr → Prop := fun a => (c.F0 a ∨ c.H0 a = none ∨ a ∈ c.A0) ∧ a ∉ C0 ++ C1 ∧ a ∉ B
    have mG : Mono (Fok c A) G H1 H' := ⟨fun a vs e f => by
      have na : a ∉ A := f.2
      have e2 := kf.keep a _ e fun z => na (mem1 a z)
      refine ⟨e2, f.1, fun z => ?_, fun z => na (memB a z)⟩
      rcases own' a z with y | y
      · exact na (mem1 a y)
      · exact absurd (e.symm.trans y) (by intro y; cases y), fun a u e st => kf.keep a u e fun z => by
        obtain ⟨u, y, ns⟩ := ra.own a z
        rw [e] at y; cases y; exact ns st⟩
    have mR : Mono (fun a => (Fok c A a ∨ H1 a = none ∨ a ∈ A1) ∧ a ∉ C0 ++ C1) G H' H' := .sub fun a _ ⟨h1, h2⟩ => by
      rcases h1 with h1 | h1 | h1
      · exact ⟨h1.1, h2, fun z => h1.2 (memB a z)⟩
      · exact ⟨.inr (.inl (w.keep.there a h1)), h2, fun z => thereB a z h1⟩
      · refine ⟨?_, h2, fun z => apart a z h1⟩
        rcases w.own a (mem1 a h1) with y | y
        · exact .inr (.inr y)
        · exact .inr (.inl y)
    have sl2 : Sl K G H' (tv ++ σ) (td ++ s.2) B := sl.mono mG eqB
    obtain ⟨hlen, hat⟩ := posOf_at (σ := σ) (vs0 := vs) (ks := ks) (n := 0) fun j i z => by rw [Nat.zero_add]; exact hk j i z
    rw [← hio] at hlen hat
    obtain ⟨C2, s3, hc3⟩ := sl2.putIo hl (rio.mono mR fun _ _ => rfl) hat hlen ep
    have hfin : ∀ a, (C0 ++ C2).count a ≤ (C0 ++ C1).count a + B.count a := fun a => by rw [List.count_append, List.count_append]; have := hc3 a; omega
    refine q2 v H' (fun e => ?_) ⟨C0 ++ C2, fun a => Nat.le_trans (hfin a) (tot a), ?_, fun a ha => ?_, kc kf⟩
    · obtain ⟨g1, g2⟩ := hg e
      have ad : allData s.1 = true := by rw [e] at gd; simpa using gd
      exact (sm1 g1).trans (same g2 (ra.allData ad))
    · have m3 : Mono G (Fok c (C0 ++ C2)) H' H' := .sub fun a _ ⟨h1, h2, h3⟩ => ⟨h1, fun z => by
        have := hfin a
        have := List.count_pos_iff.mpr z
        rw [List.count_eq_zero.mpr h2, List.count_eq_zero.mpr h3] at *
        omega⟩
      exact (Sl.cons (xv.mono mR fun _ _ => rfl) s3).mono m3 fun _ _ => rfl
    · have h1 := hfin a
      have h2 := List.count_pos_iff.mpr ha
      by_cases hb : a ∈ B
      · exact w.own a (memB a hb)
      · rw [List.count_eq_zero.mpr hb] at h1
        exact own2 a (List.count_pos_iff.mp (by omega))
def mCallF (rz gz : Bool) (n : Nat) (fm : List T → R (T × List T)) (ks : List (Option Nat)) (mb : MB) : MEx := fun ρ => (mb ρ).bind fun r => (ofO (fillIo ks r.1 r.2)).bind fun s =>
    guard (!gz || allData s.1) ((if decide (s.1.length = n) then (if rz = true then fm s.1 else (fm s.1).nx) else .bad).bind fun z => (ofO (putIo (ks.filterMap id) z.2 s.2)).bind fun ρ' => .ok (z.1, ρ'))
theorem qe_call (Fn : FnOk X.prog X.w X.K X.mg X.base CX k f fd ps (spT X.K rz cl n io fm)) (hr : Room k X.A) (hm : X.mg x = some (.ref f)) (hk : PySem.W.keepIn X.K (.ref f) = true) (hb : Binds X.K fd ps []) (hx : Passes CX X Ek)
    (ha : QB X (EX cl Ek) g ks (e :: es) t mb) (hio : io = posOf ks 0 := by rfl) (hg : Gl X x := by rfl) (hdb : (x == ("__debug__" : Str)) = false := by decide) (he : starEach (e :: es) X.env = (false, eval e X.env) :: starEach es X.env := by rfl) (hpl : (backTo pos (starEach es X.env)).any (·.1) = false := by rfl) :
    QE X (EX cl Ek) false (.Call (.Name x p) (e :: es) [] pos) (tCall (spT X.K rz cl n io fm) [] Ek t) (mCallF rz false n fm ks mb) := ⟨pe_call Fn hr hg hm hk hb .nil hx ha.pa hdb he hpl, sim_call hio ha.sim fun z => by cases z⟩
end
end L3
namespace L3
open PySem PySem.Spec PyProof.Rows L2
def mLoop (g : MG) (body : MS) : List T → Env → R Out
  | [], ρ => .ok (.next ρ)
  | x :: xs, ρ => (ofO (g x ρ)).bind fun ρ1 => (body ρ1).bind fun o => match o with
    | .next ρ2 => mLoop g body xs ρ2
    | .cont ρ2 => mLoop g body xs ρ2
    | .brk ρ2 => .ok (.next ρ2)
    | .ret t ρ2 => .ok (.ret t ρ2)
section
variable {K : PySem.W.Frag} {c : C0} {H : Hp}
theorem StR.drop2 {o o' : Option V} {t t' : Option T} {sl : List (Option V)} {ρ : Env} (h : StR K c H (o :: o' :: sl) (t :: t' :: ρ)) : StR K c H (o :: sl) (t :: ρ) := by
  obtain ⟨A, w⟩ := h
  obtain ⟨u, s, ow, k⟩ := w
  cases s with
  | skip s =>
    cases s with
    | skip s => exact ⟨_, u, .skip s, ow, k⟩
    | cons x s =>
      rename_i A1 B
      have w : StW K c H (o :: some _ :: sl) (none :: some _ :: ρ) (A1 ++ B) := ⟨u, .skip (.cons x s), ow, k⟩
      exact ⟨B, w.remake (fun a => by rw [List.count_append]; omega) (.skip s)⟩
  | cons y s =>
    rename_i A0 B0
    cases s with
    | skip s => exact ⟨_, u, .cons y s, ow, k⟩
    | cons x s =>
      rename_i A1 B
      have w : StW K c H (some _ :: some _ :: sl) (some _ :: some _ :: ρ) (A0 ++ (A1 ++ B)) := ⟨u, .cons y (.cons x s), ow, k⟩
      exact ⟨A0 ++ B, w.remake (fun a => by simp only [List.count_append]; omega) (.cons y s)⟩
end
structure Src (K : PySem.W.Frag) (J : It) (xv : List (Option V)) (xt : Env) (items : List T) : Prop where
  len : xv.length = xt.length
  goes : ∀ (c : C0) (H : Hp) (sl : List (Option V)) (ρ : Env) (i : Nat), i < items.length → StR K c H (xv ++ sl) (xt ++ ρ) → J.go i H
  stops : ∀ (c : C0) (H : Hp) (sl : List (Option V)) (ρ : Env), StR K c H (xv ++ sl) (xt ++ ρ) → J.stop items.length H
  yields : ∀ (c : C0) (H : Hp) (sl : List (Option V)) (ρ : Env) (i : Nat) (x : V) (H' : Hp) (t : T), items[i]? = some t → StR K c H (xv ++ sl) (xt ++ ρ) → J.yld i H x H' → Same H H' ∧ StR K c H' (some x :: (xv ++ sl)) (some t :: (xt ++ ρ))
theorem StR.dropN {K : PySem.W.Frag} {c : C0} {H : Hp} : ∀ {xs : List (Option V)} {as : Env} {sl : List (Option V)} {ρ : Env}, xs.length = as.length → StR K c H (xs ++ sl) (as ++ ρ) → StR K c H sl ρ
  | [], [], _, _, _, h => h
  | _ :: xs, _ :: as, _, _, e, h => StR.dropN (by simpa using e) h.drop
  | [], _ :: _, _, _, e, _ => by simp at e
  | _ :: _, [], _, _, e, _ => by simp at e
theorem StR.dropN1 {K : PySem.W.Frag} {c : C0} {H : Hp} {o : Option V} {t : Option T} : ∀ {xs : List (Option V)} {as : Env} {sl : List (Option V)} {ρ : Env}, xs.length = as.length → StR K c H (o :: (xs ++ sl)) (t :: (as ++ ρ)) → StR K c H (o :: sl) (t :: ρ)
  | [], [], _, _, _, h => h
  | _ :: xs, _ :: as, _, _, e, h => StR.dropN1 (by simpa using e) h.drop2
  | [], _ :: _, _, _, e, _ => by simp at e
  | _ :: _, [], _, _, e, _ => by simp at e
section
variable {E : Str → Hp → Prop} {io : List Nat}
theorem loop_run {K : PySem.W.Frag} {J : It} {xv : List (Option V)} {xt : Env} {items : List T} (S : Src K J xv xt items) {g : TG} {mg : MG} {tb : TS} {mb : MS} (sg : SimG K (inIo io) g mg) (sb : SimS K E io tb mb) {c : C0} {H : Hp} {tv : List (Option V)} {td : Env} {σ : L2.St} {ρ : Env}
    (hl : tv.length = td.length) (st : StR K c H (xv ++ (tv ++ σ)) (xt ++ (td ++ ρ))) {D : Ends} (q : Then (mLoop mg mb items ρ) (OutTo K c tv td io σ D) (fun x => ∀ H', KeepC c H' → E x H')) :
    ∃ W : Nat → Nat → L2.St → Hp → Prop, (∃ m, W 0 m σ H) ∧ ∀ i m σ H, W i m σ H →
      (J.stop i H ∧ D.nx σ H) ∨ (J.go i H ∧ ∃ N : L2.St → Hp → Prop, (∀ σ' H', N σ' H' → ∃ m', m' < m ∧ W (i + 1) m' σ' H') ∧ ∀ x H', J.yld i H x H' → g x σ H' fun σ2 H2 => tb { D with nx := N, ct := N, bk := D.nx } σ2 H2) := by
  refine ⟨fun i m σ' H' => m = items.length - i ∧ i ≤ items.length ∧ SameIo io σ σ' ∧ ∃ ρ', StR K c H' (xv ++ (tv ++ σ')) (xt ++ (td ++ ρ')) ∧ Then (mLoop mg mb (items.drop i) ρ') (OutTo K c tv td io σ D) (fun x => ∀ H', KeepC c H' → E x H'),
    ⟨items.length, by simp, Nat.zero_le _, .refl, ρ, st, by simpa using q⟩, ?_⟩
  rintro i m σ1 H1 ⟨rfl, hi, s1, ρ1, st1, q1⟩
  by_cases hlt : i < items.length
  · refine .inr ⟨S.goes c H1 _ _ i hlt st1, fun σ' H' => SameIo io σ σ' ∧ ∃ ρ', StR K c H' (xv ++ (tv ++ σ')) (xt ++ (td ++ ρ')) ∧ Then (mLoop mg mb (items.drop (i + 1)) ρ') (OutTo K c tv td io σ D) (fun x => ∀ H', KeepC c H' → E x H'), fun σ' H' p => ⟨items.length - (i + 1), by omega, rfl, hlt, p.1, p.2⟩, fun x H' y => ?_⟩
    have eI : items[i]? = some items[i] := List.getElem?_eq_getElem hlt
    have hd : items.drop i = items[i] :: items.drop (i + 1) := List.drop_eq_getElem_cons hlt
    rw [hd] at q1
    obtain ⟨sm, st2⟩ := S.yields c H1 _ _ i x H' _ eI st1 y
    have q2 := then_bind.mp q1
    obtain ⟨ρ2, e2, q2⟩ := then_ofO.mp q2
    refine sg c H' (xv ++ tv) (xt ++ td) σ1 ρ1 ρ2 x items[i] (by simp [S.len, hl]) (by simpa [List.append_assoc] using st2) e2 _ fun σ2 H2 s2 st3 => ?_
    have q3 := then_bind.mp q2
    have s12 : SameIo io σ σ2 := s1.trans s2.toIo
    refine sb c H2 (xv ++ tv) (xt ++ td) σ2 ρ2 (by simp [S.len, hl]) st3 _ (q3.imp fun o q4 => ?_)
    cases o with
    | next ρ3 => exact fun σ' H' s' st' => ⟨s12.trans s', ρ3, by simpa [List.append_assoc] using st', q4⟩
    | cont ρ3 => exact fun σ' H' s' st' => ⟨s12.trans s', ρ3, by simpa [List.append_assoc] using st', q4⟩
    | brk ρ3 => exact fun σ' H' s' st' => q4 σ' H' (s12.trans s') (StR.dropN S.len (by simpa [List.append_assoc] using st'))
    | ret t ρ3 => exact fun v σ' H' s' st' => q4 v σ' H' (s12.trans s') (StR.dropN1 S.len (by simpa [List.append_assoc] using st'))
  · have e : i = items.length := by omega
    subst e
    rw [List.drop_length] at q1
    exact .inl ⟨S.stops c H1 _ _ st1, q1 σ1 H1 s1 (StR.dropN S.len st1)⟩
end
abbrev MI := Env → R (List T × Env)
def SimI (K : PySem.W.Frag) (E : Str → Hp → Prop) (wi : TI) (mi : MI) : Prop :=
  ∀ (c : C0) (H : Hp) (tv : List (Option V)) (td : Env) (σ : L2.St) (ρ : Env), tv.length = td.length → StR K c H (tv ++ σ) (td ++ ρ) → ∀ Rr : It → Hp → Prop,
    Then (mi ρ) (fun r => ∀ J H' xv xt, Src K J xv xt r.1 → StR K c H' (xv ++ (tv ++ σ)) (xt ++ (td ++ r.2)) → Rr J H') (fun x => ∀ H', KeepC c H' → E x H') → wi σ H Rr
structure QI (X : Cx) (E : Str → Hp → Prop) (tg : Expr) (e : Expr) (wi : TI) (mi : MI) : Prop where
  pi : PI X tg e wi
  sim : SimI X.K E wi mi
def mFor (mi : MI) (g : MG) (body : MS) : MS := fun ρ => (mi ρ).bind fun r => mLoop g body r.1 r.2
section
variable {X : Cx} {E : Str → Hp → Prop} {io : List Nat} {pos : Pos}
theorem qs_for {tg iter : Expr} {body : List Stmt} {wi : TI} {mi : MI} {g : TG} {mg : MG} {tb : TS} {mb : MS} (hc : X.calm = true) (hp : PassesOwn (model X.prog X.w) X.A X.env X.xe) (hi : QI X E tg iter wi mi) (hg : QG X (inIo io) tg g mg) (hb : QSs X E io body tb mb)
    (hs : ∀ x, foldedSetIterable iter X.env x = pure x := by intro _; rfl) : QS X E io (.For tg iter body [] pos) (tFor wi g tb) (mFor mi mg mb) := by
  refine ⟨ps_for hp hc hi.pi hg.pg hb.ps hs, fun c H tv td σ ρ hl st D q => ?_⟩
  unfold mFor at q
  rw [then_bind] at q
  refine hi.sim c H tv td σ ρ hl st _ (q.imp ?_)
  intro r q1 J H' xv xt S st1
  exact loop_run S hg.sim hb.sim hl st1 q1
def items? : T → Option (List T)
  | .d (.list ds) => some (ds.map T.d)
  | _ => none
def itemsT? : T → Option (List T)
  | .d (.tuple ds) => some (ds.map T.d)
  | _ => none
def miL (m : MEx) : MI := fun ρ => (m ρ).bind fun r => (ofO (items? r.1)).bind fun ts => .ok (ts, r.2)
def miT (m : MEx) : MI := fun ρ => (m ρ).bind fun r => (ofO (itemsT? r.1)).bind fun ts => .ok (ts, r.2)
theorem StR.look {K : PySem.W.Frag} {c : C0} {H : Hp} {sl : List (Option V)} {ρ : Env} {v : V} {x : PyData} (h : StR K c H (some v :: sl) (some (.d x) :: ρ)) : ∃ A, StW K c H (some v :: sl) (some (.d x) :: ρ) A ∧ Fz K (Fok c A) H v x := by
  obtain ⟨A, w⟩ := h
  exact ⟨A, w, w.topD.1⟩
theorem src_list {K : PySem.W.Frag} {a : Addr} {ds : List PyData} : Src K (Itl K a) [some (.ref a)] [some (.d (.list ds))] (ds.map T.d) where
  len := rfl
  goes := by
    intro c H sl ρ i hi st
    obtain ⟨A, w, f⟩ := StR.look st
    cases f with
    | @lst _ vs _ h _ f =>
      have hl := f.len
      have hi2 : i < vs.length := by rw [hl]; simpa using hi
      exact ⟨vs, vs[i], .of h, List.getElem?_eq_getElem hi2⟩
  stops := by
    intro c H sl ρ st
    obtain ⟨A, w, f⟩ := StR.look st
    cases f with
    | lst h _ f => exact ⟨_, .of h, by rw [List.length_map, f.len]; exact Nat.le_refl _⟩
  yields := by
    intro c H sl ρ i x H' t ht st y
    obtain ⟨rfl, y⟩ := y
    obtain ⟨A, w, f⟩ := StR.look st
    refine ⟨Same.refl _, A, ?_⟩
    rw [List.getElem?_map] at ht
    obtain ⟨z, e1, rfl⟩ := Option.map_eq_some_iff.mp ht
    cases f with
    | lst h _ f =>
      obtain ⟨v, e2, fz⟩ := f.get e1
      have := y _ (.of h)
      rw [e2] at this
      cases this
      exact w.pushD fz
theorem sim_iL {K : PySem.W.Frag} {te : TE} {m : MEx} {g : Bool} (s : SimE K E g te m) : SimI K E (iList K te) (miL m) := by
  intro c H tv td σ ρ hl st Rr q
  unfold miL at q
  rw [then_bind] at q
  refine s c H tv td σ ρ hl st _ (q.imp ?_)
  rintro ⟨t, ρ1⟩ q1 v H1 _ st1
  obtain ⟨ts, e, q2⟩ := then_ofO.mp (then_bind.mp q1)
  unfold items? at e
  dsimp only at e
  split at e
  · rename_i ds
    cases e
    obtain ⟨A, w, f⟩ := StR.look st1
    cases f with
    | lst h h2 f => exact ⟨_, rfl, ⟨_, .of h⟩, q2 _ H1 [some _] [some _] src_list st1⟩
  · cases e
theorem qi_list {tg e : Expr} {te : TE} {m : MEx} {g : Bool} (h : QE X E g e te m) : QI X E tg e (iList X.K te) (miL m) := ⟨pi_list h.pe, sim_iL h.sim⟩
def rangeItems (lo hi : Int) : List T := (List.range (hi - lo).toNat).map fun i => .d (.int (lo + (i : Nat)))
def small62 (i : Int) : Bool := decide (-(2 ^ 62) ≤ i ∧ i < 2 ^ 62)
def miR1 (m : MA) : MI := fun ρ => (m ρ).bind fun r => match r.1 with | [.d (.int j)] => guard (small62 j) (.ok (rangeItems 0 j, r.2)) | _ => .bad
def miR2 (m : MA) : MI := fun ρ => (m ρ).bind fun r => match r.1 with | [.d (.int i), .d (.int j)] => guard (small62 i && small62 j) (.ok (rangeItems i j, r.2)) | _ => .bad
theorem src_range {K : PySem.W.Frag} {lo hi : Int} : Src K (Itr lo (hi - lo).toNat) [] [] (rangeItems lo hi) where
  len := rfl
  goes := fun c H sl ρ i hi st => by simpa [rangeItems, Itr] using hi
  stops := fun c H sl ρ st => by
    show (hi - lo).toNat ≤ (rangeItems lo hi).length
    unfold rangeItems
    rw [List.length_map, List.length_range]
    exact Nat.le_refl _
  yields := by
    intro c H sl ρ i x H' t ht st y
    obtain ⟨rfl, rfl⟩ := y
    refine ⟨Same.refl _, ?_⟩
    unfold rangeItems at ht
    rw [List.getElem?_map] at ht
    obtain ⟨z, e1, rfl⟩ := Option.map_eq_some_iff.mp ht
    have : z = i := by
      obtain ⟨h1, h2⟩ := List.getElem?_eq_some_iff.mp e1
      simpa using h2.symm
    subst this
    exact StR.pushC st fun _ _ => .int _
theorem StR.top1 {K : PySem.W.Frag} {c : C0} {H : Hp} {sl : List (Option V)} {ρ : Env} {v : V} {i : Int} (h : StR K c H (some v :: sl) (some (.d (.int i)) :: ρ)) : v = .int i ∧ StR K c H sl ρ := by
  obtain ⟨A, w⟩ := h
  obtain ⟨f, w'⟩ := w.topD
  cases f
  exact ⟨rfl, A, w'⟩
theorem sim_iR1 {K : PySem.W.Frag} {ta : TA} {m : MA} {g : Bool} (s : SimA K E g ta m) : SimI K E (iRng1 ta) (miR1 m) := by
  intro c H tv td σ ρ hl st Rr q
  unfold miR1 at q
  rw [then_bind] at q
  refine s c H tv td σ ρ hl st _ (q.imp ?_)
  rintro ⟨ts, ρ1⟩ q1 vs H1 _ hvs st1
  dsimp only at q1 hvs st1
  split at q1
  · rename_i j
    obtain ⟨gd, q2⟩ := then_guard.mp q1
    match vs, hvs, st1 with
    | [v], _, st1 =>
      obtain ⟨rfl, st2⟩ := StR.top1 st1
      have hz := of_decide_eq_true gd
      refine ⟨j, rfl, hz.1, hz.2, q2 _ H1 [] [] ?_ st2⟩
      have := src_range (K := K) (lo := 0) (hi := j)
      rwa [Int.sub_zero] at this
  · exact q1.elim
theorem sim_iR2 {K : PySem.W.Frag} {ta : TA} {m : MA} {g : Bool} (s : SimA K E g ta m) : SimI K E (iRng2 ta) (miR2 m) := by
  intro c H tv td σ ρ hl st Rr q
  unfold miR2 at q
  rw [then_bind] at q
  refine s c H tv td σ ρ hl st _ (q.imp ?_)
  rintro ⟨ts, ρ1⟩ q1 vs H1 _ hvs st1
  dsimp only at q1 hvs st1
  split at q1
  · rename_i i j
    obtain ⟨gd, q2⟩ := then_guard.mp q1
    rw [Bool.and_eq_true] at gd
    match vs, hvs, st1 with
    | [v, u], _, st1 =>
      obtain ⟨rfl, st2⟩ := StR.top1 st1
      obtain ⟨rfl, st3⟩ := StR.top1 st2
      have h1 := of_decide_eq_true gd.1
      have h2 := of_decide_eq_true gd.2
      exact ⟨i, j, rfl, ⟨h1.1, h1.2, h2.1, h2.2⟩, q2 _ H1 [] [] src_range st3⟩
  · exact q1.elim
theorem qi_range1 {tg a : Expr} {ta : TA} {m : MA} {g : Bool} {p : Pos} (hm : X.mg "range" = none) (ha : QA X E g [a] ta m) (hg : Gl X "range" := by rfl) (hs : starEach [a] X.env = [(false, eval a X.env)] := by rfl) : QI X E tg (.Call (.Name "range" p) [a] [] pos) (iRng1 ta) (miR1 m) := ⟨pi_range1 hg hm ha.pa hs, sim_iR1 ha.sim⟩
theorem qi_range2 {tg a b : Expr} {ta : TA} {m : MA} {g : Bool} {p : Pos} (hm : X.mg "range" = none) (ha : QA X E g [a, b] ta m) (hg : Gl X "range" := by rfl) (hs : starEach [a, b] X.env = [(false, eval a X.env), (false, eval b X.env)] := by rfl) (hs2 : starEach [b] X.env = [(false, eval b X.env)] := by rfl) : QI X E tg (.Call (.Name "range" p) [a, b] [] pos) (iRng2 ta) (miR2 m) := ⟨pi_range2 hg hm ha.pa hs hs2, sim_iR2 ha.sim⟩
end
def mWhileN (mt : MT) (mb : MS) : Nat → Env → R Out
  | 0, _ => .bad
  | n + 1, ρ => (mt ρ).bind fun r => if r.1 = true then (mb r.2).bind (fun o => match o with
    | .next ρ2 => mWhileN mt mb n ρ2
    | .cont ρ2 => mWhileN mt mb n ρ2
    | .brk ρ2 => .ok (.next ρ2)
    | .ret t ρ2 => .ok (.ret t ρ2)) else .ok (.next r.2)
open Classical in
noncomputable def mWhile (mt : MT) (mb : MS) : MS := fun ρ => if h : ∃ n, mWhileN mt mb n ρ ≠ .bad then mWhileN mt mb (Classical.choose h) ρ else .bad
theorem mWhileN_succ {mt : MT} {mb : MS} : ∀ {n : Nat} {ρ : Env}, mWhileN mt mb n ρ ≠ .bad → mWhileN mt mb (n + 1) ρ = mWhileN mt mb n ρ
  | 0, ρ, h => (h rfl).elim
  | n + 1, ρ, h => by
    have go : ∀ ρ2, mWhileN mt mb n ρ2 ≠ .bad → mWhileN mt mb (n + 1) ρ2 = mWhileN mt mb n ρ2 := fun ρ2 => mWhileN_succ
    show (mt ρ).bind _ = (mt ρ).bind _
    have h' : (mt ρ).bind (fun r => if r.1 = true then (mb r.2).bind (fun o => match o with
      | .next ρ2 => mWhileN mt mb n ρ2
      | .cont ρ2 => mWhileN mt mb n ρ2
      | .brk ρ2 => .ok (.next ρ2)
      | .ret t ρ2 => .ok (.ret t ρ2)) else .ok (.next r.2)) ≠ .bad := h
    cases e : mt ρ with
    | exc x => rfl
    | bad => rfl
    | ok r =>
      rw [e] at h'
      dsimp only [R.bind] at h' ⊢
      by_cases hr : r.1 = true
      · rw [if_pos hr] at h'
        rw [if_pos hr, if_pos hr]
        cases e2 : mb r.2 with
        | exc x => rfl
        | bad => rfl
        | ok o =>
          rw [e2] at h'
          cases o with
          | next ρ2 => exact go ρ2 h'
          | cont ρ2 => exact go ρ2 h'
          | brk ρ2 => rfl
          | ret t ρ2 => rfl
      · rw [if_neg hr, if_neg hr]
theorem mWhileN_le {mt : MT} {mb : MS} {n m : Nat} {ρ : Env} (h : mWhileN mt mb n ρ ≠ .bad) (l : n ≤ m) : mWhileN mt mb m ρ = mWhileN mt mb n ρ := by
  induction m with
  | zero => have : n = 0 := by omega
            subst this; rfl
  | succ m ih =>
    by_cases e : n = m + 1
    · rw [e]
    · have e1 := ih (by omega)
      rw [mWhileN_succ (by rw [e1]; exact h), e1]
section
variable {X : Cx} {E : Str → Hp → Prop} {io : List Nat} {pos : Pos}
theorem sim_while {K : PySem.W.Frag} {tc : TT} {mt : MT} {tb : TS} {mb : MS} (sc : SimT K E tc mt) (sb : SimS K E io tb mb) : SimS K E io (tWhile tc tb) (mWhile mt mb) := by
  intro c H tv td σ ρ hl st D q
  have q0 : ∃ n, Then (mWhileN mt mb n ρ) (OutTo K c tv td io σ D) (fun x => ∀ H', KeepC c H' → E x H') := by
    unfold mWhile at q
    split at q
    · exact ⟨_, q⟩
    · exact q.elim
  obtain ⟨n, q0⟩ := q0
  refine ⟨fun m σ' H' => SameIo io σ σ' ∧ ∃ ρ', StR K c H' (tv ++ σ') (td ++ ρ') ∧ Then (mWhileN mt mb m ρ') (OutTo K c tv td io σ D) (fun x => ∀ H', KeepC c H' → E x H'), ⟨n, .refl, ρ, st, q0⟩, ?_⟩
  rintro m σ1 H1 ⟨s1, ρ1, st1, q1⟩
  cases m with
  | zero => exact q1.elim
  | succ m =>
    have q1' := then_bind.mp q1
    refine sc c H1 tv td σ1 ρ1 hl st1 _ (q1'.imp ?_)
    rintro ⟨b, ρ2⟩ q2 H2 st2
    cases b with
    | false =>
      rw [if_neg (show ¬ (false = true) by decide)]
      exact q2 σ1 H2 s1 st2
    | true =>
      rw [if_pos rfl]
      refine ⟨fun σ' H' => SameIo io σ σ' ∧ ∃ ρ', StR K c H' (tv ++ σ') (td ++ ρ') ∧ Then (mWhileN mt mb m ρ') (OutTo K c tv td io σ D) (fun x => ∀ H', KeepC c H' → E x H'), fun σ' H' p => ⟨m, Nat.lt_succ_self m, p⟩, ?_⟩
      refine sb c H2 tv td σ1 ρ2 hl st2 _ ((then_bind.mp q2).imp fun o q3 => ?_)
      cases o with
      | next ρ3 => exact fun σ' H' s' st' => ⟨s1.trans s', ρ3, st', q3⟩
      | cont ρ3 => exact fun σ' H' s' st' => ⟨s1.trans s', ρ3, st', q3⟩
      | brk ρ3 => exact fun σ' H' s' st' => q3 σ' H' (s1.trans s') st'
      | ret t ρ3 => exact fun v σ' H' s' st' => q3 v σ' H' (s1.trans s') st'
theorem qs_while {c' : Expr} {body : List Stmt} {tc : TT} {mt : MT} {tb : TS} {mb : MS} (hp : PassesOwn (model X.prog X.w) X.A X.env X.xe) (hc : QT X E c' tc mt) (hb : QSs X E io body tb mb) : QS X E io (.While c' body [] pos) (tWhile tc tb) (mWhile mt mb) := ⟨ps_while hp hc.pt hb.ps, sim_while hc.sim hb.sim⟩
end
end L3
namespace L3
open PySem PySem.Spec PyProof.Rows L2
def wipeE (ρ : Env) : List Nat → Env
  | [] => ρ
  | v :: vs => (wipeE ρ vs).set v none
section
variable {K : PySem.W.Frag} {c : C0} {H : Hp}
theorem StR.gone {tv : List (Option V)} {td : Env} {σ : L2.St} {ρ : Env} {i : Nat} (hl : tv.length = td.length) (h : StR K c H (tv ++ σ) (td ++ ρ)) (o : Option V) : StR K c H (tv ++ σ.set i o) (td ++ ρ.set i none) := by
  obtain ⟨A, w⟩ := h
  have hlen := w.slots.len
  by_cases hi : i < σ.length
  · obtain ⟨B, hb, ar, _⟩ := w.slots.around (i := tv.length + i) (by rw [List.length_append]; omega)
    obtain ⟨C, s, z⟩ := ar.gone o
    rw [app_set rfl, app_set hl.symm] at s
    exact ⟨C, w.remake (fun a => by rw [z a]; exact hb a) s⟩
  · have hi2 : ¬ i < ρ.length := by
      rw [List.length_append, List.length_append] at hlen; omega
    rw [List.set_eq_of_length_le (by omega), List.set_eq_of_length_le (by omega)]
    exact ⟨A, w⟩
theorem StR.wiped {tv : List (Option V)} {td : Env} {σ : L2.St} {ρ : Env} (hl : tv.length = td.length) (h : StR K c H (tv ++ σ) (td ++ ρ)) : ∀ vs : List Nat, StR K c H (tv ++ wipe σ vs) (td ++ wipeE ρ vs)
  | [] => h
  | v :: vs => (StR.wiped hl h vs).gone hl none
theorem StR.any {tv : List (Option V)} {td : Env} {σ σ' : L2.St} {ρ : Env} (hl : tv.length = td.length) (h : StR K c H (tv ++ σ) (td ++ ρ)) {vs : List Nat} (hz : σ'.length = σ.length) (hs : ∀ (i : Nat), i ∉ vs → σ'[i]? = σ[i]?) (hn : ∀ (i : Nat), i ∈ vs → ∀ (t : T), ρ[i]? ≠ some (some t)) : StR K c H (tv ++ σ') (td ++ ρ) := by
  obtain ⟨A, w⟩ := h
  refine ⟨A, w.uniq, ?_, w.own, w.keep⟩
  have key : ∀ {σ σ' : L2.St} {ρ : Env} {F : Addr → Prop} {B : List Addr}, σ'.length = σ.length → (∀ (i : Nat) (t : T), ρ[i]? = some (some t) → σ'[i]? = σ[i]?) → Sl K F H σ ρ B → Sl K F H σ' ρ B := by
    intro σ
    induction σ with
    | nil =>
      intro σ' ρ F B hz _ s
      have : σ' = [] := List.eq_nil_of_length_eq_zero (by simpa using hz)
      subst this
      exact s
    | cons o σ ih =>
      intro σ' ρ F B hz hs s
      cases σ' with
      | nil => simp at hz
      | cons o' σ' =>
        cases s with
        | skip s => exact .skip (ih (by simpa using hz) (fun i t e => by simpa using hs (i + 1) t (by simpa using e)) s)
        | cons x s =>
          have := hs 0 _ rfl
          rename_i v0 t0 ρ0 A0 B0
          have e : o' = some v0 := by simpa using this
          subst e
          exact .cons x (ih (by simpa using hz) (fun i t e => by simpa using hs (i + 1) t (by simpa using e)) s)
  refine key (σ := tv ++ σ) (by simp [hz]) (fun i t e => ?_) w.slots
  by_cases hi : i < tv.length
  · rw [List.getElem?_append_left hi, List.getElem?_append_left hi]
  · obtain ⟨j, rfl⟩ : ∃ j, i = tv.length + j := ⟨i - tv.length, by omega⟩
    rw [app_at rfl, app_at rfl]
    rw [app_at hl.symm] at e
    exact hs j fun z => hn j z t e
theorem wipe_get {σ : L2.St} : ∀ {vs : List Nat} {i : Nat}, i ∉ vs → (wipe σ vs)[i]? = σ[i]?
  | [], _, _ => rfl
  | v :: vs, i, h => by
    show ((wipe σ vs).set v none)[i]? = _
    rw [List.getElem?_set_ne (fun e => h (by rw [e]; exact List.mem_cons_self)), wipe_get fun z => h (List.mem_cons_of_mem _ z)]
theorem wipeE_none {ρ : Env} : ∀ {vs : List Nat} {i : Nat}, i ∈ vs → ∀ t, (wipeE ρ vs)[i]? ≠ some (some t)
  | [], _, h, _ => by simp at h
  | v :: vs, i, h, t => by
    intro e
    have e : ((wipeE ρ vs).set v none)[i]? = some (some t) := e
    by_cases hv : v = i
    · subst hv
      by_cases hl : v < (wipeE ρ vs).length
      · rw [List.getElem?_set_self hl] at e; cases e
      · rw [List.getElem?_eq_none (by simpa using hl)] at e; cases e
    · rw [List.getElem?_set_ne hv] at e
      rcases List.mem_cons.mp h with z | z
      · exact hv z.symm
      · exact wipeE_none z t e
theorem wipe_eq {σ σ' : L2.St} (hl : σ'.length = σ.length) : ∀ {vs : List Nat}, (∀ i, i ∉ vs → σ'[i]? = σ[i]?) → wipe σ' vs = wipe σ vs := by
  intro vs h
  apply List.ext_getElem?
  intro i
  by_cases hi : i ∈ vs
  · have hn : ∀ (τ : L2.St), (wipe τ vs)[i]? = if i < τ.length then some none else none := by
      intro τ
      clear h
      induction vs with
      | nil => simp at hi
      | cons v vs ih =>
        show ((wipe τ vs).set v none)[i]? = _
        by_cases hv : v = i
        · subst hv
          by_cases hz : v < τ.length
          · rw [List.getElem?_set_self (by rw [wipe_length]; exact hz), if_pos hz]
          · rw [List.getElem?_eq_none (by rw [List.length_set, wipe_length]; omega), if_neg hz]
        · rw [List.getElem?_set_ne hv]
          exact ih ((List.mem_cons.mp hi).resolve_left fun e => hv e.symm)
    rw [hn, hn, hl]
  · rw [wipe_get hi, wipe_get hi, h i hi]
end
abbrev notOwn (vs : List Nat) : Nat → Bool := fun i => !vs.contains i
def mtYes : MT := fun ρ => .ok (true, ρ)
def mLcLoop (g : MG) (mt : MT) (me : MEx) (vs : List Nat) : List T → List T → Env → R (List T × Env)
  | [], acc, ρ => .ok (acc, ρ)
  | x :: xs, acc, ρ => (ofO (g x (wipeE ρ vs))).bind fun ρ1 => (mt ρ1).bind fun r => if r.1 = true then guard (decide (acc.length < sLine)) ((me r.2).bind fun y => mLcLoop g mt me vs xs (acc ++ [y.1]) y.2) else mLcLoop g mt me vs xs acc r.2
def mLc (mi : MI) (g : MG) (mt : MT) (me : MEx) (vs : List Nat) : MEx := fun ρ => (mi ρ).bind fun r => (mLcLoop g mt me vs r.1 [] r.2).bind fun z => .ok (.ol z.1, wipeE z.2 vs)
theorem RpAll.snoc {K : PySem.W.Frag} {F : Addr → Prop} {H : Hp} : ∀ {vs : List V} {ts : List T} {A B : List Addr} {v : V} {t : T}, RpAll K F H vs ts A → Rp K F H v t B → ∃ C, RpAll K F H (vs ++ [v]) (ts ++ [t]) C ∧ ∀ a, C.count a = A.count a + B.count a
  | _, _, _, B, _, _, .nil, x => ⟨B ++ [], .cons x .nil, fun a => by simp⟩
  | _, _, _, _, _, _, .cons (A := A1) y r, x => by
    obtain ⟨C, r', z⟩ := r.snoc x
    exact ⟨A1 ++ C, .cons y r', fun a => by rw [List.count_append, List.count_append, z a]; omega⟩
theorem StR.grown {K : PySem.W.Frag} {c : C0} {H : Hp} {L : Addr} {ts : List T} {v : V} {t : T} {sl : List (Option V)} {ρ : Env} (h : StR K c H (some v :: some (.ref L) :: sl) (some t :: some (.ol ts) :: ρ)) :
    ∃ acc, H L = some (.lst acc) ∧ acc.length = ts.length ∧ StR K c (upd H L (.lst (acc ++ [v]))) (some (.ref L) :: sl) (some (.ol (ts ++ [t])) :: ρ) := by
  obtain ⟨A, w⟩ := h
  obtain ⟨A1, B1, eA, x, s⟩ := w.top
  cases s with
  | cons y s =>
    rename_i A2 B2
    cases y with
    | @ol _ acc _ A3 hL r =>
      refine ⟨acc, hL, r.len, ?_⟩
      -- every footprint but L itself is as it was
      have cnt : ∀ a, A.count a = A1.count a + ((L :: A3).count a + B2.count a) := fun a => by rw [eA, List.count_append, List.count_append]
      have hLA : L ∈ A := by rw [eA]; simp
      have nL : ∀ C : List Addr, (∀ a, C.count a + (if L = a then 1 else 0) ≤ A.count a) → ∀ a ∈ C, a ≠ L := fun C hC a ha e => by
        subst e
        have h1 := hC a
        have h2 := w.uniq a
        have h3 := List.count_pos_iff.mpr ha
        rw [if_pos rfl] at h1
        omega
      have cc : ∀ a, (L :: A3).count a = A3.count a + (if L = a then 1 else 0) := fun a => by
        rw [List.count_cons]
        by_cases e : L = a
        · simp [e]
        · simp [e]
      have n1 := nL A1 fun a => by have := cnt a; rw [cc a] at this; omega
      have n3 := nL A3 fun a => by have := cnt a; rw [cc a] at this; omega
      have n2 := nL B2 fun a => by have := cnt a; rw [cc a] at this; omega
      have mo : Mono (Fok c A) (Fok c A) H (upd H L (.lst (acc ++ [v]))) := ⟨fun a vs e f => ⟨by rw [upd_ne (fun z => f.2 (by rw [z]; exact hLA))]; exact e, f⟩, fun a u e st => by
        rw [upd_ne (fun z => by rw [z, hL] at e; cases e; exact st)]
        exact e⟩
      have eqs : ∀ {C : List Addr}, (∀ a ∈ C, a ≠ L) → ∀ a ∈ C, (upd H L (.lst (acc ++ [v]))) a = H a := fun h a ha => upd_ne (h a ha)
      obtain ⟨C, r', z⟩ := (r.mono mo (eqs n3)).snoc (x.mono mo (eqs n1))
      have tot : ∀ a, ((L :: C) ++ B2).count a = A.count a := fun a => by
        rw [List.count_append, cnt a, cc a, List.count_cons]
        have := z a
        by_cases e : L = a
        · simp [e]; omega
        · simp [e]; omega
      refine ⟨(L :: C) ++ B2, fun a => by rw [tot a]; exact w.uniq a, ?_, fun a ha => w.own a (List.count_pos_iff.mp (by rw [← tot a]; exact List.count_pos_iff.mpr ha)), ⟨fun a o e n => ?_, fun a e => ?_⟩⟩
      · have m2 : Mono (Fok c A) (Fok c ((L :: C) ++ B2)) (upd H L (.lst (acc ++ [v]))) (upd H L (.lst (acc ++ [v]))) := .sub fun a _ => Fok.sub (fun a => Nat.le_of_eq (tot a)) a
        exact (Sl.cons (Rp.ol upd_same r') (s.mono mo (eqs n2))).mono m2 fun _ _ => rfl
      · rw [upd_ne]
        · exact w.keep.keep a o e n
        · intro z
          subst z
          rcases w.own a hLA with y | y
          · exact n y
          · rw [e] at y; cases y
      · by_cases z : a = L
        · subst z
          rw [upd_same] at e; cases e
        · rw [upd_ne z] at e
          exact w.keep.there a e
section
variable {X : Cx} {E : Str → Hp → Prop} {pos : Pos}
theorem sim_lc {K : PySem.W.Frag} {wi : TI} {mi : MI} {g : TG} {mg : MG} {tt : TT} {mt : MT} {te : TE} {me : MEx} {vs : List Nat} {g1 : Bool} (si : SimI K E wi mi) (sg : SimG K (notOwn vs) g mg) (st' : SimT K E tt mt) (se : SimE K E g1 te me) : SimE K E false (tLc wi g tt te vs) (mLc mi mg mt me vs) := by
  intro c H tv td σ ρ hl st Q q
  unfold mLc at q
  rw [then_bind] at q
  refine si c H tv td σ ρ hl st _ (q.imp ?_)
  rintro ⟨items, ρ0⟩ q0 J H0 xv xt S st0
  intro L hL
  have q1 := then_bind.mp q0
  -- the state while it runs: the new list on top, then the source
  let Pv : Nat → Hp → Prop := fun i H' => ∃ acc ρ', StR K c H' (some (.ref L) :: (xv ++ (tv ++ wipe σ vs))) (some (.ol acc) :: (xt ++ (td ++ wipeE ρ' vs))) ∧
    Then (mLcLoop mg mt me vs (items.drop i) acc ρ') (fun z => ∀ v H', (false = true → Same H H') → StR K c H' (some v :: (tv ++ σ)) (some (.ol z.1) :: (td ++ wipeE z.2 vs)) → Q v H') (fun x => ∀ H', KeepC c H' → E x H')
  refine ⟨fun i m H' => m = items.length - i ∧ i ≤ items.length ∧ Pv i H', ⟨items.length, by simp, Nat.zero_le _, [], ρ0, ?_, ?_⟩, ?_⟩
  · have s2 : StR K c H0 ((xv ++ tv) ++ wipe σ vs) ((xt ++ td) ++ wipeE ρ0 vs) := StR.wiped (by simp [S.len, hl]) (by simpa [List.append_assoc] using st0) vs
    obtain ⟨A, w⟩ := s2
    have sm := same_upd (o := .lst []) hL
    have m0 : Mono (Fok c A) (Fok c (L :: A)) H0 H0 := Fok.fresh hL
    have sl2 := (w.slots.mono m0 fun _ _ => rfl).mono (.same sm) fun a ha => upd_ne (fun z => w.not_mem_of_none hL (by rw [← z]; exact ha))
    have := Sl.cons (Rp.ol (K := K) (F := Fok c (L :: A)) (H := upd H0 L (.lst [])) (a := L) upd_same .nil) sl2
    refine ⟨L :: A, fun a => ?_, by simpa [List.append_assoc] using this, fun a ha => ?_, w.keep.grow sm⟩
    · rw [List.count_cons]
      have h2 := w.uniq a
      by_cases e : L = a
      · subst e
        have : A.count L = 0 := List.count_eq_zero.mpr (w.not_mem_of_none hL)
        simp [this]
      · have e' : (L == a) = false := by simpa using e
        simp [e']; omega
    · rcases List.mem_cons.mp ha with z | z
      · subst z
        exact .inr (w.keep.there _ hL)
      · exact w.own a z
  · exact q1
  · rintro i m H1 ⟨rfl, hi, acc, ρ1, st1, q1⟩
    by_cases hlt : i < items.length
    · refine .inr ⟨S.goes c H1 _ _ i hlt st1.drop, Pv (i + 1), fun H' p => ⟨items.length - (i + 1), by omega, rfl, hlt, p⟩, fun x H' y => ?_⟩
      have eI : items[i]? = some items[i] := List.getElem?_eq_getElem hlt
      rw [List.drop_eq_getElem_cons hlt] at q1
      -- the source below the new list
      have st1r : StR K c H1 (xv ++ (some (.ref L) :: (tv ++ wipe σ vs))) (xt ++ (some (.ol acc) :: (td ++ wipeE ρ1 vs))) := by
        obtain ⟨A, w⟩ := st1
        obtain ⟨C, s, z⟩ := Sl.sink S.len w.slots
        exact ⟨C, w.remake (fun a => Nat.le_of_eq (z a)) s⟩
      obtain ⟨sm, st2⟩ := S.yields c H1 _ _ i x H' _ eI st1r y
      obtain ⟨ρ2, e2, q2⟩ := then_ofO.mp (then_bind.mp q1)
      refine sg c H' (xv ++ (some (.ref L) :: tv)) (xt ++ (some (.ol acc) :: td)) (wipe σ vs) _ ρ2 x items[i] (by simp [S.len, hl]) (by simpa [List.append_assoc] using st2) e2 _ fun σ2 H2 s2 st3 => ?_
      have ew : wipe σ2 vs = wipe σ vs := by
        have h1 : wipe σ2 vs = wipe (wipe σ vs) vs := wipe_eq s2.len fun i hi => s2.same i (by show (!vs.contains i) = true; simp [hi])
        have h2 : wipe (wipe σ vs) vs = wipe σ vs := wipe_eq (wipe_length σ vs) fun i hi => wipe_get hi
        rw [h1, h2]
      refine ⟨ew, ?_⟩
      refine st' c H2 (xv ++ (some (.ref L) :: tv)) (xt ++ (some (.ol acc) :: td)) σ2 ρ2 (by simp [S.len, hl]) st3 _ ((then_bind.mp q2).imp ?_)
      rintro ⟨b, ρ3⟩ q3 H3 st4
      -- back: the new list on top, slots wiped
      have back : ∀ {H'' : Hp} {ρ'' : Env} {acc' : List T}, StR K c H'' (xv ++ (some (.ref L) :: (tv ++ σ2))) (xt ++ (some (.ol acc') :: (td ++ ρ''))) → StR K c H'' (some (.ref L) :: (xv ++ (tv ++ wipe σ vs))) (some (.ol acc') :: (xt ++ (td ++ wipeE ρ'' vs))) := by
        intro H'' ρ'' acc' h
        have h2 := StR.raiseO S.len h
        have h3 := StR.wiped (tv := some (.ref L) :: (xv ++ tv)) (td := some (.ol acc') :: (xt ++ td)) (by simp [S.len, hl]) (by simpa [List.append_assoc] using h2) vs
        rw [ew] at h3
        simpa [List.append_assoc] using h3
      cases b with
      | false =>
        rw [if_neg (show ¬ (false = true) by decide)]
        exact ⟨acc, ρ3, back (by simpa [List.append_assoc] using st4), q3⟩
      | true =>
        rw [if_pos rfl]
        obtain ⟨gd, q4⟩ := then_guard.mp q3
        refine se c H3 (xv ++ (some (.ref L) :: tv)) (xt ++ (some (.ol acc) :: td)) σ2 ρ3 (by simp [S.len, hl]) st4 _ ((then_bind.mp q4).imp ?_)
        rintro ⟨t, ρ4⟩ q5 v H4 _ st5
        have st6 : StR K c H4 (some (.ref L) :: (some v :: (xv ++ (tv ++ σ2)))) (some (.ol acc) :: (some t :: (xt ++ (td ++ ρ4)))) := StR.raiseO (xs := some v :: xv) (as := some t :: xt) (by simp [S.len]) (by simpa [List.append_assoc] using st5)
        have st7 : StR K c H4 (some v :: (some (.ref L) :: (xv ++ (tv ++ σ2)))) (some t :: (some (.ol acc) :: (xt ++ (td ++ ρ4)))) := StR.raiseO (xs := [some (.ref L)]) (as := [some (.ol acc)]) rfl st6
        obtain ⟨vacc, hv, hlen, st8⟩ := st7.grown
        refine ⟨vacc, hv, by rw [hlen, ← sLine_eq]; exact of_decide_eq_true gd, acc ++ [t], ρ4, ?_, q5⟩
        have h3 := StR.wiped (tv := some (.ref L) :: (xv ++ tv)) (td := some (.ol (acc ++ [t])) :: (xt ++ td)) (by simp [S.len, hl]) (by simpa [List.append_assoc] using st8) vs
        rw [ew] at h3
        simpa [List.append_assoc] using h3
    · have e : i = items.length := by omega
      subst e
      rw [List.drop_length] at q1
      refine .inl ⟨S.stops c H1 _ _ st1.drop, q1 _ H1 (fun z => by cases z) ?_⟩
      have h2 := StR.dropN1 S.len st1
      exact StR.any (tv := some (.ref L) :: tv) (td := some (.ol acc) :: td) (vs := vs) (by simp [hl]) h2 (wipe_length σ vs).symm (fun i hi => (wipe_get hi).symm) fun i hi t => wipeE_none hi t
where
  Sl.sink {K : PySem.W.Frag} {F : Addr → Prop} {H : Hp} {xs : List (Option V)} {as : Env} {ys : List (Option V)} {bs : Env} {v : Option V} {t : Option T} {A : List Addr} (hl : xs.length = as.length) (h : Sl K F H (v :: (xs ++ ys)) (t :: (as ++ bs)) A) : ∃ C, Sl K F H (xs ++ v :: ys) (as ++ t :: bs) C ∧ ∀ a, C.count a = A.count a := by
    induction xs generalizing as A with
    | nil =>
      cases as with
      | nil => exact ⟨A, h, fun _ => rfl⟩
      | cons _ _ => simp at hl
    | cons o xs ih =>
      cases as with
      | nil => simp at hl
      | cons a as =>
        have hl' : xs.length = as.length := by simpa using hl
        cases h with
        | skip s =>
          cases s with
          | skip s =>
            obtain ⟨C, s', z⟩ := ih hl' (.skip s)
            exact ⟨C, .skip s', z⟩
          | cons x s =>
            rename_i A1 B1
            obtain ⟨C, s', z⟩ := ih hl' (.skip s)
            exact ⟨_, .cons x s', fun a => by rw [List.count_append, List.count_append, z a]⟩
        | cons y s =>
          rename_i A0 B0
          cases s with
          | skip s =>
            obtain ⟨C, s', z⟩ := ih hl' (.cons y s)
            exact ⟨C, .skip s', z⟩
          | cons x s =>
            rename_i A1 B1
            obtain ⟨C, s', z⟩ := ih hl' (.cons y s)
            exact ⟨_, .cons x s', fun a => by have := z a; simp only [List.count_append] at this ⊢; omega⟩
end
end L3
namespace L3
open PySem PySem.Spec PyProof.Rows L2
def T.at? : List Int → T → Option T
  | [], t => some t
  | j :: js, .ol ts => (atI ts j).bind (T.at? js)
  | j :: js, .ot ts => (atI ts j).bind (T.at? js)
  | _ :: _, _ => none
def T.put? : List Int → T → T → Option T
  | [], n, _ => some n
  | j :: js, n, .ol ts => (ixN ts.length j).bind fun k => (ts[k]?).bind fun t => (T.put? js n t).map fun t' => .ol (ts.set k t')
  | j :: js, n, .ot ts => (ixN ts.length j).bind fun k => (ts[k]?).bind fun t => (T.put? js n t).map fun t' => .ot (ts.set k t')
  | _ :: _, _, _ => none
inductive Loc (H : Hp) : V → List Int → V → Prop
  | here (v : V) : Loc H v [] v
  | lst {a : Addr} {vs : List V} {j : Int} {js : List Int} {v u : V} : H a = some (.lst vs) → atI vs j = some v → Loc H v js u → Loc H (.ref a) (j :: js) u
  | tup {a : Addr} {vs : List V} {j : Int} {js : List Int} {v u : V} : H a = some (.tup vs) → atI vs j = some v → Loc H v js u → Loc H (.ref a) (j :: js) u
theorem Loc.uniq {H : Hp} : ∀ {v : V} {p : List Int} {u u' : V}, Loc H v p u → Loc H v p u' → u = u'
  | _, _, _, _, .here _, .here _ => rfl
  | _, _, _, _, .lst h1 h2 h3, .lst g1 g2 g3 => by
    rw [h1] at g1; cases g1
    rw [h2] at g2; cases g2
    exact h3.uniq g3
  | _, _, _, _, .tup h1 h2 h3, .tup g1 g2 g3 => by
    rw [h1] at g1; cases g1
    rw [h2] at g2; cases g2
    exact h3.uniq g3
  | _, _, _, _, .lst h1 _ _, .tup g1 _ _ => by rw [h1] at g1; cases g1
  | _, _, _, _, .tup h1 _ _, .lst g1 _ _ => by rw [h1] at g1; cases g1
theorem Loc.grow {H H' : Hp} (s : Same H H') : ∀ {v : V} {p : List Int} {u : V}, Loc H v p u → Loc H' v p u
  | _, _, _, .here v => .here v
  | _, _, _, .lst h1 h2 h3 => .lst (s _ _ h1) h2 (h3.grow s)
  | _, _, _, .tup h1 h2 h3 => .tup (s _ _ h1) h2 (h3.grow s)
theorem Loc.snoc {H : Hp} : ∀ {v : V} {p : List Int} {u w : V} {j : Int}, Loc H v p u → Loc H u [j] w → Loc H v (p ++ [j]) w
  | _, _, _, _, _, .here v, k => k
  | _, _, _, _, _, .lst h1 h2 h3, k => .lst h1 h2 (h3.snoc k)
  | _, _, _, _, _, .tup h1 h2 h3, k => .tup h1 h2 (h3.snoc k)
theorem at_snoc {j : Int} : ∀ {p : List Int} {t0 t : T}, T.at? (p ++ [j]) t0 = some t → ∃ t1, T.at? p t0 = some t1 ∧ T.at? [j] t1 = some t
  | [], t0, t, h => ⟨t0, rfl, h⟩
  | i :: p, .ol ts, t, h => by
    obtain ⟨t2, e1, e2⟩ := Option.bind_eq_some_iff.mp (show (atI ts i).bind (T.at? (p ++ [j])) = some t from h)
    obtain ⟨t1, e3, e4⟩ := at_snoc e2
    exact ⟨t1, by show (atI ts i).bind _ = _; rw [e1]; exact e3, e4⟩
  | i :: p, .ot ts, t, h => by
    obtain ⟨t2, e1, e2⟩ := Option.bind_eq_some_iff.mp (show (atI ts i).bind (T.at? (p ++ [j])) = some t from h)
    obtain ⟨t1, e3, e4⟩ := at_snoc e2
    exact ⟨t1, by show (atI ts i).bind _ = _; rw [e1]; exact e3, e4⟩
  | _ :: _, .d _, _, h => by cases h
  | _ :: _, .od _ _, _, h => by cases h
  | _ :: _, .fd _ _ _, _, h => by cases h
  | _ :: _, .fk _ _ _, _, h => by cases h
  | _ :: _, .dt _ _ _, _, h => by cases h
  | _ :: _, .no _, _, h => by cases h
  | _ :: _, .hl, _, h => by cases h
  | _ :: _, .ex _, _, h => by cases h
  | _ :: _, .ob _ _ _, _, h => by cases h
  | _ :: _, .rd _, _, h => by cases h
section
variable {K : PySem.W.Frag} {F F' : Addr → Prop} {H H' : Hp}
structure Put1 (K : PySem.W.Frag) (F : Addr → Prop) (H : Hp) (k : Nat) (vs : List V) (ts : List T) (B : List Addr) : Prop where
  put : ∀ {F' : Addr → Prop} {H' : Hp}, Mono F F' H H' → (∀ a ∈ B, H' a = H a) → ∀ {v' : V} {t' : T} {A2 : List Addr}, Rp K F' H' v' t' A2 → ∃ C, RpAll K F' H' (vs.set k v') (ts.set k t') C ∧ ∀ a, C.count a = A2.count a + B.count a
theorem RpAll.around : ∀ {vs : List V} {ts : List T} {A : List Addr}, RpAll K F H vs ts A → ∀ {k : Nat} {t : T}, ts[k]? = some t → ∃ (v : V) (A1 B : List Addr), vs[k]? = some v ∧ Rp K F H v t A1 ∧ (∀ a, A.count a = A1.count a + B.count a) ∧ Put1 K F H k vs ts B
  | _, _, _, .nil, k, t, h => by simp at h
  | _, _, _, .cons (v := v) (A := A1) (B := B1) x r, 0, t, h => by
    simp at h; subst h
    exact ⟨v, A1, B1, rfl, x, fun a => by rw [List.count_append], ⟨fun m k v' t' A2 y => ⟨A2 ++ B1, .cons y (r.mono m k), fun a => by rw [List.count_append]⟩⟩⟩
  | _, _, _, .cons (A := A0) (B := B0) x r, k + 1, t, h => by
    obtain ⟨v, A1, B, e, y, hc, p⟩ := r.around (k := k) (t := t) (by simpa using h)
    refine ⟨v, A1, A0 ++ B, by simpa using e, y, fun a => by rw [List.count_append, List.count_append, hc a]; omega, ⟨fun m kk v' t' A2 z => ?_⟩⟩
    obtain ⟨C, s, w⟩ := p.put m (fun a ha => kk a (List.mem_append_right _ ha)) z
    exact ⟨A0 ++ C, .cons (x.mono m fun a ha => kk a (List.mem_append_left _ ha)) s, fun a => by rw [List.count_append, List.count_append, w a]; omega⟩
theorem atI_ix {α : Type} {xs : List α} {j : Int} {x : α} (h : atI xs j = some x) : ∃ k, ixN xs.length j = some k ∧ xs[k]? = some x := by
  obtain ⟨k, e1, e2⟩ := Option.bind_eq_some_iff.mp (show (ixN xs.length j).bind (fun k => xs[k]?) = some x from h)
  exact ⟨k, e1, e2⟩
theorem Rp.loc : ∀ {p : List Int} {v0 : V} {t0 t : T} {A0 : List Addr}, Rp K F H v0 t0 A0 → T.at? p t0 = some t → ∃ (v : V) (A1 B : List Addr), Loc H v0 p v ∧ Rp K F H v t A1 ∧ (∀ a, A0.count a = A1.count a + B.count a) ∧
    ∀ {F' : Addr → Prop} {H' : Hp}, Mono F F' H H' → (∀ a ∈ B, H' a = H a) → ∀ {t' : T} {A2 : List Addr}, Rp K F' H' v t' A2 → ∃ t0' C, T.put? p t' t0 = some t0' ∧ Rp K F' H' v0 t0' C ∧ ∀ a, C.count a = A2.count a + B.count a
  | [], v0, t0, t, A0, h, e => by
    cases e
    exact ⟨v0, A0, [], .here v0, h, fun a => by simp, fun m k t' A2 x => ⟨t', A2, rfl, x, fun a => by simp⟩⟩
  | j :: js, _, .ol ts, t, _, .ol (a := a0) (vs := vs) (A := A1) h r, e => by
    obtain ⟨t1, e1, e2⟩ := Option.bind_eq_some_iff.mp (show (atI ts j).bind (T.at? js) = some t from e)
    obtain ⟨k, ek, ev⟩ := atI_ix e1
    obtain ⟨v1, A2, B2, g1, g2, g3, g4⟩ := r.around ev
    obtain ⟨v, A3, B3, l, x, hc, pt⟩ := Rp.loc g2 e2
    have lv : atI vs j = some v1 := by
      show (ixN vs.length j).bind (fun k => vs[k]?) = _
      rw [r.len, ek]; exact g1
    refine ⟨v, A3, a0 :: (B3 ++ B2), .lst h lv l, x, fun a => by rw [List.count_cons, List.count_cons, List.count_append, g3 a, hc a]; omega, fun {F' H'} m kk t' A4 y => ?_⟩
    have k2 : ∀ a ∈ B2, H' a = H a := fun a ha => kk a (List.mem_cons_of_mem _ (List.mem_append_right _ ha))
    have k3 : ∀ a ∈ B3, H' a = H a := fun a ha => kk a (List.mem_cons_of_mem _ (List.mem_append_left _ ha))
    obtain ⟨t1', C, q1, q2, q3⟩ := pt m k3 y
    obtain ⟨C2, s, q4⟩ := g4.put m k2 q2
    have es : vs.set k v1 = vs := set_self g1
    rw [es] at s
    refine ⟨.ol (ts.set k t1'), a0 :: C2, ?_, .ol ((kk a0 List.mem_cons_self).trans h) s, fun a => by rw [List.count_cons, List.count_cons, List.count_append, q4 a, q3 a]; omega⟩
    show (ixN ts.length j).bind _ = _
    rw [ek]
    show (ts[k]?).bind _ = _
    rw [ev]
    show (T.put? js t' t1).map _ = _
    rw [q1]
    rfl
  | j :: js, _, .ot ts, t, _, .ot (a := a0) (vs := vs) (A := A1) h r, e => by
    obtain ⟨t1, e1, e2⟩ := Option.bind_eq_some_iff.mp (show (atI ts j).bind (T.at? js) = some t from e)
    obtain ⟨k, ek, ev⟩ := atI_ix e1
    obtain ⟨v1, A2, B2, g1, g2, g3, g4⟩ := r.around ev
    obtain ⟨v, A3, B3, l, x, hc, pt⟩ := Rp.loc g2 e2
    have lv : atI vs j = some v1 := by
      show (ixN vs.length j).bind (fun k => vs[k]?) = _
      rw [r.len, ek]; exact g1
    refine ⟨v, A3, B3 ++ B2, .tup h lv l, x, fun a => by rw [List.count_append, g3 a, hc a]; omega, fun {F' H'} m kk t' A4 y => ?_⟩
    have k2 : ∀ a ∈ B2, H' a = H a := fun a ha => kk a (List.mem_append_right _ ha)
    have k3 : ∀ a ∈ B3, H' a = H a := fun a ha => kk a (List.mem_append_left _ ha)
    obtain ⟨t1', C, q1, q2, q3⟩ := pt m k3 y
    obtain ⟨C2, s, q4⟩ := g4.put m k2 q2
    have es : vs.set k v1 = vs := set_self g1
    rw [es] at s
    refine ⟨.ot (ts.set k t1'), C2, ?_, .ot (m.still _ _ h trivial) s, fun a => by rw [q4 a, q3 a, List.count_append]; omega⟩
    show (ixN ts.length j).bind _ = _
    rw [ek]
    show (ts[k]?).bind _ = _
    rw [ev]
    show (T.put? js t' t1).map _ = _
    rw [q1]
    rfl
  | _ :: _, _, .d _, _, _, _, e => by cases e
  | _ :: _, _, .od _ _, _, _, _, e => by cases e
  | _ :: _, _, .fd _ _ _, _, _, _, e => by cases e
  | _ :: _, _, .fk _ _ _, _, _, _, e => by cases e
  | _ :: _, _, .dt _ _ _, _, _, _, e => by cases e
  | _ :: _, _, .no _, _, _, _, e => by cases e
  | _ :: _, _, .hl, _, _, _, e => by cases e
  | _ :: _, _, .ex _, _, _, _, e => by cases e
  | _ :: _, _, .ob _ _ _, _, _, _, e => by cases e
  | _ :: _, _, .rd _, _, _, _, e => by cases e
end
def T.int? : T → Option Int
  | .d (.int j) => some j
  | _ => none
theorem int?_eq {t : T} {j : Int} (h : t.int? = some j) : t = .d (.int j) := by
  unfold T.int? at h
  split at h
  · cases h; rfl
  · cases h
abbrev ML := Env → Option (List Int)
def SimL (K : PySem.W.Frag) (i : Nat) (te : TE) (mp : ML) : Prop :=
  ∀ (c : C0) (H : Hp) (tv : List (Option V)) (td : Env) (σ : L2.St) (ρ : Env) (A : List Addr) (p : List Int) (t0 t : T), tv.length = td.length → StW K c H (tv ++ σ) (td ++ ρ) A → mp ρ = some p → ρ[i]? = some (some t0) → T.at? p t0 = some t → ∀ Q : VK,
    (∀ v0 v, σ[i]? = some (some v0) → Loc H v0 p v → Q v H) → te σ H Q
structure QL (X : Cx) (i : Nat) (e : Expr) (te : TE) (mp : ML) : Prop where
  pe : PE X e te
  sim : SimL X.K i te mp
def lHere : ML := fun _ => some []
def lIx (mp : ML) (mi : MP) : ML := fun ρ => (mp ρ).bind fun p => ((mi ρ).bind T.int?).bind fun j => some (p ++ [j])
section
variable {X : Cx} {E : Str → Hp → Prop} {a b : Expr} {ta tb : TE} {pos : Pos}
theorem ql_name (i : Nat) {x : Str} {pos : Pos} (hN : X.N[i]? = some x := by rfl) (hv : Vis X.env.scope x := by first | exact Or.inl rfl | exact Or.inr (Or.inl rfl) | exact Or.inr (Or.inr rfl)) (hd : (x == ("__debug__" : Str)) = false := by decide)
    (hcd : (x == ("__classdict__" : Str)) = false := by decide) : QL X i (.Name x pos) (tVar i) lHere := ⟨pe_var hN hv hd hcd, fun c H tv td σ ρ A p t0 t hl w e1 e2 e3 Q q => by
  cases e1
  obtain ⟨v, A1, e4, _, _⟩ := w.see hl e2
  exact ⟨v, e4, q v v e4 (.here v)⟩⟩
theorem ql_ix {i : Nat} {mp : ML} {mi : MP} (ha : QL X i a ta mp) (hb : QP X b tb mi) (hs : PlainIx b := by exact fun _ _ => rfl) : QL X i (.Subscript a b pos) (tOp (rIx X.K) ta tb) (lIx mp mi) := by
  refine ⟨pe_ix ix_seq ha.pe hb.pe hs, fun c H tv td σ ρ A p t0 t hl w e1 e2 e3 Q q => ?_⟩
  unfold lIx at e1
  obtain ⟨p0, e4, e5⟩ := Option.bind_eq_some_iff.mp e1
  obtain ⟨j, e6', e7⟩ := Option.bind_eq_some_iff.mp e5
  obtain ⟨tj, e6, e60⟩ := Option.bind_eq_some_iff.mp e6'
  · cases e7
    cases int?_eq e60
    obtain ⟨t1, e8, e9⟩ := at_snoc e3
    obtain ⟨v0, A0, ev0, r0, _⟩ := w.see hl e2
    refine ha.sim c H tv td σ ρ A p0 t0 t1 hl w e4 e2 e8 _ fun v0' v1 ev0' l1 => ?_
    rw [ev0] at ev0'; cases ev0'
    obtain ⟨v1', A1, B1, l1', r1, _, _⟩ := r0.loc e8
    have := l1.uniq l1'
    subst this
    obtain ⟨v2, A2, B2, l2, _, _, _⟩ := r1.loc e9
    refine hb.sim c H tv td σ ρ A _ hl w e6 _ fun u A3 r3 _ => ?_
    have eu := r3.i
    cases l2 with
    | lst h1 h2 h3 =>
      cases h3
      exact .inl ⟨_, _, j, v2, rfl, eu, .of h1, h2, q v0 v2 ev0 (l1.snoc (.lst h1 h2 (.here _)))⟩
    | tup h1 h2 h3 =>
      cases h3
      exact .inr (.inl ⟨_, _, j, v2, rfl, eu, .of h1, h2, q v0 v2 ev0 (l1.snoc (.tup h1 h2 (.here _)))⟩)
end
def UpdV (K : PySem.W.Frag) (rM : V → List V → Hp → VK → Prop) (op : List T → List T → Option (T × List T)) : Prop :=
  ∀ (F : Addr → Prop) (H : Hp) (a : Addr) (vs ys : List V) (ts us : List T) (A1 A2 : List Addr) (r : T × List T), H a = some (.lst vs) → RpAll K F H vs ts A1 → RpAll K F H ys us A2 → op ts us = some r → ∀ Q : VK,
    (∀ res vs' C1 C2, Rp K F H res r.1 C1 → RpAll K F H vs' r.2 C2 → (∀ b, C1.count b + C2.count b ≤ A1.count b + A2.count b) → Q res (upd H a (.lst vs'))) → rM (.ref a) ys H Q
def lstAt (p : List Int) (o : Option (Option T)) : Option (List T) := match o with
  | some (some t) => (match T.at? p t with | some (.ol ts) => some ts | _ => none)
  | _ => none
def putAt (i : Nat) (p : List Int) (ts : List T) (ρ : Env) : Option Env := match ρ[i]? with
  | some (some t) => (T.put? p (.ol ts) t).map fun t' => ρ.set i (some t')
  | _ => none
def mMeth (i : Nat) (mp : ML) (op : List T → List T → Option (T × List T)) (ma : MA) : MEx := fun ρ => (ofO (mp ρ)).bind fun p => (ofO (lstAt p ρ[i]?)).bind fun _ => (ma ρ).bind fun r => (ofO (lstAt p r.2[i]?)).bind fun ts => (ofO (op ts r.1)).bind fun z => (ofO (putAt i p z.2 r.2)).bind fun ρ' => .ok (z.1, ρ')
theorem lstAt_some {p : List Int} {o : Option (Option T)} {ts : List T} (h : lstAt p o = some ts) : ∃ t, o = some (some t) ∧ T.at? p t = some (.ol ts) := by
  unfold lstAt at h
  split at h
  · rename_i t
    split at h
    · rename_i e
      cases h
      exact ⟨t, rfl, e⟩
    · cases h
  · cases h
theorem StW.write {K : PySem.W.Frag} {c : C0} {H : Hp} {tv : List (Option V)} {td : Env} {σ : L2.St} {ρ : Env} {A Aa B : List Addr} (hl : tv.length = td.length) (u : ∀ a, A.count a ≤ 1) (ow : ∀ a ∈ A, a ∈ c.A0 ∨ c.H0 a = none) (k : KeepC c H) (hc : ∀ a, Aa.count a + B.count a ≤ A.count a)
    (s : Sl K (Fok c A) H (tv ++ σ) (td ++ ρ) B) {i : Nat} {p : List Int} {t0 : T} {ts : List T} (e0 : ρ[i]? = some (some t0)) (e1 : T.at? p t0 = some (.ol ts)) :
    ∃ (v0 : V) (a : Addr) (vs : List V) (A1 : List Addr), σ[i]? = some (some v0) ∧ Loc H v0 p (.ref a) ∧ H a = some (.lst vs) ∧ RpAll K (Fok c A) H vs ts A1 ∧
      ∀ (res : V) (tr : T) (vs' : List V) (ts' : List T) (C1 C2 : List Addr) (ρ' : Env), Rp K (Fok c A) H res tr C1 → RpAll K (Fok c A) H vs' ts' C2 → (∀ b, C1.count b + C2.count b ≤ A1.count b + Aa.count b) → putAt i p ts' ρ = some ρ' →
        StR K c (upd H a (.lst vs')) (some res :: (tv ++ σ)) (some tr :: (td ++ ρ')) := by
  have hlen := s.len
  have hi : i < ρ.length := (List.getElem?_eq_some_iff.mp e0).1
  obtain ⟨B1, hb, ar, get⟩ := s.around (i := tv.length + i) (by rw [hlen, List.length_append]; omega)
  obtain ⟨v0, A0, e3, x, hc1⟩ := get t0 (by rw [app_at hl.symm, e0])
  rw [app_at rfl] at e3
  obtain ⟨v, Al, Bl, l, xl, hc2, pt⟩ := x.loc e1
  cases xl with
  | @ol a vs _ A1 ha ra =>
    refine ⟨v0, a, vs, A1, e3, l, ha, ra, fun res tr vs' ts' C1 C2 ρ' xr xs hC ep => ?_⟩
    have cc : ∀ b, (a :: A1).count b = A1.count b + (if a = b then 1 else 0) := fun b => by
      rw [List.count_cons]
      by_cases e : a = b
      · simp [e]
      · simp [e]
    have tot : ∀ b, A1.count b + (if a = b then 1 else 0) + Bl.count b + B1.count b + Aa.count b ≤ A.count b := fun b => by
      have h1 := hc b
      have h2 := hc1 b
      have h3 := hc2 b
      have h4 := cc b
      omega
    have aA : a ∈ A := List.count_pos_iff.mp (by have := tot a; rw [if_pos rfl] at this; omega)
    have ne : ∀ {C : List Addr}, (∀ b, C.count b + (if a = b then 1 else 0) ≤ A.count b) → ∀ b ∈ C, b ≠ a := fun {C} h b hb e => by
      subst e
      have h1 := h b
      have h2 := u b
      have h3 := List.count_pos_iff.mpr hb
      rw [if_pos rfl] at h1
      omega
    let H2 := upd H a (.lst vs')
    have mo : Mono (Fok c A) (Fok c A) H H2 := ⟨fun b ws e f => ⟨by show upd H a _ b = _; rw [upd_ne (fun z => f.2 (by rw [z]; exact aA))]; exact e, f⟩, fun b uu e st => by
      show upd H a _ b = _
      rw [upd_ne (fun z => by rw [z, ha] at e; cases e; exact st)]
      exact e⟩
    have eqs : ∀ {C : List Addr}, (∀ b ∈ C, b ≠ a) → ∀ b ∈ C, H2 b = H b := fun h b hb => upd_ne (h b hb)
    have nC1 : ∀ b ∈ C1, b ≠ a := ne fun b => by have := hC b; have := tot b; omega
    have nC2 : ∀ b ∈ C2, b ≠ a := ne fun b => by have := hC b; have := tot b; omega
    have nBl : ∀ b ∈ Bl, b ≠ a := ne fun b => by have := tot b; omega
    have nB1 : ∀ b ∈ B1, b ≠ a := ne fun b => by have := tot b; omega
    obtain ⟨t0', C3, q1, q2, q3⟩ := pt mo (eqs nBl) (t' := .ol ts') (A2 := a :: C2) (.ol upd_same (xs.mono mo (eqs nC2)))
    obtain ⟨C4, s4, q4⟩ := ar.put mo (eqs nB1) q2
    rw [app_set rfl, set_self e3, app_set hl.symm] at s4
    have er : ρ' = ρ.set i (some t0') := by
      unfold putAt at ep
      rw [e0] at ep
      dsimp only at ep
      rw [q1] at ep
      cases ep
      rfl
    subst er
    have fin : ∀ b, (C1 ++ C4).count b ≤ A.count b := fun b => by
      have h1 := q4 b
      have h2 := q3 b
      have h3 := hC b
      have h4 := tot b
      rw [List.count_append]
      rw [List.count_cons] at h2
      by_cases e : a = b
      · simp [e] at h2 h4; omega
      · simp [e] at h2 h4; omega
    refine ⟨C1 ++ C4, fun b => Nat.le_trans (fin b) (u b), ?_, fun b hb => ow b (List.count_pos_iff.mp (Nat.lt_of_lt_of_le (List.count_pos_iff.mpr hb) (fin b))), ⟨fun b o e n => ?_, fun b e => ?_⟩⟩
    · exact (Sl.cons (xr.mono mo (eqs nC1)) s4).mono (.sub fun b _ => Fok.sub fin b) fun _ _ => rfl
    · rw [upd_ne]
      · exact k.keep b o e n
      · intro z
        subst z
        rcases ow b aA with y | y
        · exact n y
        · rw [e] at y; cases y
    · by_cases z : b = a
      · subst z
        rw [upd_same] at e; cases e
      · rw [upd_ne z] at e
        exact k.there b e
section
variable {X : Cx} {E : Str → Hp → Prop} {o e : Expr} {es : List Expr} {to : TE} {t : TA} {name : Str} {apos cpos : Pos} {id : String} {rM : V → List V → Hp → VK → Prop} {op : List T → List T → Option (T × List T)} {g : Bool}
theorem ty_list {K : PySem.W.Frag} {a : Addr} {vs : List V} {H : Hp} (h : H a = some (.lst vs)) : tyV K "list" (.ref a) H := .inl ⟨rfl, vs, .of h⟩
theorem sim_meth {K : PySem.W.Frag} {i : Nat} {mp : ML} {ma : MA} (hv : UpdV K rM op) (sl : SimL K i to mp) (sa : SimA K E g t ma) (hg : g = true ∨ ∀ ρ p, mp ρ = some p → p = []) : SimE K E false (tBM K "list" rM to t) (mMeth i mp op ma) := by
  intro c H tv td σ ρ hl st Q q
  unfold mMeth at q
  obtain ⟨p, ep, q⟩ := then_ofO.mp (then_bind.mp q)
  obtain ⟨ts0, el, q⟩ := then_ofO.mp (then_bind.mp q)
  obtain ⟨t0, e0, e1⟩ := lstAt_some el
  have q1 := then_bind.mp q
  obtain ⟨A, w⟩ := st
  refine sl c H tv td σ ρ A p t0 _ hl w ep e0 e1 _ fun v0 v ev0 lv => ?_
  obtain ⟨v0', a0, vs0, A10, ev0', l0, ha0, _, _⟩ := StW.write (Aa := []) hl w.uniq w.own w.keep (fun a => by simp) w.slots e0 e1
  rw [ev0] at ev0'; cases ev0'
  have ev := lv.uniq l0
  subst ev
  refine ⟨ty_list ha0, ?_⟩
  refine sa c H tv td σ ρ hl ⟨A, w⟩ _ (q1.imp ?_)
  intro r q2 ys H1 sm hys st1
  obtain ⟨ts, er, q3⟩ := then_ofO.mp (then_bind.mp q2)
  obtain ⟨t1, e2, e3⟩ := lstAt_some er
  obtain ⟨z, ez, q4⟩ := then_ofO.mp (then_bind.mp q3)
  obtain ⟨ρ', eρ, q5⟩ := then_ofO.mp (then_bind.mp q4)
  obtain ⟨A', w1⟩ := st1
  obtain ⟨Aa, B, eA, ra, s⟩ := w1.slots.front hys
  obtain ⟨v1, a, vs, A1, ev1, l1, ha, rl, fin⟩ := StW.write (Aa := Aa) hl w1.uniq w1.own w1.keep (fun a => by rw [eA, List.count_append]; exact Nat.le_refl _) s e2 e3
  rw [ev0] at ev1; cases ev1
  have ea : a0 = a := by
    rcases hg with hg | hg
    · have := (lv.grow (sm hg)).uniq l1
      cases this; rfl
    · have := hg ρ p ep
      subst this
      cases l1; cases lv; rfl
  subst ea
  refine hv _ H1 a0 vs ys ts r.1 A1 Aa z ha rl ra ez Q fun res vs' C1 C2 x1 x2 hC => ?_
  exact q5 _ _ (fun y => by cases y) (fin res z.1 vs' z.2 C1 C2 ρ' x1 x2 hC eρ)
theorem lHere_nil {ρ : Env} {p : List Int} (h : lHere ρ = some p) : p = [] := by cases h; rfl
theorem qe_meth {i : Nat} {mp : ML} {ma : MA} (slot : Slot "list" name id) (hty : typeOf (.builtin id) = pure (.type "method_descriptor")) (hm : MtR X id rM) (hv : UpdV X.K rM op) (ho : QL X i o to mp) (ha : QA X E g (e :: es) t ma) (hg : g = true ∨ ∀ ρ p, mp ρ = some p → p = [])
    (hbase : attributeBase o name X.env (eval o X.env) = eval o X.env := by rfl)
    (hfew : ((backTo cpos (starEach (e :: es) X.env)).all (fun x => !x.1) && (backToKw cpos (keywordEach [] X.env)).all (fun x => x.1.isSome)
      && decide ((e :: es).length + ([] : List Keyword).length + (if ([] : List Keyword).isEmpty then 0 else 1) < 30)) = true := by rfl)
    (hline : (apos.endLine == cpos.line) = true := by rfl) (hs : starEach (e :: es) X.env = (false, eval e X.env) :: starEach es X.env := by rfl) (hplain : (backTo cpos (starEach es X.env)).any (·.1) = false := by rfl) :
    QE X E false (.Call (.Attribute o name apos) (e :: es) [] cpos) (tBM X.K "list" rM to t) (mMeth i mp op ma) := ⟨pe_bm PySem.F.plainAttrs_list slot hty hm ho.pe ha.pa hbase hfew hline hs hplain, sim_meth hv ho.sim ha.sim hg⟩
end
def opAppend : List T → List T → Option (T × List T) := fun ts us => match us with
  | [u] => if decide (ts.length < sLine) = true then some (.d .none, ts ++ [u]) else none
  | _ => none
theorem append_v {K : PySem.W.Frag} : UpdV K rAppend opAppend := by
  intro F H a vs ys ts us A1 A2 r ha r1 r2 e Q q
  unfold opAppend at e
  split at e
  · split at e
    · rename_i u hz
      cases e
      cases r2 with
      | cons x rn =>
        rename_i v vs0 Ax Bx
        cases rn
        have hz' := of_decide_eq_true hz
        obtain ⟨C, r', z⟩ := r1.snoc x
        exact ⟨a, vs, v, rfl, rfl, ha, by rw [r1.len, ← sLine_eq]; exact hz', q .non _ [] C (.d .non) r' fun b => by rw [z b, List.count_append]; simp⟩
    · cases e
  · cases e
def T.kids : T → Option (List T)
  | .d (.list ds) => some (ds.map T.d)
  | .ol ts => some ts
  | _ => none
theorem RpAll.append {K : PySem.W.Frag} {F : Addr → Prop} {H : Hp} : ∀ {vs ws : List V} {ts us : List T} {A B : List Addr}, RpAll K F H vs ts A → RpAll K F H ws us B → ∃ C, RpAll K F H (vs ++ ws) (ts ++ us) C ∧ ∀ a, C.count a = A.count a + B.count a
  | _, _, _, _, _, B, .nil, x => ⟨B, x, fun a => by simp⟩
  | _, _, _, _, _, _, .cons (A := A1) y r, x => by
    obtain ⟨C, r', z⟩ := r.append x
    exact ⟨A1 ++ C, .cons y r', fun a => by rw [List.count_append, List.count_append, z a]; omega⟩
theorem Rp.kids {K : PySem.W.Frag} {F : Addr → Prop} {H : Hp} {v : V} {t : T} {A : List Addr} {us : List T} (h : Rp K F H v t A) (e : t.kids = some us) : ∃ b ws B, v = .ref b ∧ H b = some (.lst ws) ∧ RpAll K F H ws us B ∧ ∀ a, B.count a ≤ A.count a := by
  unfold T.kids at e
  split at e
  · cases e
    cases h with
    | d h =>
      cases h with
      | lst h1 _ f => exact ⟨_, _, [], rfl, h1, RpAll.ofFz f, fun a => by simp⟩
  · cases e
    cases h with
    | ol h1 r => exact ⟨_, _, _, rfl, h1, r, fun a => by rw [List.count_cons]; omega⟩
  · cases e
def opExtend : List T → List T → Option (T × List T) := fun ts us => match us with
  | [u] => (match u.kids with | some ks => if decide (ts.length + ks.length ≤ sLine) = true then some (.d .none, ts ++ ks) else none | none => none)
  | _ => none
def mgItem (i : Nat) (mp : ML) (mi : MP) : MG := fun t ρ => (mp ρ).bind fun p => ((mi ρ).bind T.int?).bind fun j => (lstAt p ρ[i]?).bind fun ts => (ixN ts.length j).bind fun k => putAt i p (ts.set k t) ρ
section
variable {X : Cx} {a b : Expr} {ta tb : TE} {pos : Pos} {pr : Nat → Bool}
theorem RpAll.setk {K : PySem.W.Frag} {F : Addr → Prop} {H : Hp} {vs : List V} {ts : List T} {A B : List Addr} {v : V} {t : T} (r : RpAll K F H vs ts A) (k : Nat) (hk : k < ts.length) (x : Rp K F H v t B) : ∃ C, RpAll K F H (vs.set k v) (ts.set k t) C ∧ ∀ a, C.count a ≤ A.count a + B.count a := by
  obtain ⟨v1, A1, B1, _, _, hc, p⟩ := r.around (List.getElem?_eq_getElem hk)
  obtain ⟨C, s, z⟩ := p.put (Mono.sub fun _ _ x => x) (fun _ _ => rfl) x
  exact ⟨C, s, fun a => by have := z a; have := hc a; omega⟩
theorem qg_item {i : Nat} {mp : ML} {mi : MP} (ho : QL X i a ta mp) (hi : QP X b tb mi) (ha : ∀ v, assign (.Subscript a b pos) X.env v = (do
      let ov ← holding [v] (eval a X.env)
      let iv ← holding [v, ov] (eval b X.env)
      standAt pos
      holding [v, ov, iv] (setItem ov iv v)
      release [v, ov, iv] []) := by intro _; rfl) : QG X pr (.Subscript a b pos) (gSub ta tb rSetL) (mgItem i mp mi) := by
  refine ⟨pg_sub ho.pe hi.pe set_list ha, fun c H tv td σ ρ ρ' v t hl st e Q q => ?_⟩
  unfold mgItem at e
  obtain ⟨p, e1, e⟩ := Option.bind_eq_some_iff.mp e
  obtain ⟨j, e2', e⟩ := Option.bind_eq_some_iff.mp e
  obtain ⟨tj, e2, e20⟩ := Option.bind_eq_some_iff.mp e2'
  cases int?_eq e20
  obtain ⟨ts, e3, e⟩ := Option.bind_eq_some_iff.mp e
  · obtain ⟨k, e4, e5⟩ := Option.bind_eq_some_iff.mp e
    obtain ⟨t0, e6, e7⟩ := lstAt_some e3
    obtain ⟨A, w⟩ := st
    have w' : StW X.K c H ((some v :: tv) ++ σ) ((some t :: td) ++ ρ) A := w
    refine ho.sim c H (some v :: tv) (some t :: td) σ ρ A p t0 _ (by simp [hl]) w' e1 e6 e7 _ fun v0 vo ev0 lo => ?_
    refine hi.sim c H (some v :: tv) (some t :: td) σ ρ A _ (by simp [hl]) w' e2 _ fun u Au ru _ => ?_
    have eu := ru.i
    obtain ⟨Aa, B, eA, x, s⟩ := w.top
    obtain ⟨v1, a1, vs, A1, ev1, l1, ha1, rl, fin⟩ := StW.write (Aa := Aa) hl w.uniq w.own w.keep (fun a => by rw [eA, List.count_append]; exact Nat.le_refl _) s e6 e7
    rw [ev0] at ev1; cases ev1
    have := lo.uniq l1
    subst this
    have hk : k < ts.length := (ixN_seq e4).2.1
    refine ⟨a1, vs, j, k, rfl, eu, ha1, by rw [rl.len]; exact e4, ?_⟩
    obtain ⟨C, s', z⟩ := rl.setk k hk x
    exact q σ _ .refl (fin .non (.d .none) _ _ [] C ρ' (.d .non) s' (fun b => by have := z b; simp; omega) e5).drop
end
end L3
namespace L3
open PySem PySem.Spec PyProof.Rows L2
def T.size : T → Option Nat
  | .d (.list ds) => some ds.length
  | .d (.tuple ds) => some ds.length
  | .d (.str s) => if decide (s.length ≤ sLine) = true then some s.length else none
  | .ol ts => some ts.length
  | .ot ts => some ts.length
  | .rd ds => some ds.length
  | _ => none
def opLen : List T → R RV
  | [t] => (ofO t.size).bind fun n => .ok (.v (.d (.int n)))
  | _ => .bad
abbrev rLen (K : PySem.W.Frag) : List V → Hp → VK → Prop := fun xs H Q => ∃ x n, xs = [x] ∧ LenV K x H n ∧ Q (.int n) H
theorem one_of {K : PySem.W.Frag} {F : Addr → Prop} {H : Hp} {vs : List V} {t : T} {A : List Addr} (h : RpAll K F H vs [t] A) : ∃ v B, vs = [v] ∧ Rp K F H v t B ∧ ∀ a, B.count a ≤ A.count a := by
  cases h with
  | cons x r =>
    cases r
    exact ⟨_, _, rfl, x, fun a => by rw [List.count_append]; omega⟩
theorem two_of {K : PySem.W.Frag} {F : Addr → Prop} {H : Hp} {vs : List V} {t t2 : T} {A : List Addr} (h : RpAll K F H vs [t, t2] A) : ∃ v u B C, vs = [v, u] ∧ Rp K F H v t B ∧ Rp K F H u t2 C := by
  cases h with
  | cons x r =>
    cases r with
    | cons y r =>
      cases r
      exact ⟨_, _, _, _, rfl, x, y⟩
theorem Rp.size {K : PySem.W.Frag} {F : Addr → Prop} {H : Hp} {v : V} {t : T} {A : List Addr} {n : Nat} (h : Rp K F H v t A) (e : t.size = some n) : LenV K v H n := by
  unfold T.size at e
  split at e
  · cases e
    cases h with | d h => cases h with | lst h _ f => exact .inl ⟨_, .of h, f.len.symm⟩
  · cases e
    cases h with | d h => cases h with | tup h f => exact .inr ⟨_, h, f.len.symm⟩
  · split at e
    · rename_i hz
      cases e
      cases h with | d h => cases h; exact ⟨by rw [← sLine_eq]; exact of_decide_eq_true hz, rfl⟩
    · cases e
  · cases e
    cases h with | ol h f => exact .inl ⟨_, .of h, f.len.symm⟩
  · cases e
    cases h with | ot h f => exact .inr ⟨_, .of h, f.len.symm⟩
  · cases e
    cases h with | rd h f => exact .inl ⟨_, h.sq, f.len.symm⟩
  · cases e
theorem opLen_v {K : PySem.W.Frag} : CallV K (rLen K) opLen := by
  intro F H vs ts A r Q q
  unfold opLen at q
  split at q
  · obtain ⟨n, e, q⟩ := then_ofO.mp (then_bind.mp q)
    obtain ⟨v, B, rfl, x, _⟩ := one_of r
    exact ⟨v, n, rfl, x.size e, rv_d q (.int _)⟩
  · exact q.elim
def opAbs : List T → R RV
  | [.d (.int i)] => .ok (.v (.d (.int (if i < 0 then -i else i))))
  | _ => .bad
abbrev rAbs : List V → Hp → VK → Prop := fun xs H Q => ∃ i, xs = [.int i] ∧ Q (.int (if i < 0 then -i else i)) H
theorem opAbs_v {K : PySem.W.Frag} : CallV K rAbs opAbs := by
  intro F H vs ts A r Q q
  unfold opAbs at q
  split at q
  · obtain ⟨v, B, rfl, x, _⟩ := one_of r
    cases x.i
    exact ⟨_, rfl, rv_d q (.int _)⟩
  · exact q.elim
def opInt1 : List T → R RV
  | [.d (.int i)] => .ok (.v (.d (.int i)))
  | [.d (.bool b)] => .ok (.v (.d (.int (if b then 1 else 0))))
  | _ => .bad
def T.seq? : T → Option (List PyData)
  | .d (.list ds) => some ds
  | .d (.tuple ds) => some ds
  | .ol ts => T.allD ts
  | .rd ds => some ds
  | _ => none
theorem Rp.seq? {K : PySem.W.Frag} {F : Addr → Prop} {H : Hp} {v : V} {t : T} {A : List Addr} {ds : List PyData} (h : Rp K F H v t A) (e : t.seq? = some ds) : ∃ a vs, v = .ref a ∧ (SqL K H a vs ∨ SqT K H a vs) ∧ FzAll K F H vs ds := by
  unfold T.seq? at e
  split at e
  · cases e
    cases h with | d h => cases h with | lst h _ f => exact ⟨_, _, rfl, .inl (.of h), f⟩
  · cases e
    cases h with | d h => cases h with | tup h f => exact ⟨_, _, rfl, .inr h, f⟩
  · cases h with | ol h r => exact ⟨_, _, rfl, .inl (.of h), (r.data e).1⟩
  · cases e
    cases h with | rd h f => exact ⟨_, _, rfl, .inl h.sq, f⟩
  · cases e
def opListOf : List T → R RV
  | [t] => (ofO t.seq?).bind fun ds => .ok (.nl ds)
  | _ => .bad
abbrev rListOf (K : PySem.W.Frag) : List V → Hp → VK → Prop := fun xs H Q => ∃ p ys, xs = [.ref p] ∧ (SqL K H p ys ∨ SqT K H p ys) ∧ ∀ l, H l = none → Q (.ref l) (upd H l (.lst ys))
theorem opListOf_v {K : PySem.W.Frag} : CallV K (rListOf K) opListOf := by
  intro F H vs ts A r Q q
  unfold opListOf at q
  split at q
  · obtain ⟨ds, e, q⟩ := then_ofO.mp (then_bind.mp q)
    obtain ⟨v, B, rfl, x, _⟩ := one_of r
    obtain ⟨a, ws, rfl, h, f⟩ := x.seq? e
    exact ⟨a, ws, rfl, h, fun l hl => q l ws hl f⟩
  · exact q.elim
theorem opListOf_nox : NoXL opListOf := by
  intro x c
  unfold opListOf
  split
  · exact bind_noexc (fun _ => ofO_noexc _) (by intro _ _ z; cases z) c
  · intro z; cases z
def opTupleOf : List T → R RV
  | [.d (.tuple ds)] => .ok (.v (.d (.tuple ds)))
  | [t] => (ofO t.lst?).bind fun ds => .ok (.nt ds)
  | _ => .bad
def opMax2 : List T → R RV
  | [.d (.int i), .d (.int j)] => .ok (.v (.d (.int (if j > i then j else i))))
  | _ => .bad
def opMin2 : List T → R RV
  | [.d (.int i), .d (.int j)] => .ok (.v (.d (.int (if j < i then j else i))))
  | _ => .bad
abbrev rMax2 : List V → Hp → VK → Prop := fun xs H Q => ∃ i j, xs = [.int i, .int j] ∧ Q (.int (if j > i then j else i)) H
abbrev rMin2 : List V → Hp → VK → Prop := fun xs H Q => ∃ i j, xs = [.int i, .int j] ∧ Q (.int (if j < i then j else i)) H
theorem opMax2_v {K : PySem.W.Frag} : CallV K rMax2 opMax2 := by
  intro F H vs ts A r Q q
  unfold opMax2 at q
  split at q
  · obtain ⟨v, u, B, C, rfl, x, y⟩ := two_of r
    cases x.i; cases y.i
    exact ⟨_, _, rfl, rv_d q (.int _)⟩
  · exact q.elim
theorem opMin2_v {K : PySem.W.Frag} : CallV K rMin2 opMin2 := by
  intro F H vs ts A r Q q
  unfold opMin2 at q
  split at q
  · obtain ⟨v, u, B, C, rfl, x, y⟩ := two_of r
    cases x.i; cases y.i
    exact ⟨_, _, rfl, rv_d q (.int _)⟩
  · exact q.elim
def opNeg : T → R RV
  | .d (.int i) => .ok (.v (.d (.int (-i))))
  | _ => .bad
theorem opNeg_v {K : PySem.W.Frag} : UnV K (rU fun i => .int (-i)) opNeg := by
  intro F H v x A hx Q q
  unfold opNeg at q
  split at q
  · exact ⟨_, hx.i, rv_d q (.int _)⟩
  · exact q.elim
section
variable {X : Cx} {E : Str → Hp → Prop} {a e : Expr} {ta te : TE} {ma : MP} {pos : Pos} {io : List Nat}
theorem qp_neg (ha : QP X a ta ma) : QP X (.UnaryOp .USub a pos) (tUn (rU fun i => .int (-i)) ta) (pUn opNeg ma) := ⟨pe_un un_neg ha.pe, sim_pun opNeg_v ha.sim⟩
def T.ty : T → Option String
  | .d .none => some "NoneType"
  | .d (.bool _) => some "bool"
  | .d (.int _) => some "int"
  | .d (.str _) => some "str"
  | .d (.list _) => some "list"
  | .d (.tuple _) => some "tuple"
  | .ol _ => some "list"
  | .ot _ => some "tuple"
  | _ => none
def isaT (n : String) (t : T) : Option Bool := t.ty.bind fun m => kitB m n
def pIsa (n : String) (m : MP) : MP := fun ρ => ((m ρ).bind (isaT n)).map fun b => .d (.bool b)
theorem sqT_tyx {K : PySem.W.Frag} {H : Hp} {a : Addr} {vs : List V} (h : SqT K H a vs) : TyX K H (.ref a) (.type "tuple") := by
  rcases h with (h | ⟨o, h⟩) | ⟨o, its, n, h, c, _⟩
  · exact .base (.tup h)
  · exact .fTuple h
  · exact .kTuple h c
theorem Rp.ty {K : PySem.W.Frag} {F : Addr → Prop} {H : Hp} {v : V} {t : T} {A : List Addr} {n : String} (h : Rp K F H v t A) (e : t.ty = some n) : TyX K H v (.type n) := by
  unfold T.ty at e
  split at e
  · cases e; cases h with | d h => cases h; exact .base .non
  · cases e; cases h with | d h => cases h; exact .base (.bl _)
  · cases e; cases h with | d h => cases h; exact .base (.int _)
  · cases e; cases h with | d h => cases h; exact .base (.str _)
  · cases e; cases h with | d h => cases h with | lst h _ _ => exact .base (.lst h)
  · cases e; cases h with | d h => cases h with | tup h _ => exact sqT_tyx h
  · cases e; cases h with | ol h _ => exact .base (.lst h)
  · cases e; cases h with | ot h _ => exact .base (.tup h)
  · cases e
theorem qp_isi {n : String} {x : Str} {p p2 : Pos} (he : QP X e te ma) (hm : X.mg "isinstance" = none) (hm2 : X.mg x = none) (hv : bootBuiltins x = some (.type n)) (hg : Gl X "isinstance" := by rfl) (hg2 : Gl X x := by rfl) (hn : x ≠ "__name__" := by decide) (hd : (x == ("__debug__" : Str)) = false := by decide)
    (hs : starEach [e, .Name x p2] X.env = (false, eval e X.env) :: starEach [.Name x p2] X.env := by rfl) (hpl : (backTo pos (starEach [.Name x p2] X.env)).any (·.1) = false := by rfl)
    (hs2 : starEach [.Name x p2] X.env = (false, eval (.Name x p2) X.env) :: starEach [] X.env := by rfl) : QP X (.Call (.Name "isinstance" p) [e, .Name x p2] [] pos) (tCB (rIsi X.K) (tCons te (tCons (tC (.ty n)) tNil))) (pIsa n ma) := by
  refine ⟨pe_callB call_isi hg hm (by decide +kernel) (pa_cons he.pe (pa_cons (pe_bltn hg2 hm2 hv rfl hn hd) pa_nil hs2) hs) (by decide) (by decide) hs hpl, fun c H tv td σ ρ A t hl w e1 Q q => ?_⟩
  unfold pIsa at e1
  obtain ⟨b, e2, e3⟩ := Option.map_eq_some_iff.mp e1
  obtain ⟨t0, e4, e5⟩ := Option.bind_eq_some_iff.mp e2
  obtain ⟨m, e6, e7⟩ := Option.bind_eq_some_iff.mp e5
  subst e3
  refine he.sim c H tv td σ ρ A t0 hl w e4 _ fun v A1 r _ => ?_
  exact ⟨v, .ty n, _, _, b, rfl, .ty n, r.ty e6, kit_ty e7, q _ [] (.d (.bl b)) fun _ z => by simp at z⟩
theorem src_tup {K : PySem.W.Frag} {a : Addr} {ds : List PyData} : Src K (Itt K a) [some (.ref a)] [some (.d (.tuple ds))] (ds.map T.d) where
  len := rfl
  goes := by
    intro c H sl ρ i hi st
    obtain ⟨A, w, f⟩ := StR.look st
    cases f with
    | @tup _ vs _ h f =>
      have hl := f.len
      have hi2 : i < vs.length := by rw [hl]; simpa using hi
      exact ⟨vs, vs[i], h, List.getElem?_eq_getElem hi2⟩
  stops := by
    intro c H sl ρ st
    obtain ⟨A, w, f⟩ := StR.look st
    cases f with
    | tup h f => exact ⟨_, h, by rw [List.length_map, f.len]; exact Nat.le_refl _⟩
  yields := by
    intro c H sl ρ i x H' t ht st y
    obtain ⟨rfl, y⟩ := y
    obtain ⟨A, w, f⟩ := StR.look st
    refine ⟨Same.refl _, A, ?_⟩
    rw [List.getElem?_map] at ht
    obtain ⟨z, e1, rfl⟩ := Option.map_eq_some_iff.mp ht
    cases f with
    | tup h f =>
      obtain ⟨v, e2, fz⟩ := f.get e1
      have := y _ h
      rw [e2] at this
      cases this
      exact w.pushD fz
theorem sim_iT {K : PySem.W.Frag} {te : TE} {m : MEx} {g : Bool} (s : SimE K E g te m) : SimI K E (iTup K te) (miT m) := by
  intro c H tv td σ ρ hl st Rr q
  unfold miT at q
  rw [then_bind] at q
  refine s c H tv td σ ρ hl st _ (q.imp ?_)
  rintro ⟨t, ρ1⟩ q1 v H1 _ st1
  obtain ⟨ts, e, q2⟩ := then_ofO.mp (then_bind.mp q1)
  unfold itemsT? at e
  dsimp only at e
  split at e
  · rename_i ds
    cases e
    obtain ⟨A, w, f⟩ := StR.look st1
    cases f with
    | tup h f => exact ⟨_, rfl, ⟨_, h⟩, q2 _ H1 [some _] [some _] src_tup st1⟩
  · cases e
theorem qi_tup {tg e : Expr} {te : TE} {m : MEx} {g : Bool} (h : QE X E g e te m) : QI X E tg e (iTup X.K te) (miT m) := ⟨pi_tup h.pe, sim_iT h.sim⟩
theorem StW.pair {K : PySem.W.Frag} {c : C0} {H : Hp} {sl : List (Option V)} {ρ : Env} {A : List Addr} {p : Addr} {x y : V} {d e : PyData} (w : StW K c H sl ρ A) (hp : H p = none) (fx : Fz K (Fok c A) H x d) (fy : Fz K (Fok c A) H y e) :
    StW K c (upd H p (.tup [x, y])) (some (.ref p) :: sl) (some (.d (.tuple [d, e])) :: ρ) A := by
  have sm := same_upd (o := .tup [x, y]) hp
  exact (w.grow sm).pushD (.tup (.of upd_same) (.cons (fx.mono (.same sm)) (.cons (fy.mono (.same sm)) .nil)))
def zipItems (ds es : List PyData) : List T := (ds.zip es).map fun p => .d (.tuple [p.1, p.2])
def miZ (m : MA) : MI := fun ρ => (m ρ).bind fun r => match r.1 with | [.d (.list ds), .d (.list es)] => .ok (zipItems ds es, r.2) | _ => .bad
def enumItems (ds : List PyData) : List T := (List.range ds.length).map fun i => .d (.tuple [.int (i : Nat), ds.getD i .none])
def miN (m : MA) : MI := fun ρ => (m ρ).bind fun r => match r.1 with | [.d (.list ds)] => .ok (enumItems ds, r.2) | _ => .bad
def cutG {α : Type} (xs : List α) (lo hi : Option Int) : List α := (xs.drop (HT.sIx xs.length 0 lo)).take (HT.sIx xs.length xs.length hi - HT.sIx xs.length 0 lo)
def isWhole (n : Nat) (lo hi : Option Int) : Bool := decide (HT.sIx n 0 lo = 0 ∧ HT.sIx n n hi = n)
theorem FzAll.drop {K : PySem.W.Frag} {F : Addr → Prop} {H : Hp} : ∀ {vs : List V} {xs : List PyData} (n : Nat), FzAll K F H vs xs → FzAll K F H (vs.drop n) (xs.drop n)
  | _, _, 0, h => h
  | _, _, _ + 1, .nil => .nil
  | _, _, n + 1, .cons _ r => r.drop n
theorem FzAll.take {K : PySem.W.Frag} {F : Addr → Prop} {H : Hp} : ∀ {vs : List V} {xs : List PyData} (n : Nat), FzAll K F H vs xs → FzAll K F H (vs.take n) (xs.take n)
  | _, _, 0, _ => .nil
  | _, _, _ + 1, .nil => .nil
  | _, _, n + 1, .cons a r => .cons a (r.take n)
theorem FzAll.cut {K : PySem.W.Frag} {F : Addr → Prop} {H : Hp} {vs : List V} {xs : List PyData} (h : FzAll K F H vs xs) (lo hi : Option Int) : FzAll K F H (cutV vs lo hi) (cutG xs lo hi) := by
  unfold cutV cutG
  rw [h.len]
  exact (h.drop _).take _
abbrev MO := Env → Option (Option Int)
def SimO (K : PySem.W.Frag) (to : TO) (m : MO) : Prop :=
  ∀ (c : C0) (H : Hp) (tv : List (Option V)) (td : Env) (σ : L2.St) (ρ : Env) (A : List Addr) (o : Option Int), tv.length = td.length → StW K c H (tv ++ σ) (td ++ ρ) A → m ρ = some o → ∀ Q : Option Int → Hp → Prop, Q o H → to σ H Q
structure QO (X : Cx) (e : Option Expr) (to : TO) (m : MO) : Prop where
  po : PO X e to
  sim : SimO X.K to m
def oNone : MO := fun _ => some none
def oSome (m : MP) : MO := fun ρ => ((m ρ).bind T.int?).map some
theorem qo_none : QO X none tNoPart oNone := ⟨po_none, fun c H tv td σ ρ A o _ _ e Q q => by cases e; exact q⟩
theorem qo_some (h : QP X e te ma) : QO X (some e) (tPart te) (oSome ma) := ⟨po_some h.pe, fun c H tv td σ ρ A o hl w e Q q => by
  obtain ⟨j, e1, e2⟩ := Option.map_eq_some_iff.mp e
  obtain ⟨t, e3, e4⟩ := Option.bind_eq_some_iff.mp e1
  cases e2
  cases int?_eq e4
  exact h.sim c H tv td σ ρ A _ hl w e3 _ fun v A1 r _ => ⟨j, r.i, q⟩⟩
def opSlL (t : T) (lo hi : Option Int) : Option RV := match t with
  | .d (.list ds) => some (.nl (cutG ds lo hi))
  | .rd ds => some (.nl (cutG ds lo hi))
  | .ol ts => (T.allD ts).map fun ds => .nl (cutG ds lo hi)
  | _ => none
def opSlT (t : T) (lo hi : Option Int) : Option RV := match t with
  | .d (.tuple ds) => if isWhole ds.length lo hi = false then some (.nt (cutG ds lo hi)) else none
  | _ => none
def mSl (op : T → Option Int → Option Int → Option RV) (m : MP) (ml mh : MO) : MEx := fun ρ => (ofO (m ρ)).bind fun t => (ofO (ml ρ)).bind fun lo => (ofO (mh ρ)).bind fun hi => (ofO (op t lo hi)).bind fun z => .ok (z.toT, ρ)
theorem sim_sl {K : PySem.W.Frag} {r : V → Option Int → Option Int → Hp → VK → Prop} {op : T → Option Int → Option Int → Option RV} {tl th : TO} {ml mh : MO} (hv : ∀ (F : Addr → Prop) (H : Hp) (v : V) (t : T) (A : List Addr) (lo hi : Option Int) (z : RV) (Q : VK), Rp K F H v t A → op t lo hi = some z → RVto K F H [] Q z → r v lo hi H Q)
    (s : SimP K te ma) (sl : SimO K tl ml) (sh : SimO K th mh) : SimE K E true (tSl r te tl th) (mSl op ma ml mh) := by
  intro c H tv td σ ρ hl st Q q
  unfold mSl at q
  obtain ⟨t, e1, q⟩ := then_ofO.mp (then_bind.mp q)
  obtain ⟨lo, e2, q⟩ := then_ofO.mp (then_bind.mp q)
  obtain ⟨hi, e3, q⟩ := then_ofO.mp (then_bind.mp q)
  obtain ⟨z, e4, q⟩ := then_ofO.mp (then_bind.mp q)
  obtain ⟨A, w⟩ := st
  refine s c H tv td σ ρ A t hl w e1 _ fun v A1 rv _ => ?_
  refine sl c H tv td σ ρ A lo hl w e2 _ ?_
  refine sh c H tv td σ ρ A hi hl w e3 _ ?_
  refine hv _ H v t A1 lo hi z Q rv e4 ?_
  exact StW.result (A1 := []) (B := A) (fun a => by simp) w.uniq w.own w.keep w.slots fun v' H' sm' => q v' H' fun _ => sm'
theorem qe_slL {p2 : Pos} {lo hi : Option Expr} {tl th : TO} {ml mh : MO} (h : QP X e te ma) (hl : QO X lo tl ml) (hh : QO X hi th mh) : QE X E true (.Subscript e (.Slice lo hi none p2) pos) (tSl (rSlL X.K) te tl th) (mSl opSlL ma ml mh) := by
  refine ⟨pe_slice sl_list h.pe hl.po hh.po, sim_sl (fun F H v t A lo hi z Q r e q => ?_) h.sim hl.sim hh.sim⟩
  unfold opSlL at e
  split at e
  · cases e
    obtain ⟨a, vs, rfl, h1, f⟩ := r.lst? (ds := _) rfl
    exact ⟨a, vs, rfl, .of h1, fun p hp => q p _ hp (f.cut lo hi)⟩
  · cases e
    cases r with
    | rd h1 f => exact ⟨_, _, rfl, h1.sq, fun p hp => q p _ hp (f.cut lo hi)⟩
  · obtain ⟨ds, e1, e2⟩ := Option.map_eq_some_iff.mp e
    cases e2
    obtain ⟨a, vs, rfl, h1, f⟩ := r.lst? (ds := ds) e1
    exact ⟨a, vs, rfl, .of h1, fun p hp => q p _ hp (f.cut lo hi)⟩
  · cases e
theorem qp_glob {x : Str} {v : V} {u : Value} {d : PyData} (hm : X.mg x = some u) (r : RelV v u) (f : ∀ F H, Fz X.K F H v d) (hg : Gl X x := by rfl) (hd : (x == ("__debug__" : Str)) = false := by decide) : QP X (.Name x pos) (tC v) (pC d) :=
  ⟨pe_glob hg hm r hd, fun c H tv td σ ρ A t _ _ e Q q => by cases e; exact q v [] (.d (f _ _)) fun _ z => by simp at z⟩
end
end L3
namespace L3
open PySem PySem.Spec PyProof.Rows L2
def mRd (i : Nat) : MEx := fun ρ => match ρ[i]? with
  | some (some (.rd ds)) => .ok (.rd ds, ρ)
  | _ => .bad
theorem sim_rd {K : PySem.W.Frag} {E : Str → Hp → Prop} (i : Nat) : SimE K E true (tVar i) (mRd i) := by
  intro c H tv td σ ρ hl st Q q
  obtain ⟨A, w⟩ := st
  unfold mRd at q
  split at q
  · rename_i ds e0
    obtain ⟨v, A1, e3, x, hc⟩ := w.see hl e0
    refine ⟨v, e3, q v H (fun _ => Same.refl H) ?_⟩
    cases x with
    | rd h r => exact ⟨[] ++ A, w.uniq, .cons (.rd h r) w.slots, w.own, w.keep⟩
  · exact q.elim
section
variable {X : Cx} {E : Str → Hp → Prop} {pos : Pos}
theorem qe_rd (i : Nat) {x : Str} {pos : Pos} (hN : X.N[i]? = some x := by rfl) (hv : Vis X.env.scope x := by first | exact Or.inl rfl | exact Or.inr (Or.inl rfl) | exact Or.inr (Or.inr rfl)) (hd : (x == ("__debug__" : Str)) = false := by decide)
    (hcd : (x == ("__classdict__" : Str)) = false := by decide) : QE X E true (.Name x pos) (tVar i) (mRd i) := ⟨pe_var hN hv hd hcd, sim_rd i⟩
structure QTs (X : Cx) (E : Str → Hp → Prop) (es : List Expr) (tt : TT) (m : MT) : Prop where
  pts : PTs X es tt
  sim : SimT X.K E tt m
theorem qts_nil : QTs X E [] tYes mtYes := ⟨pts_nil, fun c H tv td σ ρ hl st Q q => q H st⟩
theorem qts_one {c : Expr} {t : TT} {m : MT} (h : QT X E c t m) : QTs X E [c] t m := ⟨pts_one h.pt, h.sim⟩
theorem qe_lc {elt tg iter : Expr} {ifs : List Expr} {scope : Scope} {own : List (Str × Nat)} {wi : TI} {mi : MI} {g : TG} {mg : MG} {tt : TT} {mt : MT} {te : TE} {me : MEx} {g1 : Bool} {vs : List Nat} (hvs : own.map (·.2) = vs) (hc : X.calm = true) (hN : X.N.Nodup) (hi : QI X E tg iter wi mi) (ok : BlkOk X.N X.env.scope scope own)
    (hg : ∀ (s : Shared) (H : Hp) (C : Addr) (cl : List (Str × Addr)) (fp : List Addr), QG (X.blk s H scope (compEnvC scope cl C X.env) fp) (notOwn vs) tg g mg) (ht : ∀ (s : Shared) (H : Hp) (C : Addr) (cl : List (Str × Addr)) (fp : List Addr), QTs (X.blk s H scope (compEnvC scope cl C X.env) fp) E ifs tt mt)
    (he : ∀ (s : Shared) (H : Hp) (C : Addr) (cl : List (Str × Addr)) (fp : List Addr), QE (X.blk s H scope (compEnvC scope cl C X.env) fp) E g1 elt te me) (hs : ∀ x, foldedSetIterable iter X.env x = pure x := by intro _; rfl) (s0 : Shared) (H0 : Hp) :
    QE X E false (.ListComp elt [⟨tg, iter, ifs, 0⟩] scope pos) (tLc wi g tt te vs) (mLc mi mg mt me vs) := by
  subst hvs
  exact ⟨pe_lc hc hN hi.pi ok (fun s H C cl fp => (hg s H C cl fp).pg) (fun s H C cl fp => (ht s H C cl fp).pts) (fun s H C cl fp => (he s H C cl fp).pe) hs,
    sim_lc hi.sim (hg s0 H0 0 [] []).sim (ht s0 H0 0 [] []).sim (he s0 H0 0 [] []).sim⟩
theorem qs_setLc {io : List Nat} {i : Nat} {y : Str} {py spos : Pos} {elt tg iter : Expr} {ifs : List Expr} {scope : Scope} {own : List (Str × Nat)} {wi : TI} {mi : MI} {g : TG} {mg : MG} {tt : TT} {mt : MT} {te : TE} {me : MEx} {g1 : Bool} {vs : List Nat} (hvs : own.map (·.2) = vs) (hc : X.calm = true) (hN : X.N.Nodup) (hy : X.N[i]? = some y) (hyl : X.env.scope.names.lookup y = some .local)
    (hsw : swapsWith (.ListComp elt [⟨tg, iter, ifs, 0⟩] scope pos) (some (.Name y py)) spos.line X.env = pure true) (hi : QI X E tg iter wi mi) (ok : BlkOk X.N X.env.scope scope own)
    (hg : ∀ (s : Shared) (H : Hp) (C : Addr) (cl : List (Str × Addr)) (fp : List Addr), QG (X.blk s H scope (compEnvC scope cl C X.env) fp) (notOwn vs) tg g mg) (ht : ∀ (s : Shared) (H : Hp) (C : Addr) (cl : List (Str × Addr)) (fp : List Addr), QTs (X.blk s H scope (compEnvC scope cl C X.env) fp) E ifs tt mt)
    (he : ∀ (s : Shared) (H : Hp) (C : Addr) (cl : List (Str × Addr)) (fp : List Addr), QE (X.blk s H scope (compEnvC scope cl C X.env) fp) E g1 elt te me) (s0 : Shared) (H0 : Hp) (hio : inIo io i = false := by rfl) (hs : ∀ x, foldedSetIterable iter X.env x = pure x := by intro _; rfl) :
    QS X E io (.Assign [.Name y py] (.ListComp elt [⟨tg, iter, ifs, 0⟩] scope pos) spos) (tAsg (tLc wi g tt te vs) (gName i)) (mAsg (mLc mi mg mt me vs) (mgName i)) := by
  subst hvs
  exact ⟨ps_setLc hc hN hy hyl hsw hi.pi ok (fun s H C cl fp => (hg s H C cl fp).pg) (fun s H C cl fp => (ht s H C cl fp).pts) (fun s H C cl fp => (he s H C cl fp).pe) hs,
    sim_asg (sim_lc hi.sim (hg s0 H0 0 [] []).sim (ht s0 H0 0 [] []).sim (he s0 H0 0 [] []).sim) (sim_gname hio)⟩
def mAug (i : Nat) (f : Int → Int → Int) (m : MP) : MS := fun ρ => match ρ[i]?, m ρ with
  | some (some (.d (.int x))), some (.d (.int y)) => .ok (.next (ρ.set i (some (.d (.int (f x y))))))
  | _, _ => .bad
def opInsert : List T → List T → Option (T × List T) := fun ts us => match us with
  | [.d (.int i), u] => if decide (ts.length < sLine ∧ 0 ≤ i ∧ i < 2 ^ 63) = true then some (.d .none, ts.take i.toNat ++ [u] ++ ts.drop i.toNat) else none
  | _ => none
theorem RpAll.split {K : PySem.W.Frag} {F : Addr → Prop} {H : Hp} : ∀ {vs : List V} {ts : List T} {A : List Addr} (n : Nat), RpAll K F H vs ts A → ∃ B C, RpAll K F H (vs.take n) (ts.take n) B ∧ RpAll K F H (vs.drop n) (ts.drop n) C ∧ ∀ a, B.count a + C.count a = A.count a
  | _, _, A, 0, h => ⟨[], A, .nil, h, fun a => by simp⟩
  | _, _, _, _ + 1, .nil => ⟨[], [], .nil, .nil, fun a => by simp⟩
  | _, _, _, n + 1, .cons (A := A1) x r => by
    obtain ⟨B, C, h1, h2, h3⟩ := r.split n
    exact ⟨A1 ++ B, C, .cons x h1, h2, fun a => by have := h3 a; rw [List.count_append, List.count_append]; omega⟩
end
theorem only_rd {K : PySem.W.Frag} {H : Hp} {a : Addr} {vs : List V} (h : Only H) (s : SqL K H a vs) : RdL K H a vs := by
  rcases s with (s | ⟨o, s⟩) | s
  · rcases h a with z | ⟨o, xs, z⟩ <;> (rw [s] at z; cases z)
  · exact .inl ⟨o, s⟩
  · exact .inr s
theorem ints_fz {K : PySem.W.Frag} {F : Addr → Prop} {H : Hp} : ∀ ns : List Int, FzAll K F H (ns.map V.int) (ns.map PyData.int)
  | [] => .nil
  | _ :: r => .cons (.int _) (ints_fz r)
abbrev scr (ns : List Int) : T := .rd (ns.map PyData.int)
theorem law_sp {K : PySem.W.Frag} {rz : Bool} {cl : Str → Option Addr} {m : List T → R (T × List T)} {H : Hp} {a : Addr} {ns : List Int} (hO : Only H) (hS : SqL K H a (ns.map V.int)) (h : Then (m [scr ns]) (fun r => r.1 = .d (.bool true)) (fun _ => False)) :
    spT K rz cl 1 [] m [.ref a] H (fun v _ => v = .bl true) (fun _ _ _ => False) := by
  refine ⟨[scr ns], fun _ => True, [], rfl, fun _ => by simp, .cons (A := []) (B := []) (.rd (only_rd hO hS) (ints_fz ns)) .nil, ?_⟩
  refine h.mono (fun r e => ?_) fun _ z => z.elim
  intro v H' A' _ _ _ _ rr
  cases rr with
  | cons x _ =>
    rw [e] at x
    exact Rp.b x
end L3
namespace L3
open PySem PySem.Spec PyProof.Rows L2
theorem bt_len : bootBuiltins "len" = some (.builtin "len") := by decide +kernel
theorem bt_abs : bootBuiltins "abs" = some (.builtin "abs") := by decide +kernel
theorem bt_max : bootBuiltins "max" = some (.builtin "max") := by decide +kernel
theorem bt_min : bootBuiltins "min" = some (.builtin "min") := by decide +kernel
theorem bt_int : bootBuiltins "int" = some (.type "int") := by decide +kernel
theorem bt_bool : bootBuiltins "bool" = some (.type "bool") := by decide +kernel
theorem bt_list : bootBuiltins "list" = some (.type "list") := by decide +kernel
theorem bt_tuple : bootBuiltins "tuple" = some (.type "tuple") := by decide +kernel
section
variable {K : PySem.W.Frag}
theorem opSub_v : OpV K (rI (fun _ _ => True) fun i j => .int (i - j)) opSub := opI2_v (fun _ _ _ => trivial) fun _ _ _ _ => .int _
theorem opMulI_v : OpV K (rI (fun i j => mulOk i j = true) fun i j => .int (i * j)) opMulI := opI2_v (fun _ _ h => h) fun _ _ _ _ => .int _
theorem opMod_v : OpV K (rI (fun i j => modOk i j = true) fun i j => .int (i.fmod j)) opMod := opI2_v (fun _ _ h => h) fun _ _ _ _ => .int _
theorem opFdiv_v : OpV K (rI (fun i j => divOk i j = true) fun i j => .int (i.fdiv j)) opFdiv := opI2_v (fun _ _ h => h) fun _ _ _ _ => .int _
theorem opPow_v : OpV K (rI (fun i j => powOk i j = true) fun i j => .int (i ^ j.toNat)) opPow := opI2_v (fun _ _ h => h) fun _ _ _ _ => .int _
theorem opLt_v : OpV K (rI (fun _ _ => True) fun i j => .bl (decide (i < j))) opLt := opI2_v (fun _ _ _ => trivial) fun _ _ _ _ => .bl _
theorem opGt_v : OpV K (rI (fun _ _ => True) fun i j => .bl (decide (j < i))) opGt := opI2_v (fun _ _ _ => trivial) fun _ _ _ _ => .bl _
end
section
variable {X : Cx}
theorem call_lenA : CallR X (.builtin "len") (rLen X.K) := call_len
theorem call_absA : CallR X (.builtin "abs") rAbs := call_abs
theorem call_max2A (hc : X.calm = true) : CallR X (.builtin "max") rMax2 := call_max2 hc
theorem call_min2A (hc : X.calm = true) : CallR X (.builtin "min") rMin2 := call_min2 hc
theorem call_listOf : CallR X (.type "list") (rListOf X.K) := call_list_of
def mPar (i j : Nat) (m : MA) : MS := fun ρ => (m ρ).bind fun r => match r.1 with
  | [t, u] => .ok (.next ((r.2.set i (some t)).set j (some u)))
  | _ => .bad
variable {E : Str → Hp → Prop} {pos : Pos}
theorem qs_par {io : List Nat} {i j : Nat} {x y : Str} {a b : Expr} {ta : TA} {m : MA} {g : Bool} {px py pt : Pos} {kt k2 pt2} (hc : X.calm = true) (hN : X.N.Nodup) (ha : QA X E g [a, b] ta m) (hi : X.N[i]? = some x := by rfl) (hj : X.N[j]? = some y := by rfl) (hij : i ≠ j := by decide)
    (hx : X.env.scope.names.lookup x = some .local := by rfl) (hy : X.env.scope.names.lookup y = some .local := by rfl)
    (hw : swappedStores [.Tuple [.Name x px, .Name y py] kt pt] (.Tuple [a, b] k2 pt2) X.env = pure (some [x, y]) := by rfl)
    (hio : inIo io i = false := by rfl) (hjo : inIo io j = false := by rfl)
    (hs : swapsWithSole [.Tuple [.Name x px, .Name y py] kt pt] (.Tuple [a, b] k2 pt2) pos.line X.env = pure false := by rfl) :
    QS X E io (.Assign [.Tuple [.Name x px, .Name y py] kt pt] (.Tuple [a, b] k2 pt2) pos) (tPar i j ta) (mPar i j m) := by
  refine ⟨ps_par hc hN hi hj hij hx hy ha.pa hw hs, fun c H tv td σ ρ hl st D q => ?_⟩
  unfold mPar at q
  rw [then_bind] at q
  refine ha.sim c H tv td σ ρ hl st _ (q.imp ?_)
  rintro ⟨ts, ρ1⟩ q1 vs H1 _ hvs st1
  dsimp only at q1 hvs st1
  split at q1
  · rename_i t u
    match vs, hvs, st1 with
    | [v, w], _, st1 =>
      have st2 : StR X.K c H1 ((some w :: tv) ++ σ.set i (some v)) ((some u :: td) ++ ρ1.set i (some t)) := StR.store (tv := some w :: tv) (td := some u :: td) (by simp [hl]) st1
      have st3 := StR.store (i := j) hl st2
      exact ⟨v, w, rfl, q1 _ H1 ((SameP.set hio).trans (SameP.set hjo)).toIo st3⟩
  · exact q1.elim
def dropIo (m : List T → R (T × List T)) : List T → R (T × List T) := fun ts => (m ts).bind fun r => .ok (r.1, [])
theorem spT_drop {K : PySem.W.Frag} {rz : Bool} {cl : Str → Option Addr} {n : Nat} {io : List Nat} {m : List T → R (T × List T)} {vs : List V} {H : Hp} {Q : VK} {Ek : XK} (h : spT K rz cl n [] (dropIo m) vs H Q Ek) : spT K rz cl n io m vs H Q Ek := by
  obtain ⟨ts, F, A, h1, h2, h3, h4⟩ := h
  refine ⟨ts, F, A, h1, h2, h3, ?_⟩
  unfold dropIo at h4
  rw [then_bind] at h4
  refine h4.imp fun r q v H' A' u ow kf same rr => ?_
  cases rr with
  | cons x rest =>
    rename_i A1 A2
    have hle : ∀ a, A1.count a ≤ (A1 ++ A2).count a := fun a => by rw [List.count_append]; omega
    refine q v H' A1 (fun a => Nat.le_trans (hle a) (u a)) (fun a ha => ow a (List.mem_append_left _ ha)) kf (fun _ e a o z => kf.keep a o z (by rw [e]; simp)) ?_
    have m0 : Mono (fun a => (F a ∨ H a = none ∨ a ∈ A) ∧ a ∉ A1 ++ A2) (fun a => (F a ∨ H a = none ∨ a ∈ A) ∧ a ∉ A1) H' H' := .sub fun a _ ⟨p, n⟩ => ⟨p, fun z => n (List.mem_append_left _ z)⟩
    have := RpAll.cons (x.mono m0 fun _ _ => rfl) (RpAll.nil (K := K) (F := fun a => (F a ∨ H a = none ∨ a ∈ A) ∧ a ∉ A1) (H := H'))
    rwa [List.append_nil] at this
theorem fn_drop {P : Program} {w : World} {K : PySem.W.Frag} {mg : Str → Option Value} {base : Heap} {CX : CXT} {k : Nat} {f : Addr} {fd : FuncData} {ps : List Str} {rz : Bool} {cl : Str → Option Addr} {n : Nat} {io : List Nat} {m : List T → R (T × List T)} (F : FnOk P w K mg base CX k f fd ps (spT K rz cl n io m)) :
    FnOk P w K mg base CX k f fd ps (spT K rz cl n [] (dropIo m)) := F.imp fun _ _ _ _ => spT_drop
end
end L3
namespace L3
open PySem PySem.Spec PyProof.Rows L2
def teM (K : PySem.W.Frag) (E : Str → Hp → Prop) (g : Bool) (m : MEx) : TE := fun σ H Q => ∃ (c : C0) (tv : List (Option V)) (td ρ : Env), tv.length = td.length ∧ StR K c H (tv ++ σ) (td ++ ρ) ∧
  Then (m ρ) (fun r => ∀ v H', (g = true → Same H H') → StR K c H' (some v :: (tv ++ σ)) (some r.1 :: (td ++ r.2)) → Q v H') (fun x => ∀ H', KeepC c H' → E x H')
def ttM (K : PySem.W.Frag) (E : Str → Hp → Prop) (m : MT) : TT := fun σ H Q => ∃ (c : C0) (tv : List (Option V)) (td ρ : Env), tv.length = td.length ∧ StR K c H (tv ++ σ) (td ++ ρ) ∧
  Then (m ρ) (fun r => ∀ H', StR K c H' (tv ++ σ) (td ++ r.2) → Q r.1 H') (fun x => ∀ H', KeepC c H' → E x H')
def tgM (K : PySem.W.Frag) (pr : Nat → Bool) (m : MG) : TG := fun v σ H Q => ∃ (c : C0) (tv : List (Option V)) (td ρ ρ' : Env) (t : T), tv.length = td.length ∧ StR K c H (some v :: (tv ++ σ)) (some t :: (td ++ ρ)) ∧ m t ρ = some ρ' ∧
  ∀ σ' H', SameP pr σ σ' → StR K c H' (tv ++ σ') (td ++ ρ') → Q σ' H'
section
variable {X : Cx} {E : Str → Hp → Prop} {pos : Pos}
theorem QE.can {g : Bool} {e : Expr} {te : TE} {m : MEx} (h : QE X E g e te m) : QE X E g e (teM X.K E g m) m :=
  ⟨⟨fun pins s σ H Q I w => h.pe.run pins s σ H Q I (let ⟨c, tv, td, ρ, hl, st, q⟩ := w; h.sim c H tv td σ ρ hl st Q q)⟩, fun c H tv td σ ρ hl st Q q => ⟨c, tv, td, ρ, hl, st, q⟩⟩
theorem QTs.can {es : List Expr} {tt : TT} {m : MT} (h : QTs X E es tt m) : QTs X E es (ttM X.K E m) m :=
  ⟨⟨fun pins s σ H Q I w => h.pts.run pins s σ H Q I (let ⟨c, tv, td, ρ, hl, st, q⟩ := w; h.sim c H tv td σ ρ hl st Q q)⟩, fun c H tv td σ ρ hl st Q q => ⟨c, tv, td, ρ, hl, st, q⟩⟩
theorem QG.can {pr : Nat → Bool} {e : Expr} {tg : TG} {m : MG} (h : QG X pr e tg m) : QG X pr e (tgM X.K pr m) m :=
  ⟨⟨fun pins s σ H v u Q I r w => h.pg.run pins s σ H v u Q I r (let ⟨c, tv, td, ρ, ρ', t, hl, st, e, q⟩ := w; h.sim c H tv td σ ρ ρ' v t hl st e Q q)⟩, fun c H tv td σ ρ ρ' v t hl st e Q q => ⟨c, tv, td, ρ, ρ', t, hl, st, e, q⟩⟩
theorem qe_lcC {elt tg iter : Expr} {ifs : List Expr} {scope : Scope} {own : List (Str × Nat)} {wi : TI} {mi : MI} {mg : MG} {mt : MT} {me : MEx} {g1 : Bool} {vs : List Nat} (hvs : own.map (·.2) = vs) (hc : X.calm = true) (hN : X.N.Nodup) (hi : QI X E tg iter wi mi) (ok : BlkOk X.N X.env.scope scope own)
    (hg : ∀ (s : Shared) (H : Hp) (C : Addr) (cl : List (Str × Addr)) (fp : List Addr), ∃ g, QG (X.blk s H scope (compEnvC scope cl C X.env) fp) (notOwn vs) tg g mg) (ht : ∀ (s : Shared) (H : Hp) (C : Addr) (cl : List (Str × Addr)) (fp : List Addr), ∃ tt, QTs (X.blk s H scope (compEnvC scope cl C X.env) fp) E ifs tt mt)
    (he : ∀ (s : Shared) (H : Hp) (C : Addr) (cl : List (Str × Addr)) (fp : List Addr), ∃ te, QE (X.blk s H scope (compEnvC scope cl C X.env) fp) E g1 elt te me) (s0 : Shared) (H0 : Hp) (hs : ∀ x, foldedSetIterable iter X.env x = pure x := by intro _; rfl) :
    QE X E false (.ListComp elt [⟨tg, iter, ifs, 0⟩] scope pos) (tLc wi (tgM X.K (notOwn vs) mg) (ttM X.K E mt) (teM X.K E g1 me) vs) (mLc mi mg mt me vs) :=
  qe_lc hvs hc hN hi ok (fun s H C cl fp => let ⟨_, h⟩ := hg s H C cl fp; h.can) (fun s H C cl fp => let ⟨_, h⟩ := ht s H C cl fp; h.can) (fun s H C cl fp => let ⟨_, h⟩ := he s H C cl fp; h.can) hs s0 H0
theorem qs_setLcC {io : List Nat} {i : Nat} {y : Str} {py spos : Pos} {elt tg iter : Expr} {ifs : List Expr} {scope : Scope} {own : List (Str × Nat)} {wi : TI} {mi : MI} {mg : MG} {mt : MT} {me : MEx} {g1 : Bool} {vs : List Nat} (hvs : own.map (·.2) = vs) (hc : X.calm = true) (hN : X.N.Nodup) (hy : X.N[i]? = some y) (hyl : X.env.scope.names.lookup y = some .local)
    (hsw : swapsWith (.ListComp elt [⟨tg, iter, ifs, 0⟩] scope pos) (some (.Name y py)) spos.line X.env = pure true) (hi : QI X E tg iter wi mi) (ok : BlkOk X.N X.env.scope scope own)
    (hg : ∀ (s : Shared) (H : Hp) (C : Addr) (cl : List (Str × Addr)) (fp : List Addr), ∃ g, QG (X.blk s H scope (compEnvC scope cl C X.env) fp) (notOwn vs) tg g mg) (ht : ∀ (s : Shared) (H : Hp) (C : Addr) (cl : List (Str × Addr)) (fp : List Addr), ∃ tt, QTs (X.blk s H scope (compEnvC scope cl C X.env) fp) E ifs tt mt)
    (he : ∀ (s : Shared) (H : Hp) (C : Addr) (cl : List (Str × Addr)) (fp : List Addr), ∃ te, QE (X.blk s H scope (compEnvC scope cl C X.env) fp) E g1 elt te me) (s0 : Shared) (H0 : Hp) (hio : inIo io i = false := by rfl) (hs : ∀ x, foldedSetIterable iter X.env x = pure x := by intro _; rfl) :
    QS X E io (.Assign [.Name y py] (.ListComp elt [⟨tg, iter, ifs, 0⟩] scope pos) spos) (tAsg (tLc wi (tgM X.K (notOwn vs) mg) (ttM X.K E mt) (teM X.K E g1 me) vs) (gName i)) (mAsg (mLc mi mg mt me vs) (mgName i)) :=
  qs_setLc hvs hc hN hy hyl hsw hi ok (fun s H C cl fp => let ⟨_, h⟩ := hg s H C cl fp; h.can) (fun s H C cl fp => let ⟨_, h⟩ := ht s H C cl fp; h.can) (fun s H C cl fp => let ⟨_, h⟩ := he s H C cl fp; h.can) s0 H0 hio hs
end
end L3
namespace L3
open PySem PySem.Spec PyProof.Rows L2
def allInts : List PyData → Option (List Int)
  | [] => some []
  | .int i :: r => (allInts r).map fun ns => i :: ns
  | _ => none
def opLtA : T → T → R RV
  | .d (.int i), .d (.int j) => .ok (.v (.d (.bool (decide (i < j)))))
  | .d (.tuple xs), .d (.tuple ys) => (match allInts xs, allInts ys with
    | some ns, some ms => .ok (.v (.d (.bool (HT.lexLt ns ms))))
    | _, _ => .bad)
  | _, _ => .bad
def opRevL : T → R RV
  | .d (.list ds) => .ok (.nl ds.reverse)
  | _ => .bad
theorem FzAll.snoc {K : PySem.W.Frag} {F : Addr → Prop} {H : Hp} {vs : List V} {xs : List PyData} {v : V} {x : PyData} (h : FzAll K F H vs xs) (y : Fz K F H v x) : FzAll K F H (vs ++ [v]) (xs ++ [x]) := h.append (.cons y .nil)
theorem FzAll.rev {K : PySem.W.Frag} {F : Addr → Prop} {H : Hp} : ∀ {vs : List V} {xs : List PyData}, FzAll K F H vs xs → FzAll K F H vs.reverse xs.reverse
  | _, _, .nil => .nil
  | _, _, .cons a r => by
    rw [List.reverse_cons, List.reverse_cons]
    exact r.rev.snoc a
section
variable {X : Cx} {E : Str → Hp → Prop} {e : Expr} {te : TE} {m : MEx} {g : Bool} {pos : Pos}
def opSlA (t : T) (lo hi : Option Int) : Option RV := match t with
  | .d (.list ds) => some (.nl (cutG ds lo hi))
  | .ol ts => (T.allD ts).map fun ds => .nl (cutG ds lo hi)
  | _ => none
def mSlE (m : MEx) (ml mh : MO) : MEx := fun ρ => (m ρ).bind fun r => (ofO (ml r.2)).bind fun lo => (ofO (mh r.2)).bind fun hi => (ofO (opSlA r.1 lo hi)).bind fun z => .ok (z.toT, r.2)
end
end L3
namespace L3
open PySem L2
end L3
namespace L3
open PySem PySem.Spec PyProof.Rows L2
def opIsB : T → T → R RV
  | .d (.bool a), .d (.bool b) => .ok (.v (.d (.bool (decide (a = b)))))
  | _, _ => .bad
def opNotB : T → T → R RV
  | .d (.bool a), .d (.bool b) => .ok (.v (.d (.bool (!decide (a = b)))))
  | _, _ => .bad
end L3
namespace L3
open PySem PySem.Spec PyProof.Rows L2
def mRaise (x : Str) : MS := fun _ => .exc x
theorem EX.mk {K : PySem.W.Frag} {E : XK} {x : Str} {C : Addr} {H : Hp} (h : EX (clK K) E x H) (e : clK K x = some C) : E (.ref C) none H := h C e
def mTryK (xs : List Str) (j : Nat) (mb : MS) : MS := fun ρ => match mb ρ with
  | .exc x => if xs.contains x then .ok (.next ((List.replicate ρ.length none).set j (some (.ex x)))) else .bad
  | r => r
section
variable {X : Cx} {x n y : Str} {C : Addr} {i j : Nat} {body : List Stmt} {np pos pos' p1 p2 p3 : Pos} {mb : MS} {xs : List Str} {E : Str → Hp → Prop}
end
end L3
namespace L3
open PySem PySem.Spec PyProof.Rows L2
abbrev XTab := List (Str × Bool)
def exIs (tab : XTab) (t : T) : Option PyData := match t with
  | .ex x => (tab.lookup x).map PyData.bool
  | _ => none
def pIsX (tab : XTab) (m : MP) : MP := fun ρ => (m ρ).bind fun t => (exIs tab t).map T.d
def mIsXT (tab : XTab) (m : MP) : MEx := fun ρ => (ofO ((m ρ).bind (exIs tab))).bind fun d => .ok (.d d, ρ)
def TabOk (K : PySem.W.Frag) (tab : XTab) (u : Value) : Prop := ∀ z b, tab.lookup z = some b → ∀ D, clK K z = some D → PySem.W.kitOne K (.ref D) u = some b
def TabOkT (K : PySem.W.Frag) (tab : XTab) (us : List Value) : Prop := ∀ z b, tab.lookup z = some b → ∀ D, clK K z = some D → PySem.W.kitAny K (.ref D) us = some b
theorem TabOk.one {K : PySem.W.Frag} {z : Str} {b : Bool} {u : Value} {C : Addr} (h : clK K z = some C) (k : PySem.W.kitOne K (.ref C) u = some b) : TabOk K [(z, b)] u := fun z' b' e D hD => by
  rw [List.lookup_cons] at e
  by_cases hz : z' = z
  · subst hz
    rw [beq_self_eq_true] at e
    cases e
    rw [h] at hD
    cases hD
    exact k
  · rw [beq_eq_false_iff_ne.mpr hz] at e
    cases e
theorem TabOkT.one {K : PySem.W.Frag} {z : Str} {b : Bool} {us : List Value} {C : Addr} (h : clK K z = some C) (k : PySem.W.kitAny K (.ref C) us = some b) : TabOkT K [(z, b)] us := fun z' b' e D hD => by
  rw [List.lookup_cons] at e
  by_cases hz : z' = z
  · subst hz
    rw [beq_self_eq_true] at e
    cases e
    rw [h] at hD
    cases hD
    exact k
  · rw [beq_eq_false_iff_ne.mpr hz] at e
    cases e
section
variable {X : Cx} {E : Str → Hp → Prop} {e : Expr} {te : TE} {ma : MP} {p p2 pos : Pos} {y : Str} {tab : XTab} {C : Addr} {n : String} {Cs : List Addr}
theorem ex_at {K : PySem.W.Frag} {F : Addr → Prop} {H : Hp} {v : V} {t : T} {A : List Addr} {d : PyData} (h : Rp K F H v t A) (e : exIs tab t = some d) : ∃ a D z b, v = .ref a ∧ H a = some (ExK D a) ∧ ExcC K D ∧ clK K z = some D ∧ tab.lookup z = some b ∧ d = .bool b := by
  unfold exIs at e
  split at e
  · obtain ⟨b, e1, e2⟩ := Option.map_eq_some_iff.mp e
    subst e2
    cases h with
    | ex h1 h2 h3 => exact ⟨_, _, _, b, rfl, h1, h3, h2, e1, rfl⟩
  · cases e
end
end L3
namespace L3
open PySem PySem.Spec PyProof.Rows L2
end L3
namespace L2
open PySem PySem.Spec PyProof.Rows
section
variable {X : Cx}
end
end L2
namespace L2
open PySem PySem.Spec PyProof.Rows
section
variable {X : Cx} {es : List Expr} {e : Expr} {t t2 : TA} {k : Nat} {p1 apos cpos : Pos} {r : V → List V → Hp → VK → Prop}
end
end L2
namespace L3
open PySem PySem.Spec PyProof.Rows L2
def cntD (ds : List PyData) (x : PyData) : R PyData := guard (SeqAt.shaped (.tuple ds) && SeqAt.shaped x) (.ok (.int (ds.countP fun z => PyData.eqv z x : Nat)))
def mTupCount (ma : MA) (mp : MP) : MEx := fun ρ => (ma ρ).bind fun r => match T.allD r.1, mp r.2 with
  | some ds, some (.d x) => (cntD ds x).bind fun n => .ok (.d n, r.2)
  | _, _ => .bad
end L3
namespace L3
open PySem PySem.Spec PyProof.Rows L2
def mEqNil (f : T → T → R RV) (mp : MP) : MEx := fun ρ => match mp ρ with
  | some x => (match f x (.d (.list [])) with
    | .ok (.v (.d (.bool b))) => .ok (.d (.bool b), ρ)
    | _ => .bad)
  | none => .bad
end L3
namespace L3
open PySem PySem.Spec PyProof.Rows L2
end L3
namespace L3
open PySem PySem.Spec PyProof.Rows L2
def mgLst (n : Nat) (r : MGs) : MG := fun t ρ => match t with
  | .d (.list ds) => if ds.length = n then r (ds.map T.d) ρ else none
  | _ => none
end L3
namespace L3
open PySem PySem.Spec PyProof.Rows L2
@[simp] theorem bind_okS {α β : Type} {a : α} {f : α → R β} : (R.ok a).bind f = f a := (rfl)
@[simp] theorem bind_badS {α β : Type} {f : α → R β} : (R.bad : R α).bind f = .bad := (rfl)
@[simp] theorem bind_excS {α β : Type} {f : α → R β} {c : Str} : (R.exc c : R α).bind f = .exc c := (rfl)
@[simp] theorem then_okS {α : Type} {a : α} {P : α → Prop} {E : Str → Prop} : Then (.ok a) P E ↔ P a := (Iff.rfl)
@[simp] theorem then_badS {α : Type} {P : α → Prop} {E : Str → Prop} : Then (.bad : R α) P E ↔ False := (Iff.rfl)
@[simp] theorem then_excS {α : Type} {c : Str} {P : α → Prop} {E : Str → Prop} : Then (.exc c : R α) P E ↔ E c := (Iff.rfl)
@[simp] theorem ofO_some {α : Type} {a : α} : ofO (some a) = .ok a := (rfl)
@[simp] theorem ofO_none {α : Type} : ofO (none : Option α) = .bad := (rfl)
@[simp] theorem guard_t {α : Type} {r : R α} : guard true r = r := (rfl)
@[simp] theorem guard_f {α : Type} {r : R α} : guard false r = .bad := (rfl)
@[simp] theorem nx_ok {α : Type} {a : α} : (R.ok a).nx = .ok a := (rfl)
@[simp] theorem nx_bad {α : Type} : (R.bad : R α).nx = .bad := (rfl)
theorem then_nx {α : Type} {r : R α} {P : α → Prop} {E : Str → Prop} (h : Then r P (fun _ => False)) : Then r.nx P E := by
  cases r with
  | ok a => exact h
  | exc c => exact h.elim
  | bad => exact h
theorem then_bindI {α β : Type} {r : R α} {f : α → R β} {P : α → Prop} {P' : β → Prop} {E : Str → Prop} (h : Then r P E) (k : ∀ a, P a → Then (f a) P' E) : Then (r.bind f) P' E := then_bind.mpr (h.imp k)
abbrev En := L3.Env
@[simp] theorem bind_assocS {α β γ : Type} {r : R α} {f : α → R β} {g : β → R γ} : (r.bind f).bind g = r.bind fun a => (f a).bind g := by cases r <;> rfl
@[simp] theorem nx_bind {α β : Type} {r : R α} {f : α → R β} : (r.bind f).nx = r.nx.bind fun a => (f a).nx := by cases r <;> rfl
@[simp] theorem e_mC {x : PyData} {ρ : En} : mC x ρ = .ok (.d x, ρ) := (rfl)
@[simp] theorem e_pC {x : PyData} {ρ : En} : pC x ρ = some (.d x) := (rfl)
def liftK (ρ : En) : Option T → R (T × En)
  | some (.d x) => .ok (.d x, ρ)
  | _ => .bad
@[simp] theorem e_lift {m : MP} {ρ : En} : mLift m ρ = liftK ρ (m ρ) := (rfl)
@[simp] theorem e_liftK {ρ : En} {x : PyData} : liftK ρ (some (.d x)) = .ok (.d x, ρ) := (rfl)
def pvK : Option (Option T) → Option T
  | some (some t) => some t
  | _ => none
@[simp] theorem e_pVar {i : Nat} {ρ : En} : pVar i ρ = pvK ρ[i]? := (rfl)
@[simp] theorem e_pvK {t : T} : pvK (some (some t)) = some t := (rfl)
def varK2 (i : Nat) (ρ : En) : Option PyData → R (T × En)
  | some x => .ok (.d x, ρ.set i (some (.d x)))
  | none => .bad
def varK (i : Nat) (ρ : En) : Option (Option T) → R (T × En)
  | some (some (.d x)) => .ok (.d x, ρ)
  | some (some t) => varK2 i ρ t.fz
  | _ => .bad
@[simp] theorem e_mVar {i : Nat} {ρ : En} : mVar i ρ = varK i ρ ρ[i]? := by
  unfold mVar
  generalize ρ[i]? = o
  cases o with
  | none => rfl
  | some o =>
    cases o with
    | none => rfl
    | some t => cases t <;> rfl
@[simp] theorem e_varK {i : Nat} {ρ : En} {x : PyData} : varK i ρ (some (some (.d x))) = .ok (.d x, ρ) := (rfl)
@[simp] theorem e_varKo {i : Nat} {ρ : En} {ts : List T} : varK i ρ (some (some (.ol ts))) = varK2 i ρ (T.fz (.ol ts)) := (rfl)
@[simp] theorem e_varKt {i : Nat} {ρ : En} {ts : List T} : varK i ρ (some (some (.ot ts))) = varK2 i ρ (T.fz (.ot ts)) := (rfl)
@[simp] theorem e_varK2 {i : Nat} {ρ : En} {x : PyData} : varK2 i ρ (some x) = .ok (.d x, ρ.set i (some (.d x))) := (rfl)
def moveK (i : Nat) (ρ : En) : Option (Option T) → R (T × En)
  | some (some t) => .ok (t, ρ.set i none)
  | _ => .bad
@[simp] theorem e_mMove {i : Nat} {ρ : En} : mMove i ρ = moveK i ρ ρ[i]? := (rfl)
@[simp] theorem e_moveK {i : Nat} {ρ : En} {t : T} : moveK i ρ (some (some t)) = .ok (t, ρ.set i none) := (rfl)
def rdK (ρ : En) : Option (Option T) → R (T × En)
  | some (some (.rd ds)) => .ok (.rd ds, ρ)
  | _ => .bad
@[simp] theorem e_mRd {i : Nat} {ρ : En} : mRd i ρ = rdK ρ ρ[i]? := (rfl)
@[simp] theorem e_rdK {ρ : En} {ds : List PyData} : rdK ρ (some (some (.rd ds))) = .ok (.rd ds, ρ) := (rfl)
@[simp] theorem e_pBin {op : T → T → R RV} {a b : MP} {ρ : En} : pBin op a b ρ = (a ρ).bind fun x => (b ρ).bind fun y => okV (op x y) := (rfl)
@[simp] theorem e_pUn {op : T → R RV} {a : MP} {ρ : En} : pUn op a ρ = (a ρ).bind fun x => okV (op x) := (rfl)
@[simp] theorem e_pNil {ρ : En} : pNil ρ = some [] := (rfl)
@[simp] theorem e_pCons {a : MP} {r : MPA} {ρ : En} : pCons a r ρ = (a ρ).bind fun x => (r ρ).bind fun y => some (x :: y) := (rfl)
@[simp] theorem e_pCallB {op : List T → R RV} {m : MPA} {ρ : En} : pCallB op m ρ = (m ρ).bind fun ts => okV (op ts) := (rfl)
@[simp] theorem e_pIsa {n : String} {m : MP} {ρ : En} : pIsa n m ρ = ((m ρ).bind (isaT n)).map fun b => .d (.bool b) := (rfl)
@[simp] theorem e_okV {t : T} : okV (.ok (.v t)) = some t := (rfl)
@[simp] theorem e_okVb : okV .bad = none := (rfl)
def toTK (ρ : En) (z : RV) : R (T × En) := .ok (z.toT, ρ)
@[simp] theorem e_toTK {ρ : En} {z : RV} : toTK ρ z = .ok (z.toT, ρ) := (rfl)
def binK2 (op : T → T → R RV) (x : T) (y : T × En) : R (T × En) := (op x y.1).bind (toTK y.2)
def binK (op : T → T → R RV) (b : MEx) (x : T × En) : R (T × En) := (b x.2).bind (binK2 op x.1)
@[simp] theorem e_mBin {op : T → T → R RV} {a b : MEx} {ρ : En} : mBin op a b ρ = (a ρ).bind (binK op b) := (rfl)
@[simp] theorem e_binK {op : T → T → R RV} {b : MEx} {x : T} {ρ : En} : binK op b (x, ρ) = (b ρ).bind (binK2 op x) := (rfl)
@[simp] theorem e_binK2 {op : T → T → R RV} {x y : T} {ρ : En} : binK2 op x (y, ρ) = (op x y).bind (toTK ρ) := (rfl)
def unK (op : T → R RV) (x : T × En) : R (T × En) := (op x.1).bind (toTK x.2)
@[simp] theorem e_mUn {op : T → R RV} {a : MEx} {ρ : En} : mUn op a ρ = (a ρ).bind (unK op) := (rfl)
@[simp] theorem e_unK {op : T → R RV} {x : T} {ρ : En} : unK op (x, ρ) = (op x).bind (toTK ρ) := (rfl)
@[simp] theorem e_toV {t : T} : (RV.v t).toT = t := (rfl)
@[simp] theorem e_toNl {ds : List PyData} : (RV.nl ds).toT = .ol (ds.map T.d) := (rfl)
@[simp] theorem e_toNt {ds : List PyData} : (RV.nt ds).toT = .d (.tuple ds) := (rfl)
@[simp] theorem e_mNil {ρ : En} : mNil ρ = .ok ([], ρ) := (rfl)
def consK2 (x : T) (y : List T × En) : R (List T × En) := .ok (x :: y.1, y.2)
def consK (r : MA) (x : T × En) : R (List T × En) := (r x.2).bind (consK2 x.1)
@[simp] theorem e_mCons {m : MEx} {r : MA} {ρ : En} : mCons m r ρ = (m ρ).bind (consK r) := (rfl)
@[simp] theorem e_consK {r : MA} {x : T} {ρ : En} : consK r (x, ρ) = (r ρ).bind (consK2 x) := (rfl)
@[simp] theorem e_consK2 {x : T} {ts : List T} {ρ : En} : consK2 x (ts, ρ) = .ok (x :: ts, ρ) := (rfl)
def mkTupK (ts : List T) : Option (List PyData) → T
  | some ds => .d (.tuple ds)
  | none => .ot ts
@[simp] theorem e_mkTup {ts : List T} : mkTup ts = mkTupK ts (T.allD ts) := (rfl)
@[simp] theorem e_mkTupK {ts : List T} {ds : List PyData} : mkTupK ts (some ds) = .d (.tuple ds) := (rfl)
@[simp] theorem e_mkTupN {ts : List T} : mkTupK ts none = .ot ts := (rfl)
def tupK (r : List T × En) : R (T × En) := .ok (mkTup r.1, r.2)
@[simp] theorem e_mTup {m : MA} {ρ : En} : mTup m ρ = (m ρ).bind tupK := (rfl)
@[simp] theorem e_tupK {ts : List T} {ρ : En} : tupK (ts, ρ) = .ok (mkTup ts, ρ) := (rfl)
def lstK (r : List T × En) : R (T × En) := .ok (.ol r.1, r.2)
@[simp] theorem e_mLst {m : MA} {ρ : En} : mLst m ρ = (m ρ).bind lstK := (rfl)
@[simp] theorem e_lstK {ts : List T} {ρ : En} : lstK (ts, ρ) = .ok (.ol ts, ρ) := (rfl)
def fzK2 (ρ : En) : Option PyData → R (T × En)
  | some x => .ok (.d x, ρ)
  | none => .bad
def fzK (r : T × En) : R (T × En) := fzK2 r.2 r.1.fz
@[simp] theorem e_mFz {m : MEx} {ρ : En} : mFz m ρ = (m ρ).bind fzK := (rfl)
@[simp] theorem e_fzK {t : T} {ρ : En} : fzK (t, ρ) = fzK2 ρ t.fz := (rfl)
@[simp] theorem e_fzK2 {x : PyData} {ρ : En} : fzK2 ρ (some x) = .ok (.d x, ρ) := (rfl)
def callBK (op : List T → R RV) (r : List T × En) : R (T × En) := (op r.1).bind (toTK r.2)
@[simp] theorem e_mCallB {op : List T → R RV} {m : MA} {ρ : En} : mCallB op m ρ = (m ρ).bind (callBK op) := (rfl)
@[simp] theorem e_callBK {op : List T → R RV} {ts : List T} {ρ : En} : callBK op (ts, ρ) = (op ts).bind (toTK ρ) := (rfl)
def testK (r : T × En) : R (Bool × En) := match r.1 with | .d (.bool b) => .ok (b, r.2) | _ => .bad
@[simp] theorem e_mTest {m : MEx} {ρ : En} : mTest m ρ = (m ρ).bind testK := (rfl)
@[simp] theorem e_testK {b : Bool} {ρ : En} : testK (.d (.bool b), ρ) = .ok (b, ρ) := (rfl)
def truthK (ρ : En) : Option Bool → R (Bool × En)
  | some b => .ok (b, ρ)
  | none => .bad
@[simp] theorem e_mTruth {m : MP} {ρ : En} : mTruth m ρ = truthK ρ ((m ρ).bind T.truth) := (rfl)
@[simp] theorem e_truthK {b : Bool} {ρ : En} : truthK ρ (some b) = .ok (b, ρ) := (rfl)
@[simp] theorem e_truthB {b : Bool} : T.truth (.d (.bool b)) = some b := (rfl)
@[simp] theorem e_truthI {b : Int} : T.truth (.d (.int b)) = some (b != 0) := (rfl)
@[simp] theorem e_truthN : T.truth (.d .none) = some false := (rfl)
@[simp] theorem e_truthL {ds : List PyData} : T.truth (.d (.list ds)) = some (!ds.isEmpty) := (rfl)
@[simp] theorem e_truthT {ds : List PyData} : T.truth (.d (.tuple ds)) = some (!ds.isEmpty) := (rfl)
def notK (r : Bool × En) : R (Bool × En) := .ok (!r.1, r.2)
@[simp] theorem e_mNot {m : MT} {ρ : En} : mNot m ρ = (m ρ).bind notK := (rfl)
@[simp] theorem e_notK {b : Bool} {ρ : En} : notK (b, ρ) = .ok (!b, ρ) := (rfl)
def andK (n : MT) (r : Bool × En) : R (Bool × En) := if r.1 = true then n r.2 else .ok (false, r.2)
@[simp] theorem e_mAnd {m n : MT} {ρ : En} : mAnd m n ρ = (m ρ).bind (andK n) := (rfl)
@[simp] theorem e_andK {n : MT} {b : Bool} {ρ : En} : andK n (b, ρ) = if b = true then n ρ else .ok (false, ρ) := (rfl)
def orK (n : MT) (r : Bool × En) : R (Bool × En) := if r.1 = true then .ok (true, r.2) else n r.2
@[simp] theorem e_mOr {m n : MT} {ρ : En} : mOr m n ρ = (m ρ).bind (orK n) := (rfl)
@[simp] theorem e_orK {n : MT} {b : Bool} {ρ : En} : orK n (b, ρ) = if b = true then .ok (true, ρ) else n ρ := (rfl)
def ifeK (a b : MEx) (r : Bool × En) : R (T × En) := if r.1 = true then a r.2 else b r.2
@[simp] theorem e_mIf {m : MT} {a b : MEx} {ρ : En} : mIf m a b ρ = (m ρ).bind (ifeK a b) := (rfl)
@[simp] theorem e_ifeK {a b : MEx} {x : Bool} {ρ : En} : ifeK a b (x, ρ) = if x = true then a ρ else b ρ := (rfl)
def andVK (n : MEx) (r : Bool × En) : R (T × En) := if r.1 = true then n r.2 else .ok (.d (.bool false), r.2)
@[simp] theorem e_mAndV {m n : MEx} {ρ : En} : mAndV m n ρ = (mTest m ρ).bind (andVK n) := (rfl)
@[simp] theorem e_andVK {n : MEx} {x : Bool} {ρ : En} : andVK n (x, ρ) = if x = true then n ρ else .ok (.d (.bool false), ρ) := (rfl)
def orVK (n : MEx) (r : Bool × En) : R (T × En) := if r.1 = true then .ok (.d (.bool true), r.2) else n r.2
@[simp] theorem e_mOrV {m n : MEx} {ρ : En} : mOrV m n ρ = (mTest m ρ).bind (orVK n) := (rfl)
@[simp] theorem e_orVK {n : MEx} {x : Bool} {ρ : En} : orVK n (x, ρ) = if x = true then .ok (.d (.bool true), ρ) else n ρ := (rfl)
def notVK (r : Bool × En) : R (T × En) := .ok (.d (.bool (!r.1)), r.2)
@[simp] theorem e_mNotV {m : MEx} {ρ : En} : mNotV m ρ = (mTest m ρ).bind notVK := (rfl)
@[simp] theorem e_notVK {x : Bool} {ρ : En} : notVK (x, ρ) = .ok (.d (.bool (!x)), ρ) := (rfl)
@[simp] theorem e_mNext {ρ : En} : mNext ρ = .ok (.next ρ) := (rfl)
@[simp] theorem e_mBrk {ρ : En} : mBrk ρ = .ok (.brk ρ) := (rfl)
@[simp] theorem e_mCont {ρ : En} : mCont ρ = .ok (.cont ρ) := (rfl)
@[simp] theorem e_mNever {ρ : En} : mNever ρ = .bad := (rfl)
def seqK (n : MS) : Out → R Out
  | .next ρ => n ρ
  | .ret t ρ => .ok (.ret t ρ)
  | .brk ρ => .ok (.brk ρ)
  | .cont ρ => .ok (.cont ρ)
@[simp] theorem e_mSeq {m n : MS} {ρ : En} : mSeq m n ρ = (m ρ).bind (seqK n) := by
  unfold mSeq
  congr 1
  funext o
  cases o <;> rfl
@[simp] theorem e_seqN {n : MS} {ρ : En} : seqK n (.next ρ) = n ρ := (rfl)
@[simp] theorem e_seqR {n : MS} {t : T} {ρ : En} : seqK n (.ret t ρ) = .ok (.ret t ρ) := (rfl)
@[simp] theorem e_seqB {n : MS} {ρ : En} : seqK n (.brk ρ) = .ok (.brk ρ) := (rfl)
@[simp] theorem e_seqC {n : MS} {ρ : En} : seqK n (.cont ρ) = .ok (.cont ρ) := (rfl)
def retK (r : T × En) : R Out := .ok (.ret r.1 r.2)
@[simp] theorem e_mRet {m : MEx} {ρ : En} : mRet m ρ = (m ρ).bind retK := (rfl)
@[simp] theorem e_retK {t : T} {ρ : En} : retK (t, ρ) = .ok (.ret t ρ) := (rfl)
def dropMK (r : T × En) : R Out := .ok (.next r.2)
@[simp] theorem e_mDrop {m : MEx} {ρ : En} : mDrop m ρ = (m ρ).bind dropMK := (rfl)
@[simp] theorem e_dropK {t : T} {ρ : En} : dropMK (t, ρ) = .ok (.next ρ) := (rfl)
def ifK (a b : MS) (r : Bool × En) : R Out := if r.1 = true then a r.2 else b r.2
@[simp] theorem e_mIfS {m : MT} {a b : MS} {ρ : En} : mIfS m a b ρ = (m ρ).bind (ifK a b) := (rfl)
@[simp] theorem e_ifK {a b : MS} {x : Bool} {ρ : En} : ifK a b (x, ρ) = if x = true then a ρ else b ρ := (rfl)
def nextK (ρ : En) : R Out := .ok (.next ρ)
@[simp] theorem e_nextK {ρ : En} : nextK ρ = .ok (.next ρ) := (rfl)
def asgK (g : MG) (r : T × En) : R Out := (ofO (g r.1 r.2)).bind nextK
@[simp] theorem e_mAsg {m : MEx} {g : MG} {ρ : En} : mAsg m g ρ = (m ρ).bind (asgK g) := (rfl)
@[simp] theorem e_asgK {g : MG} {t : T} {ρ : En} : asgK g (t, ρ) = (ofO (g t ρ)).bind nextK := (rfl)
@[simp] theorem e_mgName {i : Nat} {t : T} {ρ : En} : mgName i t ρ = some (ρ.set i (some t)) := (rfl)
@[simp] theorem e_mgNil {ρ : En} : mgNil [] ρ = some ρ := (rfl)
@[simp] theorem e_mgCons {g : MG} {r : MGs} {t : T} {ts : List T} {ρ : En} : mgCons g r (t :: ts) ρ = (g t ρ).bind fun ρ1 => r ts ρ1 := (rfl)
def gTupK (n : Nat) (r : MGs) (ρ : En) : Option (List T) → Option En
  | some ts => if ts.length = n then r ts ρ else none
  | none => none
@[simp] theorem e_mgTup {n : Nat} {r : MGs} {t : T} {ρ : En} : mgTup n r t ρ = gTupK n r ρ t.parts := (rfl)
@[simp] theorem e_gTupK {n : Nat} {r : MGs} {ts : List T} {ρ : En} : gTupK n r ρ (some ts) = if ts.length = n then r ts ρ else none := (rfl)
def plK : Option T → Option (List T)
  | some (.ol ts) => some ts
  | _ => none
@[simp] theorem e_plK {ts : List T} : plK (some (.ol ts)) = some ts := (rfl)
@[simp] theorem e_lstAt {p : List Int} {t : T} : lstAt p (some (some t)) = plK (T.at? p t) := (rfl)
def putPK (i : Nat) (p : List Int) (ts : List T) (ρ : En) : Option (Option T) → Option En
  | some (some t) => (T.put? p (.ol ts) t).map fun t' => ρ.set i (some t')
  | _ => none
@[simp] theorem e_putAt {i : Nat} {p : List Int} {ts : List T} {ρ : En} : putAt i p ts ρ = putPK i p ts ρ ρ[i]? := (rfl)
@[simp] theorem e_putK {i : Nat} {p : List Int} {ts : List T} {ρ : En} {t : T} : putPK i p ts ρ (some (some t)) = (T.put? p (.ol ts) t).map fun t' => ρ.set i (some t') := (rfl)
@[simp] theorem e_mgItem {i : Nat} {mp : ML} {mi : MP} {t : T} {ρ : En} : mgItem i mp mi t ρ = (mp ρ).bind fun p => ((mi ρ).bind T.int?).bind fun j => (lstAt p ρ[i]?).bind fun ts => (ixN ts.length j).bind fun k => putAt i p (ts.set k t) ρ := (rfl)
def parK (i j : Nat) (r : List T × En) : R Out := match r.1 with | [t, u] => .ok (.next ((r.2.set i (some t)).set j (some u))) | _ => .bad
@[simp] theorem e_mPar {i j : Nat} {m : MA} {ρ : En} : mPar i j m ρ = (m ρ).bind (parK i j) := (rfl)
@[simp] theorem e_parK {i j : Nat} {t u : T} {ρ : En} : parK i j ([t, u], ρ) = .ok (.next ((ρ.set i (some t)).set j (some u))) := (rfl)
def augK (i : Nat) (f : Int → Int → Int) (ρ : En) : Option (Option T) → Option T → R Out
  | some (some (.d (.int x))), some (.d (.int y)) => .ok (.next (ρ.set i (some (.d (.int (f x y))))))
  | _, _ => .bad
@[simp] theorem e_mAug {i : Nat} {f : Int → Int → Int} {m : MP} {ρ : En} : mAug i f m ρ = augK i f ρ ρ[i]? (m ρ) := (rfl)
@[simp] theorem e_augK {i : Nat} {f : Int → Int → Int} {x y : Int} {ρ : En} : augK i f ρ (some (some (.d (.int x)))) (some (.d (.int y))) = .ok (.next (ρ.set i (some (.d (.int (f x y)))))) := (rfl)
def forK (g : MG) (b : MS) (r : List T × En) : R Out := mLoop g b r.1 r.2
@[simp] theorem e_mFor {mi : MI} {g : MG} {b : MS} {ρ : En} : mFor mi g b ρ = (mi ρ).bind (forK g b) := (rfl)
@[simp] theorem e_forK {g : MG} {b : MS} {ts : List T} {ρ : En} : forK g b (ts, ρ) = mLoop g b ts ρ := (rfl)
def itK2 (ρ : En) (ts : List T) : R (List T × En) := .ok (ts, ρ)
@[simp] theorem e_itK2 {ρ : En} {ts : List T} : itK2 ρ ts = .ok (ts, ρ) := (rfl)
def itK (r : T × En) : R (List T × En) := (ofO (items? r.1)).bind (itK2 r.2)
def itTK (r : T × En) : R (List T × En) := (ofO (itemsT? r.1)).bind (itK2 r.2)
@[simp] theorem e_miL {m : MEx} {ρ : En} : miL m ρ = (m ρ).bind itK := (rfl)
@[simp] theorem e_miT {m : MEx} {ρ : En} : miT m ρ = (m ρ).bind itTK := (rfl)
@[simp] theorem e_itK {ds : List PyData} {ρ : En} : itK (.d (.list ds), ρ) = .ok (ds.map T.d, ρ) := (rfl)
@[simp] theorem e_itTK {ds : List PyData} {ρ : En} : itTK (.d (.tuple ds), ρ) = .ok (ds.map T.d, ρ) := (rfl)
def rg1 : List T × En → R (List T × En) := fun r => match r.1 with | [.d (.int j)] => guard (small62 j) (.ok (rangeItems 0 j, r.2)) | _ => .bad
def rg2 : List T × En → R (List T × En) := fun r => match r.1 with | [.d (.int i), .d (.int j)] => guard (small62 i && small62 j) (.ok (rangeItems i j, r.2)) | _ => .bad
@[simp] theorem e_miR1 {m : MA} {ρ : En} : miR1 m ρ = (m ρ).bind rg1 := (rfl)
@[simp] theorem e_miR2 {m : MA} {ρ : En} : miR2 m ρ = (m ρ).bind rg2 := (rfl)
@[simp] theorem e_rg1 {j : Int} {ρ : En} : rg1 ([.d (.int j)], ρ) = guard (small62 j) (.ok (rangeItems 0 j, ρ)) := (rfl)
@[simp] theorem e_rg2 {i j : Int} {ρ : En} : rg2 ([.d (.int i), .d (.int j)], ρ) = guard (small62 i && small62 j) (.ok (rangeItems i j, ρ)) := (rfl)
def zipK (r : List T × En) : R (List T × En) := match r.1 with | [.d (.list ds), .d (.list es)] => .ok (zipItems ds es, r.2) | _ => .bad
@[simp] theorem e_miZ {m : MA} {ρ : En} : miZ m ρ = (m ρ).bind zipK := (rfl)
@[simp] theorem e_zipK {ds es : List PyData} {ρ : En} : zipK ([.d (.list ds), .d (.list es)], ρ) = .ok (zipItems ds es, ρ) := (rfl)
def enumK (r : List T × En) : R (List T × En) := match r.1 with | [.d (.list ds)] => .ok (enumItems ds, r.2) | _ => .bad
@[simp] theorem e_miN {m : MA} {ρ : En} : miN m ρ = (m ρ).bind enumK := (rfl)
@[simp] theorem e_enumK {ds : List PyData} {ρ : En} : enumK ([.d (.list ds)], ρ) = .ok (enumItems ds, ρ) := (rfl)
def lcK2 (vs : List Nat) (z : List T × En) : R (T × En) := .ok (.ol z.1, wipeE z.2 vs)
def lcK (g : MG) (mt : MT) (me : MEx) (vs : List Nat) (r : List T × En) : R (T × En) := (mLcLoop g mt me vs r.1 [] r.2).bind (lcK2 vs)
@[simp] theorem e_mLc {mi : MI} {g : MG} {mt : MT} {me : MEx} {vs : List Nat} {ρ : En} : mLc mi g mt me vs ρ = (mi ρ).bind (lcK g mt me vs) := (rfl)
@[simp] theorem e_lcK {g : MG} {mt : MT} {me : MEx} {vs : List Nat} {ts : List T} {ρ : En} : lcK g mt me vs (ts, ρ) = (mLcLoop g mt me vs ts [] ρ).bind (lcK2 vs) := (rfl)
@[simp] theorem e_lcK2 {vs : List Nat} {ts : List T} {ρ : En} : lcK2 vs (ts, ρ) = .ok (.ol ts, wipeE ρ vs) := (rfl)
@[simp] theorem e_mtYes {ρ : En} : mtYes ρ = .ok (true, ρ) := (rfl)
@[simp] theorem e_mbNil {ρ : En} : mbNil ρ = .ok ([], ρ) := (rfl)
def mbK2 (x : T) (y : List (Option T) × En) : R (List (Option T) × En) := .ok (some x :: y.1, y.2)
def mbK (r : MB) (x : T × En) : R (List (Option T) × En) := (r x.2).bind (mbK2 x.1)
@[simp] theorem e_mbCons {m : MEx} {r : MB} {ρ : En} : mbCons m r ρ = (m ρ).bind (mbK r) := (rfl)
@[simp] theorem e_mbK {r : MB} {x : T} {ρ : En} : mbK r (x, ρ) = (r ρ).bind (mbK2 x) := (rfl)
@[simp] theorem e_mbK2 {x : T} {os : List (Option T)} {ρ : En} : mbK2 x (os, ρ) = .ok (some x :: os, ρ) := (rfl)
def mbIoK2 (y : List (Option T) × En) : R (List (Option T) × En) := .ok (none :: y.1, y.2)
@[simp] theorem e_mbIoK2 {os : List (Option T)} {ρ : En} : mbIoK2 (os, ρ) = .ok (none :: os, ρ) := (rfl)
def mbIoK (r : MB) (ρ : En) : Option (Option T) → R (List (Option T) × En)
  | some (some _) => (r ρ).bind mbIoK2
  | _ => .bad
@[simp] theorem e_mbIo {i : Nat} {r : MB} {ρ : En} : mbIo i r ρ = mbIoK r ρ ρ[i]? := (rfl)
@[simp] theorem e_mbIoK {r : MB} {ρ : En} {t : T} : mbIoK r ρ (some (some t)) = (r ρ).bind mbIoK2 := (rfl)
def callK4 (t : T) (ρ : En) : R (T × En) := .ok (t, ρ)
@[simp] theorem e_callK4 {t : T} {ρ : En} : callK4 t ρ = .ok (t, ρ) := (rfl)
def callK3 (is : List Nat) (ρ : En) (z : T × List T) : R (T × En) := (ofO (putIo is z.2 ρ)).bind (callK4 z.1)
@[simp] theorem e_callK3 {is : List Nat} {ρ : En} {t : T} {os : List T} : callK3 is ρ (t, os) = (ofO (putIo is os ρ)).bind (callK4 t) := (rfl)
def callK2 (rz gz : Bool) (n : Nat) (fm : List T → R (T × List T)) (is : List Nat) (s : List T × En) : R (T × En) :=
  guard (!gz || allData s.1) ((if decide (s.1.length = n) then (if rz = true then fm s.1 else (fm s.1).nx) else .bad).bind (callK3 is s.2))
@[simp] theorem e_callK2f {n : Nat} {fm : List T → R (T × List T)} {is : List Nat} {ts : List T} {ρ : En} : callK2 false false n fm is (ts, ρ) = (if ts.length = n then (fm ts).nx else .bad).bind (callK3 is ρ) := by simp [callK2]
@[simp] theorem e_callK2t {n : Nat} {fm : List T → R (T × List T)} {is : List Nat} {ts : List T} {ρ : En} : callK2 true false n fm is (ts, ρ) = (if ts.length = n then fm ts else .bad).bind (callK3 is ρ) := by simp [callK2]
def callK (rz gz : Bool) (n : Nat) (fm : List T → R (T × List T)) (ks : List (Option Nat)) (r : List (Option T) × En) : R (T × En) := (ofO (fillIo ks r.1 r.2)).bind (callK2 rz gz n fm (ks.filterMap id))
@[simp] theorem e_callK {rz gz : Bool} {n : Nat} {fm : List T → R (T × List T)} {ks : List (Option Nat)} {os : List (Option T)} {ρ : En} : callK rz gz n fm ks (os, ρ) = (ofO (fillIo ks os ρ)).bind (callK2 rz gz n fm (ks.filterMap id)) := (rfl)
@[simp] theorem e_mCallF {rz gz : Bool} {n : Nat} {fm : List T → R (T × List T)} {ks : List (Option Nat)} {mb : MB} {ρ : En} : mCallF rz gz n fm ks mb ρ = (mb ρ).bind (callK rz gz n fm ks) := (rfl)
@[simp] theorem e_fill0 {ρ : En} : fillIo [] [] ρ = some ([], ρ) := (rfl)
@[simp] theorem e_fill1 {ks : List (Option Nat)} {t : T} {ts : List (Option T)} {ρ : En} : fillIo (none :: ks) (some t :: ts) ρ = (fillIo ks ts ρ).map fun r => (t :: r.1, r.2) := (rfl)
def fillK (i : Nat) (ks : List (Option Nat)) (ts : List (Option T)) (ρ : En) : Option (Option T) → Option (List T × En)
  | some (some t) => (fillIo ks ts (ρ.set i none)).map fun r => (t :: r.1, r.2)
  | _ => none
@[simp] theorem e_fill2 {i : Nat} {ks : List (Option Nat)} {ts : List (Option T)} {ρ : En} : fillIo (some i :: ks) (none :: ts) ρ = fillK i ks ts ρ ρ[i]? := (rfl)
@[simp] theorem e_fillK {i : Nat} {ks : List (Option Nat)} {ts : List (Option T)} {ρ : En} {t : T} : fillK i ks ts ρ (some (some t)) = (fillIo ks ts (ρ.set i none)).map fun r => (t :: r.1, r.2) := (rfl)
@[simp] theorem e_put0 {ρ : En} : putIo [] [] ρ = some ρ := (rfl)
@[simp] theorem e_put1 {i : Nat} {is : List Nat} {t : T} {ts : List T} {ρ : En} : putIo (i :: is) (t :: ts) ρ = putIo is ts (ρ.set i (some t)) := (rfl)
def outK2 (t : T) (os : List T) : R (List T) := .ok (t :: os)
@[simp] theorem e_outK2 {t : T} {os : List T} : outK2 t os = .ok (t :: os) := (rfl)
def outK (r : List Nat) (ρ : En) : Option (Option T) → R (List T)
  | some (some t) => (outs r ρ).bind (outK2 t)
  | _ => .bad
@[simp] theorem e_outs0 {ρ : En} : outs [] ρ = .ok [] := (rfl)
@[simp] theorem e_outs1 {i : Nat} {r : List Nat} {ρ : En} : outs (i :: r) ρ = outK r ρ ρ[i]? := (rfl)
@[simp] theorem e_outK {r : List Nat} {ρ : En} {t : T} : outK r ρ (some (some t)) = (outs r ρ).bind (outK2 t) := (rfl)
def fnK2 (t : T) (os : List T) : R (T × List T) := .ok (t, os)
@[simp] theorem e_fnK2 {t : T} {os : List T} : fnK2 t os = .ok (t, os) := (rfl)
def fnK (io : List Nat) : Out → R (T × List T)
  | .ret t ρ => (outs io ρ).bind (fnK2 t)
  | .next ρ => (outs io ρ).bind (fnK2 (.d .none))
  | .brk _ => .bad
  | .cont _ => .bad
@[simp] theorem e_mFn {io : List Nat} {k : Nat} {ms : MS} {ts : List T} : mFn io k ms ts = (ms (ts.map some ++ List.replicate k none)).bind (fnK io) := by
  unfold mFn
  congr 1
  funext o
  cases o <;> rfl
@[simp] theorem e_fnR {io : List Nat} {t : T} {ρ : En} : fnK io (.ret t ρ) = (outs io ρ).bind (fnK2 t) := (rfl)
@[simp] theorem e_fnN {io : List Nat} {ρ : En} : fnK io (.next ρ) = (outs io ρ).bind (fnK2 (.d .none)) := (rfl)
def loopK2 (g : MG) (b : MS) (xs : List T) : Out → R Out
  | .next ρ => mLoop g b xs ρ
  | .cont ρ => mLoop g b xs ρ
  | .brk ρ => .ok (.next ρ)
  | .ret t ρ => .ok (.ret t ρ)
def loopK (g : MG) (b : MS) (xs : List T) (ρ : En) : R Out := (b ρ).bind (loopK2 g b xs)
@[simp] theorem e_loop0 {g : MG} {b : MS} {ρ : En} : mLoop g b [] ρ = .ok (.next ρ) := (rfl)
@[simp] theorem e_loopC {g : MG} {b : MS} {x : T} {xs : List T} {ρ : En} : mLoop g b (x :: xs) ρ = (ofO (g x ρ)).bind (loopK g b xs) := by
  have h : (fun ρ1 => (b ρ1).bind fun o => match o with
    | .next ρ2 => mLoop g b xs ρ2
    | .cont ρ2 => mLoop g b xs ρ2
    | .brk ρ2 => .ok (.next ρ2)
    | .ret t ρ2 => .ok (.ret t ρ2)) = loopK g b xs := by
    funext ρ1
    unfold loopK
    congr 1
  exact congrArg (fun k => (ofO (g x ρ)).bind k) h
@[simp] theorem e_loopK {g : MG} {b : MS} {xs : List T} {ρ : En} : loopK g b xs ρ = (b ρ).bind (loopK2 g b xs) := (rfl)
@[simp] theorem e_loopN {g : MG} {b : MS} {xs : List T} {ρ : En} : loopK2 g b xs (.next ρ) = mLoop g b xs ρ := (rfl)
@[simp] theorem e_loopCo {g : MG} {b : MS} {xs : List T} {ρ : En} : loopK2 g b xs (.cont ρ) = mLoop g b xs ρ := (rfl)
@[simp] theorem e_loopB {g : MG} {b : MS} {xs : List T} {ρ : En} : loopK2 g b xs (.brk ρ) = .ok (.next ρ) := (rfl)
@[simp] theorem e_loopR {g : MG} {b : MS} {xs : List T} {t : T} {ρ : En} : loopK2 g b xs (.ret t ρ) = .ok (.ret t ρ) := (rfl)
def lcL3 (g : MG) (mt : MT) (me : MEx) (vs : List Nat) (xs acc : List T) (y : T × En) : R (List T × En) := mLcLoop g mt me vs xs (acc ++ [y.1]) y.2
def lcL2 (g : MG) (mt : MT) (me : MEx) (vs : List Nat) (xs acc : List T) (r : Bool × En) : R (List T × En) := if r.1 = true then guard (decide (acc.length < sLine)) ((me r.2).bind (lcL3 g mt me vs xs acc)) else mLcLoop g mt me vs xs acc r.2
def lcL1 (g : MG) (mt : MT) (me : MEx) (vs : List Nat) (xs acc : List T) (ρ : En) : R (List T × En) := (mt ρ).bind (lcL2 g mt me vs xs acc)
@[simp] theorem e_lc0 {g : MG} {mt : MT} {me : MEx} {vs : List Nat} {acc : List T} {ρ : En} : mLcLoop g mt me vs [] acc ρ = .ok (acc, ρ) := (rfl)
theorem e_lcC {g : MG} {mt : MT} {me : MEx} {vs : List Nat} {x : T} {xs acc : List T} {ρ : En} : mLcLoop g mt me vs (x :: xs) acc ρ = (ofO (g x (wipeE ρ vs))).bind (lcL1 g mt me vs xs acc) := (rfl)
@[simp] theorem e_lcL1 {g : MG} {mt : MT} {me : MEx} {vs : List Nat} {xs acc : List T} {ρ : En} : lcL1 g mt me vs xs acc ρ = (mt ρ).bind (lcL2 g mt me vs xs acc) := (rfl)
@[simp] theorem e_lcL2 {g : MG} {mt : MT} {me : MEx} {vs : List Nat} {xs acc : List T} {b : Bool} {ρ : En} : lcL2 g mt me vs xs acc (b, ρ) = if b = true then guard (decide (acc.length < sLine)) ((me ρ).bind (lcL3 g mt me vs xs acc)) else mLcLoop g mt me vs xs acc ρ := (rfl)
@[simp] theorem e_lcL3 {g : MG} {mt : MT} {me : MEx} {vs : List Nat} {xs acc : List T} {t : T} {ρ : En} : lcL3 g mt me vs xs acc (t, ρ) = mLcLoop g mt me vs xs (acc ++ [t]) ρ := (rfl)
def methK4 (t : T) (ρ : En) : R (T × En) := .ok (t, ρ)
@[simp] theorem e_methK4 {t : T} {ρ : En} : methK4 t ρ = .ok (t, ρ) := (rfl)
def methK (i : Nat) (p : List Int) (op : List T → List T → Option (T × List T)) (r : List T × En) : R (T × En) := (ofO (lstAt p r.2[i]?)).bind fun ts => (ofO (op ts r.1)).bind fun z => (ofO (putAt i p z.2 r.2)).bind (methK4 z.1)
@[simp] theorem e_methK {i : Nat} {p : List Int} {op : List T → List T → Option (T × List T)} {us : List T} {ρ : En} : methK i p op (us, ρ) = (ofO (lstAt p ρ[i]?)).bind fun ts => (ofO (op ts us)).bind fun z => (ofO (putAt i p z.2 ρ)).bind (methK4 z.1) := (rfl)
@[simp] theorem e_mMeth {i : Nat} {mp : ML} {op : List T → List T → Option (T × List T)} {ma : MA} {ρ : En} : mMeth i mp op ma ρ = (ofO (mp ρ)).bind fun p => (ofO (lstAt p ρ[i]?)).bind fun _ => (ma ρ).bind (methK i p op) := (rfl)
@[simp] theorem e_lHere {ρ : En} : lHere ρ = some [] := (rfl)
@[simp] theorem e_lIx {mp : ML} {mi : MP} {ρ : En} : lIx mp mi ρ = (mp ρ).bind fun p => ((mi ρ).bind T.int?).bind fun j => some (p ++ [j]) := (rfl)
@[simp] theorem e_int? {j : Int} : (T.d (.int j)).int? = some j := (rfl)
@[simp] theorem e_atNil {t : T} : T.at? [] t = some t := by cases t <;> rfl
@[simp] theorem e_atOl {j : Int} {js : List Int} {ts : List T} : T.at? (j :: js) (.ol ts) = (atI ts j).bind (T.at? js) := (rfl)
@[simp] theorem e_atOt {j : Int} {js : List Int} {ts : List T} : T.at? (j :: js) (.ot ts) = (atI ts j).bind (T.at? js) := (rfl)
@[simp] theorem e_putNil {n t : T} : T.put? [] n t = some n := by cases t <;> rfl
@[simp] theorem e_putOl {j : Int} {js : List Int} {n : T} {ts : List T} : T.put? (j :: js) n (.ol ts) = (ixN ts.length j).bind fun k => (ts[k]?).bind fun t => (T.put? js n t).map fun t' => .ol (ts.set k t') := (rfl)
@[simp] theorem e_putOt {j : Int} {js : List Int} {n : T} {ts : List T} : T.put? (j :: js) n (.ot ts) = (ixN ts.length j).bind fun k => (ts[k]?).bind fun t => (T.put? js n t).map fun t' => .ot (ts.set k t') := (rfl)
@[simp] theorem e_append {ts : List T} {u : T} : opAppend ts [u] = if decide (ts.length < sLine) = true then some (.d .none, ts ++ [u]) else none := (rfl)
def extK (ts : List T) : Option (List T) → Option (T × List T)
  | some ks => if decide (ts.length + ks.length ≤ sLine) = true then some (.d .none, ts ++ ks) else none
  | none => none
@[simp] theorem e_extend {ts : List T} {u : T} : opExtend ts [u] = extK ts u.kids := (rfl)
@[simp] theorem e_extK {ts ks : List T} : extK ts (some ks) = if decide (ts.length + ks.length ≤ sLine) = true then some (.d .none, ts ++ ks) else none := (rfl)
@[simp] theorem e_insert {ts : List T} {i : Int} {u : T} : opInsert ts [.d (.int i), u] = if decide (ts.length < sLine ∧ 0 ≤ i ∧ i < 2 ^ 63) = true then some (.d .none, ts.take i.toNat ++ [u] ++ ts.drop i.toNat) else none := (rfl)
@[simp] theorem e_kidsL {ds : List PyData} : T.kids (.d (.list ds)) = some (ds.map T.d) := (rfl)
@[simp] theorem e_kidsO {ts : List T} : T.kids (.ol ts) = some ts := (rfl)
@[simp] theorem e_partsD {ds : List PyData} : T.parts (.d (.tuple ds)) = some (ds.map T.d) := (rfl)
@[simp] theorem e_partsO {ts : List T} : T.parts (.ot ts) = some ts := (rfl)
def idxK (x : T) : R RV := .ok (.v x)
@[simp] theorem e_idxK {x : T} : idxK x = .ok (.v x) := (rfl)
def idxDK (x : PyData) : R RV := .ok (.v (.d x))
@[simp] theorem e_idxDK {x : PyData} : idxDK x = .ok (.v (.d x)) := (rfl)
def slK4 (ρ : En) (z : RV) : R (T × En) := .ok (z.toT, ρ)
@[simp] theorem e_slK4 {ρ : En} {z : RV} : slK4 ρ z = .ok (z.toT, ρ) := (rfl)
@[simp] theorem e_mSl {op : T → Option Int → Option Int → Option RV} {m : MP} {ml mh : MO} {ρ : En} : mSl op m ml mh ρ = (ofO (m ρ)).bind fun t => (ofO (ml ρ)).bind fun lo => (ofO (mh ρ)).bind fun hi => (ofO (op t lo hi)).bind (slK4 ρ) := (rfl)
@[simp] theorem e_oNone {ρ : En} : oNone ρ = some none := (rfl)
@[simp] theorem e_oSome {m : MP} {ρ : En} : oSome m ρ = ((m ρ).bind T.int?).map some := (rfl)
@[simp] theorem e_slL {ds : List PyData} {lo hi : Option Int} : opSlL (.d (.list ds)) lo hi = some (.nl (cutG ds lo hi)) := (rfl)
@[simp] theorem e_slR {ds : List PyData} {lo hi : Option Int} : opSlL (.rd ds) lo hi = some (.nl (cutG ds lo hi)) := (rfl)
@[simp] theorem e_slO {ts : List T} {lo hi : Option Int} : opSlL (.ol ts) lo hi = (T.allD ts).map fun ds => .nl (cutG ds lo hi) := (rfl)
@[simp] theorem e_slT {ds : List PyData} {lo hi : Option Int} : opSlT (.d (.tuple ds)) lo hi = if isWhole ds.length lo hi = false then some (.nt (cutG ds lo hi)) else none := (rfl)
def slE3 (ρ : En) (z : RV) : R (T × En) := .ok (z.toT, ρ)
@[simp] theorem e_slE3 {ρ : En} {z : RV} : slE3 ρ z = .ok (z.toT, ρ) := (rfl)
def slEK (ml mh : MO) (r : T × En) : R (T × En) := (ofO (ml r.2)).bind fun lo => (ofO (mh r.2)).bind fun hi => (ofO (opSlA r.1 lo hi)).bind (slE3 r.2)
@[simp] theorem e_mSlE {m : MEx} {ml mh : MO} {ρ : En} : mSlE m ml mh ρ = (m ρ).bind (slEK ml mh) := (rfl)
@[simp] theorem e_slEK {ml mh : MO} {t : T} {ρ : En} : slEK ml mh (t, ρ) = (ofO (ml ρ)).bind fun lo => (ofO (mh ρ)).bind fun hi => (ofO (opSlA t lo hi)).bind (slE3 ρ) := (rfl)
@[simp] theorem e_slAd {ds : List PyData} {lo hi : Option Int} : opSlA (.d (.list ds)) lo hi = some (.nl (cutG ds lo hi)) := (rfl)
@[simp] theorem e_slAo {ts : List T} {lo hi : Option Int} : opSlA (.ol ts) lo hi = (T.allD ts).map fun ds => .nl (cutG ds lo hi) := (rfl)
@[simp] theorem e_revL {ds : List PyData} : opRevL (.d (.list ds)) = .ok (.nl ds.reverse) := (rfl)
@[simp] theorem e_ltAI {i j : Int} : opLtA (.d (.int i)) (.d (.int j)) = .ok (.v (.d (.bool (decide (i < j))))) := (rfl)
@[simp] theorem e_ltAT {a b c d : Int} : opLtA (.d (.tuple [.int a, .int b])) (.d (.tuple [.int c, .int d])) = .ok (.v (.d (.bool (HT.lexLt [a, b] [c, d])))) := (rfl)
def dropIoK (r : T × List T) : R (T × List T) := .ok (r.1, [])
@[simp] theorem e_dropIo {m : List T → R (T × List T)} {ts : List T} : dropIo m ts = (m ts).bind dropIoK := (rfl)
@[simp] theorem e_dropIoK {t : T} {os : List T} : dropIoK (t, os) = .ok (t, []) := (rfl)
@[simp] theorem e_addII {i j : Int} : opAdd (.d (.int i)) (.d (.int j)) = .ok (.v (.d (.int (i + j)))) := (rfl)
@[simp] theorem e_subII {i j : Int} : opSub (.d (.int i)) (.d (.int j)) = .ok (.v (.d (.int (i - j)))) := (rfl)
@[simp] theorem e_mulII {i j : Int} : opMulI (.d (.int i)) (.d (.int j)) = guard (mulOk i j) (.ok (.v (.d (.int (i * j))))) := (rfl)
@[simp] theorem e_modII {i j : Int} : opMod (.d (.int i)) (.d (.int j)) = guard (modOk i j) (.ok (.v (.d (.int (i.fmod j))))) := (rfl)
@[simp] theorem e_divII {i j : Int} : opFdiv (.d (.int i)) (.d (.int j)) = guard (divOk i j) (.ok (.v (.d (.int (i.fdiv j))))) := (rfl)
@[simp] theorem e_powII {i j : Int} : opPow (.d (.int i)) (.d (.int j)) = guard (powOk i j) (.ok (.v (.d (.int (i ^ j.toNat))))) := (rfl)
@[simp] theorem e_ltII {i j : Int} : opLt (.d (.int i)) (.d (.int j)) = .ok (.v (.d (.bool (decide (i < j))))) := (rfl)
@[simp] theorem e_leII {i j : Int} : opLe (.d (.int i)) (.d (.int j)) = .ok (.v (.d (.bool (decide (i ≤ j))))) := (rfl)
@[simp] theorem e_gtII {i j : Int} : opGt (.d (.int i)) (.d (.int j)) = .ok (.v (.d (.bool (decide (j < i))))) := (rfl)
@[simp] theorem e_geII {i j : Int} : opGe (.d (.int i)) (.d (.int j)) = .ok (.v (.d (.bool (decide (j ≤ i))))) := (rfl)
@[simp] theorem e_negI {i : Int} : opNeg (.d (.int i)) = .ok (.v (.d (.int (-i)))) := (rfl)
@[simp] theorem e_eqII {i j : Int} : opEq (.d (.int i)) (.d (.int j)) = .ok (.v (.d (.bool (decide (i = j))))) := (rfl)
@[simp] theorem e_neII {i j : Int} : opNe (.d (.int i)) (.d (.int j)) = .ok (.v (.d (.bool (!decide (i = j))))) := (rfl)
@[simp] theorem e_eqBB {i j : Bool} : opEq (.d (.bool i)) (.d (.bool j)) = .ok (.v (.d (.bool (decide (i = j))))) := (rfl)
@[simp] theorem e_neBB {i j : Bool} : opNe (.d (.bool i)) (.d (.bool j)) = .ok (.v (.d (.bool (!decide (i = j))))) := (rfl)
@[simp] theorem e_eqSS {i j : Str} : opEq (.d (.str i)) (.d (.str j)) = .ok (.v (.d (.bool (decide (i = j))))) := (rfl)
@[simp] theorem e_neSS {i j : Str} : opNe (.d (.str i)) (.d (.str j)) = .ok (.v (.d (.bool (!decide (i = j))))) := (rfl)
@[simp] theorem e_idxL {ds : List PyData} {i : Int} : opIdx (.d (.list ds)) (.d (.int i)) = (ofO (atI ds i)).bind idxDK := (rfl)
@[simp] theorem e_idxT {ds : List PyData} {i : Int} : opIdx (.d (.tuple ds)) (.d (.int i)) = (ofO (atI ds i)).bind idxDK := (rfl)
@[simp] theorem e_idxOl {ts : List T} {i : Int} : opIdx (.ol ts) (.d (.int i)) = (ofO (atI ts i)).bind idxK := (rfl)
@[simp] theorem e_idxOt {ts : List T} {i : Int} : opIdx (.ot ts) (.d (.int i)) = (ofO (atI ts i)).bind idxK := (rfl)
@[simp] theorem e_idxRd {ds : List PyData} {i : Int} : opIdx (.rd ds) (.d (.int i)) = (ofO (atI ds i)).bind idxDK := (rfl)
@[simp] theorem e_isNN : T.isNone (.d .none) = true := (rfl)
@[simp] theorem e_isN {x : T} : opIsN x (.d .none) = .ok (.v (.d (.bool x.isNone))) := (rfl)
@[simp] theorem e_notN {x : T} : opNotN x (.d .none) = .ok (.v (.d (.bool (!x.isNone)))) := (rfl)
@[simp] theorem e_nnI {i : Int} : T.isNone (.d (.int i)) = false := (rfl)
@[simp] theorem e_nnB {i : Bool} : T.isNone (.d (.bool i)) = false := (rfl)
@[simp] theorem e_nnT {i : List PyData} : T.isNone (.d (.tuple i)) = false := (rfl)
@[simp] theorem e_nnL {i : List PyData} : T.isNone (.d (.list i)) = false := (rfl)
@[simp] theorem e_opLen {t : T} : opLen [t] = (ofO t.size).bind fun n => .ok (.v (.d (.int n))) := (rfl)
@[simp] theorem e_sizeL {ds : List PyData} : T.size (.d (.list ds)) = some ds.length := (rfl)
@[simp] theorem e_sizeT {ds : List PyData} : T.size (.d (.tuple ds)) = some ds.length := (rfl)
@[simp] theorem e_sizeOl {ts : List T} : T.size (.ol ts) = some ts.length := (rfl)
@[simp] theorem e_sizeOt {ts : List T} : T.size (.ot ts) = some ts.length := (rfl)
@[simp] theorem e_sizeRd {ds : List PyData} : T.size (.rd ds) = some ds.length := (rfl)
@[simp] theorem e_abs {i : Int} : opAbs [.d (.int i)] = .ok (.v (.d (.int i.natAbs))) := by
  show R.ok (RV.v (T.d (.int (if i < 0 then -i else i)))) = _
  have : (if i < 0 then -i else i) = (i.natAbs : Int) := by split <;> omega
  rw [this]
@[simp] theorem e_int1 {i : Int} : opInt1 [.d (.int i)] = .ok (.v (.d (.int i))) := (rfl)
@[simp] theorem e_int1b {b : Bool} : opInt1 [.d (.bool b)] = .ok (.v (.d (.int (if b then 1 else 0)))) := (rfl)
@[simp] theorem e_max2 {i j : Int} : opMax2 [.d (.int i), .d (.int j)] = .ok (.v (.d (.int (if j > i then j else i)))) := (rfl)
@[simp] theorem e_min2 {i j : Int} : opMin2 [.d (.int i), .d (.int j)] = .ok (.v (.d (.int (if j < i then j else i)))) := (rfl)
@[simp] theorem e_listOf {t : T} : opListOf [t] = (ofO t.seq?).bind fun ds => .ok (.nl ds) := (rfl)
@[simp] theorem e_seqL {ds : List PyData} : T.seq? (.d (.list ds)) = some ds := (rfl)
@[simp] theorem e_seqT {ds : List PyData} : T.seq? (.d (.tuple ds)) = some ds := (rfl)
@[simp] theorem e_seqOl {ts : List T} : T.seq? (.ol ts) = T.allD ts := (rfl)
@[simp] theorem e_seqRd {ds : List PyData} : T.seq? (.rd ds) = some ds := (rfl)
@[simp] theorem e_tupleOfT {ds : List PyData} : opTupleOf [.d (.tuple ds)] = .ok (.v (.d (.tuple ds))) := (rfl)
@[simp] theorem e_tupleOfL {ds : List PyData} : opTupleOf [.d (.list ds)] = .ok (.nt ds) := (rfl)
def tryK (xs : List Str) (j : Nat) (ρ : En) (r : R Out) : R Out := match r with
  | .exc x => if xs.contains x then .ok (.next ((List.replicate ρ.length none).set j (some (.ex x)))) else .bad
  | r => r
theorem e_mTryK0 {xs : List Str} {j : Nat} {mb : MS} {ρ : En} : mTryK xs j mb ρ = tryK xs j ρ (mb ρ) := by
  unfold mTryK tryK
  cases mb ρ <;> rfl
@[simp] theorem e_mTryK {xs : List Str} {j : Nat} {mb : MS} {ρ : En} : mTryK xs j mb ρ = tryK xs j ρ (mb ρ) := e_mTryK0
@[simp] theorem e_tryOk {xs : List Str} {j : Nat} {ρ : En} {o : Out} : tryK xs j ρ (.ok o) = .ok o := (rfl)
@[simp] theorem e_tryExc {xs : List Str} {j : Nat} {ρ : En} {x : Str} : tryK xs j ρ (.exc x) = if xs.contains x then .ok (.next ((List.replicate ρ.length none).set j (some (.ex x)))) else .bad := (rfl)
@[simp] theorem e_mRaise {x : Str} {ρ : En} : mRaise x ρ = .exc x := (rfl)
@[simp] theorem e_pIsX {tab : XTab} {m : MP} {ρ : En} : pIsX tab m ρ = (m ρ).bind fun t => (exIs tab t).map T.d := (rfl)
@[simp] theorem e_exIs {tab : XTab} {x : Str} : exIs tab (.ex x) = (tab.lookup x).map PyData.bool := (rfl)
@[simp] theorem e_mgLst {n : Nat} {r : MGs} {ds : List PyData} {ρ : En} : mgLst n r (.d (.list ds)) ρ = if ds.length = n then r (ds.map T.d) ρ else none := (rfl)
def eqNilK (ρ : En) (o : R RV) : R (T × En) := match o with
  | .ok (.v (.d (.bool b))) => .ok (.d (.bool b), ρ)
  | _ => .bad
def eqNilK0 (f : T → T → R RV) (ρ : En) (o : Option T) : R (T × En) := match o with
  | some x => eqNilK ρ (f x (.d (.list [])))
  | none => .bad
@[simp] theorem e_mEqNil {f : T → T → R RV} {mp : MP} {ρ : En} : mEqNil f mp ρ = eqNilK0 f ρ (mp ρ) := (rfl)
@[simp] theorem e_eqNilK0 {f : T → T → R RV} {x : T} {ρ : En} : eqNilK0 f ρ (some x) = eqNilK ρ (f x (.d (.list []))) := (rfl)
@[simp] theorem e_eqNilK {b : Bool} {ρ : En} : eqNilK ρ (.ok (.v (.d (.bool b)))) = .ok (.d (.bool b), ρ) := (rfl)
def tupCntK (mp : MP) (r : List T × En) : R (T × En) := match T.allD r.1, mp r.2 with
  | some ds, some (.d x) => (cntD ds x).bind fun n => .ok (.d n, r.2)
  | _, _ => .bad
def tupCntK2 (ρ : En) (od : Option (List PyData)) (o : Option T) : R (T × En) := match od, o with
  | some ds, some (.d x) => (cntD ds x).bind fun n => .ok (.d n, ρ)
  | _, _ => .bad
@[simp] theorem e_mTupCount {ma : MA} {mp : MP} {ρ : En} : mTupCount ma mp ρ = (ma ρ).bind (tupCntK mp) := (rfl)
@[simp] theorem e_tupCntK {mp : MP} {ts : List T} {ρ : En} : tupCntK mp (ts, ρ) = tupCntK2 ρ (T.allD ts) (mp ρ) := (rfl)
@[simp] theorem e_tupCntK2 {ds : List PyData} {x : PyData} {ρ : En} : tupCntK2 ρ (some ds) (some (.d x)) = (cntD ds x).bind fun n => .ok (.d n, ρ) := (rfl)
def isXTK (ρ : En) (d : PyData) : R (T × En) := .ok (.d d, ρ)
@[simp] theorem e_isXTK {ρ : En} {d : PyData} : isXTK ρ d = .ok (.d d, ρ) := (rfl)
@[simp] theorem e_mIsXT {tab : XTab} {m : MP} {ρ : En} : mIsXT tab m ρ = (ofO ((m ρ).bind (exIs tab))).bind (isXTK ρ) := (rfl)
@[simp] theorem e_isB {a b : Bool} : opIsB (.d (.bool a)) (.d (.bool b)) = .ok (.v (.d (.bool (decide (a = b))))) := (rfl)
@[simp] theorem e_notB {a b : Bool} : opNotB (.d (.bool a)) (.d (.bool b)) = .ok (.v (.d (.bool (!decide (a = b))))) := (rfl)
@[simp] theorem e_isaInt {n : String} {i : Int} : isaT n (.d (.int i)) = kitB "int" n := (rfl)
@[simp] theorem e_isaBool {n : String} {i : Bool} : isaT n (.d (.bool i)) = kitB "bool" n := (rfl)
@[simp] theorem e_isaStr {n : String} {i : Str} : isaT n (.d (.str i)) = kitB "str" n := (rfl)
@[simp] theorem e_isaTup {n : String} {i : List PyData} : isaT n (.d (.tuple i)) = kitB "tuple" n := (rfl)
@[simp] theorem e_isaLst {n : String} {i : List PyData} : isaT n (.d (.list i)) = kitB "list" n := (rfl)
@[simp] theorem e_isaNone {n : String} : isaT n (.d .none) = kitB "NoneType" n := (rfl)
@[simp] theorem e_isaOl {n : String} {i : List T} : isaT n (.ol i) = kitB "list" n := (rfl)
@[simp] theorem e_fzD {x : PyData} : T.fz (.d x) = some x := by simp [T.fz]
@[simp] theorem e_fzOl {ts : List T} : T.fz (.ol ts) = (T.fzAll ts).map PyData.list := by simp [T.fz]
@[simp] theorem e_fzOt {ts : List T} : T.fz (.ot ts) = (T.fzAll ts).map PyData.tuple := by simp [T.fz]
@[simp] theorem e_fzNil : T.fzAll [] = some [] := by simp [T.fzAll]
@[simp] theorem e_fzCons {t : T} {r : List T} : T.fzAll (t :: r) = (T.fz t).bind fun x => (T.fzAll r).map fun xs => x :: xs := by simp [T.fzAll]
@[simp] theorem e_fzMap : ∀ {ds : List PyData}, T.fzAll (ds.map T.d) = some ds
  | [] => by simp
  | x :: r => by simp [e_fzMap (ds := r)]
@[simp] theorem e_fzMapC {α : Type} {f : α → PyData} {xs : List α} : T.fzAll (xs.map (T.d ∘ f)) = some (xs.map f) := by rw [← List.map_map]; exact e_fzMap
@[simp] theorem e_fzMapL {α : Type} {f : α → PyData} {xs : List α} : T.fzAll (xs.map fun x => T.d (f x)) = some (xs.map f) := e_fzMapC
@[simp] theorem e_toDD {x : PyData} : T.toD (.d x) = some x := by simp [T.toD]
@[simp] theorem e_toDOl {ts : List T} : T.toD (.ol ts) = (T.toDAll ts).map PyData.list := by simp [T.toD]
@[simp] theorem e_toDOt {ts : List T} : T.toD (.ot ts) = (T.toDAll ts).map PyData.tuple := by simp [T.toD]
@[simp] theorem e_toDNil : T.toDAll [] = some [] := by simp [T.toDAll]
@[simp] theorem e_toDCons {t : T} {r : List T} : T.toDAll (t :: r) = (T.toD t).bind fun x => (T.toDAll r).map fun xs => x :: xs := by simp [T.toDAll]
@[simp] theorem e_toDMap : ∀ {ds : List PyData}, T.toDAll (ds.map T.d) = some ds
  | [] => by simp
  | x :: r => by simp [e_toDMap (ds := r)]
@[simp] theorem e_toDMapC {α : Type} {f : α → PyData} {xs : List α} : T.toDAll (xs.map (T.d ∘ f)) = some (xs.map f) := by rw [← List.map_map]; exact e_toDMap
@[simp] theorem e_toDMapL {α : Type} {f : α → PyData} {xs : List α} : T.toDAll (xs.map fun x => T.d (f x)) = some (xs.map f) := e_toDMapC
@[simp] theorem e_allDNil : T.allD [] = some [] := (rfl)
@[simp] theorem e_allDCons {x : PyData} {r : List T} : T.allD (.d x :: r) = (T.allD r).map fun xs => x :: xs := (rfl)
@[simp] theorem e_allDOl {x : List T} {r : List T} : T.allD (.ol x :: r) = none := (rfl)
@[simp] theorem e_allDMapC {α : Type} {f : α → PyData} {xs : List α} : T.allD (xs.map (T.d ∘ f)) = some (xs.map f) := by rw [← List.map_map]; exact allD_map _
@[simp] theorem e_allDMapL {α : Type} {f : α → PyData} {xs : List α} : T.allD (xs.map fun x => T.d (f x)) = some (xs.map f) := e_allDMapC
@[simp] theorem e_allDMap {ds : List PyData} : T.allD (ds.map T.d) = some ds := allD_map ds
@[simp] theorem e_lstL {ds : List PyData} : T.lst? (.d (.list ds)) = some ds := (rfl)
@[simp] theorem e_lstO {ts : List T} : T.lst? (.ol ts) = T.allD ts := (rfl)
@[simp] theorem e_wipe0 {ρ : Env} : wipeE ρ [] = ρ := (rfl)
@[simp] theorem e_wipe1 {ρ : Env} {v : Nat} {vs : List Nat} : wipeE ρ (v :: vs) = (wipeE ρ vs).set v none := (rfl)
theorem e_ixN {m n : Nat} (h : n < m) : ixN m (n : Int) = some n := by
  unfold ixN
  rw [if_pos (by omega), if_pos (by omega)]
  simp
theorem e_atIn {α : Type} {xs : List α} {n : Nat} : atI xs (n : Int) = xs[n]? := by
  unfold atI
  by_cases h : n < xs.length
  · rw [e_ixN h]; rfl
  · rw [List.getElem?_eq_none (by omega)]
    unfold ixN
    rw [if_pos (by omega), if_neg (by omega)]
    rfl
@[simp] theorem e_atI0 {α : Type} {x : α} {xs : List α} : atI (x :: xs) 0 = some x := (e_atIn (n := 0)).trans rfl
@[simp] theorem e_atI1 {α : Type} {x y : α} {xs : List α} : atI (x :: y :: xs) 1 = some y := (e_atIn (n := 1)).trans rfl
@[simp] theorem e_atI2 {α : Type} {x y z : α} {xs : List α} : atI (x :: y :: z :: xs) 2 = some z := (e_atIn (n := 2)).trans rfl
@[simp] theorem e_atI3 {α : Type} {x y z u : α} {xs : List α} : atI (x :: y :: z :: u :: xs) 3 = some u := (e_atIn (n := 3)).trans rfl
end L3
namespace L3
open PySem
def Yes (r : T × List T) : Prop := r.1 = .d (.bool true)
@[simp] theorem e_yes {os : List T} : Yes (.d (.bool true), os) := rfl
end L3
namespace L3
open PySem PySem.Spec PyProof.Rows L2
theorem mWhile_of {mt : MT} {mb : MS} {n : Nat} {ρ : Env} (h : mWhileN mt mb n ρ ≠ .bad) : mWhile mt mb ρ = mWhileN mt mb n ρ := by
  have hx : ∃ n, mWhileN mt mb n ρ ≠ .bad := ⟨n, h⟩
  unfold mWhile
  rw [dif_pos hx]
  have hc := Classical.choose_spec hx
  rcases Nat.le_total n (Classical.choose hx) with l | l
  · exact mWhileN_le h l
  · exact (mWhileN_le hc l).symm
theorem mWhile_bad {mt : MT} {mb : MS} {ρ : Env} (h : ∀ n, mWhileN mt mb n ρ = .bad) : mWhile mt mb ρ = .bad := by
  unfold mWhile
  rw [dif_neg]
  rintro ⟨n, e⟩
  exact e (h n)
noncomputable abbrev wNext (mt : MT) (mb : MS) : Out → R Out := fun o => match o with
  | .next ρ2 => mWhile mt mb ρ2
  | .cont ρ2 => mWhile mt mb ρ2
  | .brk ρ2 => .ok (.next ρ2)
  | .ret t ρ2 => .ok (.ret t ρ2)
theorem mWhile_eq {mt : MT} {mb : MS} {ρ : Env} : mWhile mt mb ρ = (mt ρ).bind fun r => if r.1 = true then (mb r.2).bind (wNext mt mb) else .ok (.next r.2) := by
  have step : ∀ n, mWhileN mt mb (n + 1) ρ = (mt ρ).bind fun r => if r.1 = true then (mb r.2).bind (fun o => match o with
    | .next ρ2 => mWhileN mt mb n ρ2
    | .cont ρ2 => mWhileN mt mb n ρ2
    | .brk ρ2 => .ok (.next ρ2)
    | .ret t ρ2 => .ok (.ret t ρ2)) else .ok (.next r.2) := fun n => rfl
  cases e : mt ρ with
  | exc x =>
    rw [mWhile_of (n := 1) (by rw [step, e]; exact fun z => nomatch z), step, e]; rfl
  | bad => exact mWhile_bad fun n => (match n with
      | 0 => rfl
      | n + 1 => by rw [step, e]; rfl)
  | ok r =>
    show _ = if r.1 = true then _ else _
    by_cases hr : r.1 = true
    · rw [if_pos hr]
      have step2 : ∀ n, mWhileN mt mb (n + 1) ρ = (mb r.2).bind (fun o => match o with
        | .next ρ2 => mWhileN mt mb n ρ2
        | .cont ρ2 => mWhileN mt mb n ρ2
        | .brk ρ2 => .ok (.next ρ2)
        | .ret t ρ2 => .ok (.ret t ρ2)) := fun n => by rw [step, e]; show (if r.1 = true then _ else _) = _; rw [if_pos hr]
      cases e2 : mb r.2 with
      | exc x => rw [mWhile_of (n := 1) (by rw [step2, e2]; exact fun z => nomatch z), step2, e2]; rfl
      | bad => exact mWhile_bad fun n => (match n with
          | 0 => rfl
          | n + 1 => by rw [step2, e2]; rfl)
      | ok o =>
        have go : ∀ ρ2, (∀ n, mWhileN mt mb (n + 1) ρ = mWhileN mt mb n ρ2) → mWhile mt mb ρ = mWhile mt mb ρ2 := fun ρ2 h => by
          by_cases hx : ∃ n, mWhileN mt mb n ρ2 ≠ .bad
          · obtain ⟨n, hn⟩ := hx
            rw [mWhile_of hn, mWhile_of (n := n + 1) (by rw [h]; exact hn), h]
          · have hb : ∀ n, mWhileN mt mb n ρ2 = .bad := fun n => Classical.byContradiction fun z => hx ⟨n, z⟩
            rw [mWhile_bad hb]
            exact mWhile_bad fun n => (match n with
              | 0 => rfl
              | n + 1 => by rw [h]; exact hb n)
        cases o with
        | next ρ2 => exact go ρ2 fun n => by rw [step2, e2]; rfl
        | cont ρ2 => exact go ρ2 fun n => by rw [step2, e2]; rfl
        | brk ρ2 => rw [mWhile_of (n := 1) (by rw [step2, e2]; exact fun z => nomatch z), step2, e2]; rfl
        | ret t ρ2 => rw [mWhile_of (n := 1) (by rw [step2, e2]; exact fun z => nomatch z), step2, e2]; rfl
    · rw [if_neg hr, mWhile_of (n := 1) (by rw [step, e]; show (if r.1 = true then _ else _) ≠ _; rw [if_neg hr]; exact fun z => nomatch z), step, e]
      show (if r.1 = true then _ else _) = _
      rw [if_neg hr]
def turnTo (I : L3.Env → Prop) (Q : Out → Prop) : Out → Prop
  | .next ρ => I ρ
  | .cont ρ => I ρ
  | .brk ρ => Q (.next ρ)
  | .ret t ρ => Q (.ret t ρ)
@[simp] theorem t_next {I : L3.Env → Prop} {Q : Out → Prop} {ρ : L3.Env} : turnTo I Q (.next ρ) ↔ I ρ := (Iff.rfl)
@[simp] theorem t_cont {I : L3.Env → Prop} {Q : Out → Prop} {ρ : L3.Env} : turnTo I Q (.cont ρ) ↔ I ρ := (Iff.rfl)
@[simp] theorem t_brk {I : L3.Env → Prop} {Q : Out → Prop} {ρ : L3.Env} : turnTo I Q (.brk ρ) ↔ Q (.next ρ) := (Iff.rfl)
@[simp] theorem t_ret {I : L3.Env → Prop} {Q : Out → Prop} {t : T} {ρ : L3.Env} : turnTo I Q (.ret t ρ) ↔ Q (.ret t ρ) := (Iff.rfl)
@[simp] theorem rangeItems_len {lo hi : Int} : (rangeItems lo hi).length = (hi - lo).toNat := by simp [rangeItems]
noncomputable instance decD : DecidableEq PyData := fun a b => Classical.propDecidable (a = b)
mutual
def plk : Nat → PyData → Bool
  | _, .int _ => true
  | _, .none => true
  | _, .str s => PyData.strOk s
  | n + 1, .list xs => plkAll n xs
  | n + 1, .tuple xs => plkAll n xs
  | _, _ => false
def plkAll : Nat → List PyData → Bool
  | _, [] => true
  | n, x :: xs => plk n x && plkAll n xs
end
mutual
theorem plk_eqv : ∀ (n m : Nat) (x y : PyData), plk n x = true → plk m y = true → PyData.eqv x y = decide (x = y)
  | _, _, .int i, .int j, _, _ => by rw [Bool.eq_iff_iff]; simp [PyData.eqv]
  | _, _, .str i, .str j, _, _ => by rw [Bool.eq_iff_iff]; simp [PyData.eqv]
  | _, _, .none, .none, _, _ => by simp [PyData.eqv]
  | n + 1, m + 1, .list xs, .list ys, h1, h2 => by
    have := plkAll_eqv n m xs ys (by simpa [plk] using h1) (by simpa [plk] using h2)
    simp [PyData.eqv, this]
  | n + 1, m + 1, .tuple xs, .tuple ys, h1, h2 => by
    have := plkAll_eqv n m xs ys (by simpa [plk] using h1) (by simpa [plk] using h2)
    simp [PyData.eqv, this]
  | 0, _, .list _, _, h1, _ => by simp [plk] at h1
  | 0, _, .tuple _, _, h1, _ => by simp [plk] at h1
  | _, 0, _, .list _, _, h2 => by simp [plk] at h2
  | _, 0, _, .tuple _, _, h2 => by simp [plk] at h2
  | 0, _, .bool _, _, h1, _ => by simp [plk] at h1
  | _ + 1, _, .bool _, _, h1, _ => by simp [plk] at h1
  | 0, _, .dict _, _, h1, _ => by simp [plk] at h1
  | _ + 1, _, .dict _, _, h1, _ => by simp [plk] at h1
  | _, 0, _, .bool _, _, h1 => by simp [plk] at h1
  | _, _ + 1, _, .bool _, _, h1 => by simp [plk] at h1
  | _, 0, _, .dict _, _, h1 => by simp [plk] at h1
  | _, _ + 1, _, .dict _, _, h1 => by simp [plk] at h1
  | _, _, .int _, .str _, _, _ => by simp [PyData.eqv]
  | _, _, .int _, .none, _, _ => by simp [PyData.eqv]
  | _, _ + 1, .int _, .list _, _, _ => by simp [PyData.eqv]
  | _, _ + 1, .int _, .tuple _, _, _ => by simp [PyData.eqv]
  | _, _, .str _, .int _, _, _ => by simp [PyData.eqv]
  | _, _, .str _, .none, _, _ => by simp [PyData.eqv]
  | _, _ + 1, .str _, .list _, _, _ => by simp [PyData.eqv]
  | _, _ + 1, .str _, .tuple _, _, _ => by simp [PyData.eqv]
  | _, _, .none, .int _, _, _ => by simp [PyData.eqv]
  | _, _, .none, .str _, _, _ => by simp [PyData.eqv]
  | _, _ + 1, .none, .list _, _, _ => by simp [PyData.eqv]
  | _, _ + 1, .none, .tuple _, _, _ => by simp [PyData.eqv]
  | _ + 1, _, .list _, .int _, _, _ => by simp [PyData.eqv]
  | _ + 1, _, .list _, .str _, _, _ => by simp [PyData.eqv]
  | _ + 1, _, .list _, .none, _, _ => by simp [PyData.eqv]
  | _ + 1, _ + 1, .list _, .tuple _, _, _ => by simp [PyData.eqv]
  | _ + 1, _, .tuple _, .int _, _, _ => by simp [PyData.eqv]
  | _ + 1, _, .tuple _, .str _, _, _ => by simp [PyData.eqv]
  | _ + 1, _, .tuple _, .none, _, _ => by simp [PyData.eqv]
  | _ + 1, _ + 1, .tuple _, .list _, _, _ => by simp [PyData.eqv]
theorem plkAll_eqv : ∀ (n m : Nat) (xs ys : List PyData), plkAll n xs = true → plkAll m ys = true → PyData.eqvAll xs ys = decide (xs = ys)
  | _, _, [], [], _, _ => by simp [PyData.eqvAll]
  | _, _, [], _ :: _, _, _ => by simp [PyData.eqvAll]
  | _, _, _ :: _, [], _, _ => by simp [PyData.eqvAll]
  | n, m, x :: xs, y :: ys, h1, h2 => by
    simp only [plkAll, Bool.and_eq_true] at h1 h2
    have a := plk_eqv n m x y h1.1 h2.1
    have b := plkAll_eqv n m xs ys h1.2 h2.2
    simp [PyData.eqvAll, a, b]
end
mutual
theorem plk_lay : ∀ (n : Nat) (x : PyData), plk n x = true → x.canLay0 = true ∧ x.depth ≤ n
  | _, .int _, _ => by simp [PyData.canLay0, PyData.depth]
  | _, .none, _ => by simp [PyData.canLay0, PyData.depth]
  | _, .str s, h => ⟨by simpa [plk, PyData.canLay0] using h, by simp [PyData.depth]⟩
  | n + 1, .list xs, h => by
    have := plkAll_lay n xs (by simpa [plk] using h)
    simp only [PyData.canLay0, PyData.depth]
    exact ⟨this.1, by omega⟩
  | n + 1, .tuple xs, h => by
    have := plkAll_lay n xs (by simpa [plk] using h)
    simp only [PyData.canLay0, PyData.depth]
    exact ⟨this.1, by omega⟩
  | 0, .list _, h1 => by simp [plk] at h1
  | 0, .tuple _, h1 => by simp [plk] at h1
  | 0, .bool _, h1 => by simp [plk] at h1
  | _ + 1, .bool _, h1 => by simp [plk] at h1
  | 0, .dict _, h1 => by simp [plk] at h1
  | _ + 1, .dict _, h1 => by simp [plk] at h1
theorem plkAll_lay : ∀ (n : Nat) (xs : List PyData), plkAll n xs = true → PyData.canLayAll0 xs = true ∧ PyData.depthAll xs ≤ n
  | _, [], _ => by simp [PyData.canLayAll0, PyData.depthAll]
  | n, x :: xs, h => by
    simp only [plkAll, Bool.and_eq_true] at h
    have a := plk_lay n x h.1
    have b := plkAll_lay n xs h.2
    simp only [PyData.canLayAll0, PyData.depthAll, Bool.and_eq_true]
    exact ⟨⟨a.1, b.1⟩, by omega⟩
end
def pl (x : PyData) : Prop := plk 60 x = true
theorem pl_shaped {x : PyData} (h : pl x) : SeqAt.shaped x = true := by
  have := plk_lay 60 x h
  unfold SeqAt.shaped
  rw [this.1]
  simp only [Bool.true_and]
  exact decide_eq_true (Nat.le_trans this.2 (by decide))
theorem eqD_pl {x y : T} {a b : PyData} (hx : x.toD = some a) (hy : y.toD = some b) (h1 : pl a) (h2 : pl b) : eqD x y = .ok (decide (a = b)) := by
  unfold eqD
  rw [hx, hy]
  dsimp only
  cases e : eqS a b with
  | some k =>
    dsimp only
    unfold eqS at e
    split at e <;> first | (cases e; simp) | cases e
  | none =>
    dsimp only
    rw [pl_shaped h1, pl_shaped h2, plk_eqv 60 60 a b h1 h2]
    rfl
theorem opEq_pl {x y : T} {a b : PyData} (hx : x.toD = some a) (hy : y.toD = some b) (h1 : pl a) (h2 : pl b) : opEq x y = .ok (.v (.d (.bool (decide (a = b))))) := by
  unfold opEq
  rw [eqD_pl hx hy h1 h2]
  rfl
theorem opNe_pl {x y : T} {a b : PyData} (hx : x.toD = some a) (hy : y.toD = some b) (h1 : pl a) (h2 : pl b) : opNe x y = .ok (.v (.d (.bool (!decide (a = b))))) := by
  unfold opNe
  rw [eqD_pl hx hy h1 h2]
  rfl
theorem plkAll_map {α : Type} {n : Nat} {f : α → PyData} {xs : List α} (h : ∀ x ∈ xs, plk n (f x) = true) : plkAll n (xs.map f) = true := by
  induction xs with
  | nil => rfl
  | cons x r ih =>
    simp only [List.map_cons, plkAll, Bool.and_eq_true]
    exact ⟨h x List.mem_cons_self, ih fun y hy => h y (List.mem_cons_of_mem _ hy)⟩
theorem mulOk_bits {i j : Int} {a b : Nat} (ha : i.natAbs < 2 ^ a) (hb : j.natAbs < 2 ^ b) (h : a + b ≤ 900000) : mulOk i j = true := by
  refine mulOk_iff.mpr (CMulW.ok ?_)
  have h1 : i.natAbs.log2 ≤ a := by
    by_cases z : i.natAbs = 0
    · rw [z]; simp
    · exact Nat.le_of_lt ((Nat.log2_lt z).mpr ha)
  have h2 : j.natAbs.log2 ≤ b := by
    by_cases z : j.natAbs = 0
    · rw [z]; simp
    · exact Nat.le_of_lt ((Nat.log2_lt z).mpr hb)
  show i.natAbs.log2 + j.natAbs.log2 < 1000000
  omega
theorem bits64 {j : Int} (h : j.natAbs < 2 ^ 64) : Builtin.Int.intBits j ≤ 64 := by
  unfold Builtin.Int.intBits
  split
  · omega
  · rename_i z
    have : j.natAbs ≠ 0 := by
      intro e
      have : j = 0 := by omega
      simp [this] at z
    have := (Nat.log2_lt this).mpr h
    omega
theorem mulOk_r {i j : Int} (h : j.natAbs < 2 ^ 64) : mulOk i j = true := by
  unfold mulOk shortFactorBits
  have := bits64 h
  simp; omega
theorem mulOk_l {i j : Int} (h : i.natAbs < 2 ^ 64) : mulOk i j = true := by
  unfold mulOk shortFactorBits
  have := bits64 h
  simp; omega
theorem divOk_of {i j : Int} (h : j ≠ 0) (hb : j.natAbs < 2 ^ 9000) : divOk i j = true := by
  unfold divOk
  rw [decide_eq_true h, Bool.true_and]
  have h0 : j.natAbs ≠ 0 := by omega
  have := (Nat.log2_lt h0).mpr hb
  have e : Builtin.divisionGoesByPylong i j = false := PyProof.noPylong_of_log2 this
  rw [e]
  rfl
end L3
namespace L3
open PySem
end L3
namespace L3
open PySem PySem.Spec PyProof.Rows L2
def fr (q : Rat) : PyData := .tuple [.int q.num, .int q.den]
def frs (qs : List Rat) : PyData := .list (qs.map fr)
theorem fr_def {q : Rat} : fr q = .tuple [.int q.num, .int q.den] := rfl
theorem fr_inj {q r : Rat} (h : fr q = fr r) : q = r := by
  unfold fr at h
  injection h with h
  injection h with h1 h2
  injection h2 with h2 _
  injection h1 with h1
  injection h2 with h2
  exact Rat.ext h1 (by omega)
@[simp] theorem plk_fr {n : Nat} {q : Rat} : plk (n + 1) (fr q) = true := by simp [fr, plk, plkAll]
@[simp] theorem plk_frs {n : Nat} {qs : List Rat} : plk (n + 2) (frs qs) = true := by
  simp only [frs, plk]
  exact plkAll_map fun x _ => plk_fr
theorem pl_fr {q : Rat} : pl (fr q) := plk_fr
theorem pl_frs {q : List Rat} : pl (frs q) := plk_frs
def bl (n : Nat) : Nat := if n = 0 then 0 else n.log2 + 1
theorem bl_lt (n : Nat) : n < 2 ^ bl n := by
  unfold bl
  split
  · omega
  · exact Nat.lt_log2_self
theorem bl_le {n k : Nat} : bl n ≤ k ↔ n < 2 ^ k := by
  unfold bl
  split
  · rename_i h
    subst h
    simp [Nat.two_pow_pos]
  · rename_i h
    rw [← Nat.log2_lt h]
    omega
theorem bl_mono {m n : Nat} (h : m ≤ n) : bl m ≤ bl n := bl_le.mpr (Nat.lt_of_le_of_lt h (bl_lt n))
theorem bl_mul {m n : Nat} : bl (m * n) ≤ bl m + bl n := bl_le.mpr (by
  rw [Nat.pow_add]
  exact Nat.mul_lt_mul'' (bl_lt m) (bl_lt n))
theorem bl_add {m n : Nat} : bl (m + n) ≤ max (bl m) (bl n) + 1 := bl_le.mpr (by
  have h1 : m < 2 ^ max (bl m) (bl n) := Nat.lt_of_lt_of_le (bl_lt m) (Nat.pow_le_pow_right (by decide) (Nat.le_max_left _ _))
  have h2 : n < 2 ^ max (bl m) (bl n) := Nat.lt_of_lt_of_le (bl_lt n) (Nat.pow_le_pow_right (by decide) (Nat.le_max_right _ _))
  rw [Nat.pow_succ]
  omega)
def ib (i : Int) : Nat := bl i.natAbs
theorem ib_mul {i j : Int} : ib (i * j) ≤ ib i + ib j := by
  unfold ib
  rw [Int.natAbs_mul]
  exact bl_mul
theorem ib_add {i j : Int} : ib (i + j) ≤ max (ib i) (ib j) + 1 := Nat.le_trans (bl_mono (Int.natAbs_add_le i j)) bl_add
theorem ib_neg {i : Int} : ib (-i) = ib i := by unfold ib; rw [Int.natAbs_neg]
theorem ib_sub {i j : Int} : ib (i - j) ≤ max (ib i) (ib j) + 1 := by
  have := ib_add (i := i) (j := -j)
  rw [ib_neg] at this
  rwa [Int.sub_eq_add_neg]
theorem ib_nat {n : Nat} : ib (n : Int) = bl n := by unfold ib; rw [Int.natAbs_natCast]
theorem ib_le {i : Int} {k : Nat} : ib i ≤ k ↔ i.natAbs < 2 ^ k := bl_le
theorem mulOk_ib {i j : Int} (h : ib i + ib j ≤ 900000) : mulOk i j = true := mulOk_bits (bl_lt _) (bl_lt _) h
theorem divOk_ib {i j : Int} (h : j ≠ 0) (hb : ib j ≤ 9000) : divOk i j = true := divOk_of h (ib_le.mp hb)
def hq (q : Rat) : Nat := max (ib q.num) (bl q.den)
theorem hq_num (q : Rat) : ib q.num ≤ hq q := Nat.le_max_left _ _
theorem hq_den (q : Rat) : bl q.den ≤ hq q := Nat.le_max_right _ _
theorem hq_denI (q : Rat) : ib (q.den : Int) ≤ hq q := by rw [ib_nat]; exact hq_den q
theorem hq_le {q : Rat} {k : Nat} : hq q ≤ k ↔ ib q.num ≤ k ∧ bl q.den ≤ k := by unfold hq; omega
theorem hq_divInt {t b : Int} {k : Nat} (h1 : ib t ≤ k) (h2 : ib b ≤ k) (hk : 1 ≤ k) : hq (Rat.divInt t b) ≤ k := by
  rw [hq_le, Rat.num_divInt, Rat.den_divInt]
  constructor
  · refine Nat.le_trans (bl_mono (Nat.le_trans (Int.natAbs_ediv_le_natAbs _ _) ?_)) h1
    rw [Int.natAbs_mul, Int.natAbs_sign]
    split <;> omega
  · split
    · unfold bl; simp; exact hk
    · exact Nat.le_trans (bl_mono (Nat.div_le_self _ _)) h2
theorem hq_pos (q : Rat) : 1 ≤ hq q := by
  have h := hq_den q
  have : bl q.den ≠ 0 := by
    unfold bl
    rw [if_neg q.den_nz]
    omega
  omega
theorem add_divInt (q r : Rat) : q + r = Rat.divInt (q.num * r.den + r.num * q.den) (q.den * r.den) := by
  rw [Rat.add_def', ← Rat.divInt_ofNat]
  simp
theorem sub_divInt (q r : Rat) : q - r = Rat.divInt (q.num * r.den - r.num * q.den) (q.den * r.den) := by
  rw [Rat.sub_def', ← Rat.divInt_ofNat]
  simp
theorem mul_divInt (q r : Rat) : q * r = Rat.divInt (q.num * r.num) (q.den * r.den) := by
  rw [Rat.mul_def', ← Rat.divInt_ofNat]
  simp
theorem div_divInt (q r : Rat) : q / r = Rat.divInt (q.num * r.den) (q.den * r.num) := by
  have h : q / r = Rat.divInt q.num q.den / Rat.divInt r.num r.den := by rw [Rat.num_divInt_den, Rat.num_divInt_den]
  rw [h, Rat.div_def, Rat.inv_divInt, Rat.divInt_mul_divInt]
theorem hq_add (q r : Rat) : hq (q + r) ≤ hq q + hq r + 1 := by
  rw [add_divInt]
  have a := hq_num q
  have b := hq_num r
  have c := hq_denI q
  have d := hq_denI r
  have e := ib_add (i := q.num * r.den) (j := r.num * q.den)
  have f := ib_mul (i := q.num) (j := r.den)
  have g := ib_mul (i := r.num) (j := q.den)
  have h := ib_mul (i := (q.den : Int)) (j := r.den)
  exact hq_divInt (by omega) (by omega) (by omega)
theorem hq_sub (q r : Rat) : hq (q - r) ≤ hq q + hq r + 1 := by
  rw [sub_divInt]
  have a := hq_num q
  have b := hq_num r
  have c := hq_denI q
  have d := hq_denI r
  have e := ib_sub (i := q.num * r.den) (j := r.num * q.den)
  have f := ib_mul (i := q.num) (j := r.den)
  have g := ib_mul (i := r.num) (j := q.den)
  have h := ib_mul (i := (q.den : Int)) (j := r.den)
  exact hq_divInt (by omega) (by omega) (by omega)
theorem hq_mul (q r : Rat) : hq (q * r) ≤ hq q + hq r := by
  rw [mul_divInt]
  have a := hq_num q
  have b := hq_num r
  have c := hq_denI q
  have d := hq_denI r
  have g := ib_mul (i := q.num) (j := r.num)
  have h := ib_mul (i := (q.den : Int)) (j := r.den)
  have p := hq_pos q
  exact hq_divInt (by omega) (by omega) (by omega)
theorem hq_neg (q : Rat) : hq (-q) = hq q := by
  unfold hq
  rw [Rat.neg_num, Rat.neg_den, ib_neg]
def lowM (t b : Int) : Int := if b < 0 then 0 - (Int.gcd t b : Int) else (Int.gcd t b : Int)
theorem lowM_ne {t b : Int} (hb : b ≠ 0) : lowM t b ≠ 0 := by
  have : Int.gcd t b ≠ 0 := by
    intro e
    exact hb (Int.gcd_eq_zero_iff.mp e).2
  unfold lowM
  split <;> omega
theorem lowM_ib {t b : Int} (hb : b ≠ 0) : ib (lowM t b) ≤ ib b := by
  have h1 : (lowM t b).natAbs = Int.gcd t b := by unfold lowM; split <;> omega
  unfold ib
  rw [h1]
  refine bl_mono (Nat.le_of_dvd (by omega) ?_)
  exact Int.gcd_dvd_natAbs_right t b
theorem lowM_num {t b : Int} (hb : b ≠ 0) : t.fdiv (lowM t b) = (Rat.divInt t b).num := by
  have hd : (Int.gcd t b : Int) ∣ t := Int.gcd_dvd_left t b
  rw [Rat.num_divInt, Int.gcd_comm b t]
  unfold lowM
  split
  · rename_i h
    rw [Int.sign_eq_neg_one_of_neg h, Int.zero_sub]
    rw [Int.fdiv_eq_ediv_of_dvd (by rw [Int.neg_dvd]; exact hd), Int.ediv_neg]
    rw [Int.neg_one_mul, Int.neg_ediv_of_dvd hd]
  · rename_i h
    rw [Int.sign_eq_one_of_pos (by omega), Int.one_mul, Int.fdiv_eq_ediv_of_dvd hd]
theorem lowM_den {t b : Int} (hb : b ≠ 0) : b.fdiv (lowM t b) = (Rat.divInt t b).den := by
  have hd : (Int.gcd t b : Int) ∣ b := Int.gcd_dvd_right t b
  rw [Rat.den_divInt, if_neg hb, Int.gcd_comm b t]
  unfold lowM
  split
  · rename_i h
    rw [Int.zero_sub, Int.fdiv_eq_ediv_of_dvd (by rw [Int.neg_dvd]; exact hd), Int.ediv_neg, ← Int.neg_ediv_of_dvd hd]
    have : -b = (b.natAbs : Int) := by omega
    rw [this]
    rfl
  · rename_i h
    rw [Int.fdiv_eq_ediv_of_dvd hd]
    have : b = (b.natAbs : Int) := by omega
    rw [this]
    simp
theorem fr_low {t b : Int} (hb : b ≠ 0) : PyData.tuple [.int (t.fdiv (lowM t b)), .int (b.fdiv (lowM t b))] = fr (Rat.divInt t b) := by
  rw [lowM_num hb, lowM_den hb]
  rfl
theorem gcd_fmod (a b : Int) : Int.gcd b (a.fmod b) = Int.gcd a b := by
  rw [Int.fmod_def, Int.gcd_sub_mul_left_right, Int.gcd_comm]
theorem fmod_abs (a b : Int) (h : b ≠ 0) : (a.fmod b).natAbs < b.natAbs := by
  rcases Int.lt_or_gt_of_ne h with z | z
  · have h1 := Int.fmod_nonneg_of_pos (-a) (b := -b) (by omega)
    have h2 := Int.fmod_lt_of_pos (-a) (b := -b) (by omega)
    rw [Int.neg_fmod_neg] at h1 h2
    omega
  · have h1 := Int.fmod_nonneg_of_pos a z
    have h2 := Int.fmod_lt_of_pos a z
    omega
def dq (q : Rat) : Nat := bl q.den
theorem dq_hq (q : Rat) : dq q ≤ hq q := hq_den q
def Ok2 (q r : Rat) : Prop := dq q + dq r ≤ 9000 ∧ hq q + hq r ≤ 400000
def OkD (q r : Rat) : Prop := dq q + ib r.num ≤ 9000 ∧ hq q + hq r ≤ 400000
instance {q r : Rat} : Decidable (Ok2 q r) := by unfold Ok2; infer_instance
instance {q r : Rat} : Decidable (OkD q r) := by unfold OkD; infer_instance
theorem ok2_of {q r : Rat} (h : hq q + hq r ≤ 9000) : Ok2 q r := ⟨by have := dq_hq q; have := dq_hq r; omega, by omega⟩
theorem dq_divInt {t b : Int} : dq (Rat.divInt t b) ≤ max 1 (ib b) := by
  unfold dq
  rw [Rat.den_divInt]
  split
  · exact Nat.le_trans (show bl 1 ≤ 1 by decide) (Nat.le_max_left _ _)
  · exact Nat.le_trans (bl_mono (Nat.div_le_self _ _)) (Nat.le_max_right _ _)
theorem dq_pos (q : Rat) : 1 ≤ dq q := by
  unfold dq
  have : bl q.den ≠ 0 := by
    unfold bl
    rw [if_neg q.den_nz]
    omega
  omega
theorem dq_den (q : Rat) : ib (q.den : Int) = dq q := ib_nat
theorem dq_bot (q r : Rat) : ib ((q.den : Int) * r.den) ≤ dq q + dq r := by
  have := ib_mul (i := (q.den : Int)) (j := r.den)
  rw [dq_den, dq_den] at this
  exact this
theorem dq_add (q r : Rat) : dq (q + r) ≤ dq q + dq r := by
  rw [add_divInt]
  have := dq_divInt (t := q.num * r.den + r.num * q.den) (b := q.den * r.den)
  have := dq_bot q r
  have := dq_pos q
  omega
theorem dq_sub (q r : Rat) : dq (q - r) ≤ dq q + dq r := by
  rw [sub_divInt]
  have := dq_divInt (t := q.num * r.den - r.num * q.den) (b := q.den * r.den)
  have := dq_bot q r
  have := dq_pos q
  omega
theorem dq_mul (q r : Rat) : dq (q * r) ≤ dq q + dq r := by
  rw [mul_divInt]
  have := dq_divInt (t := q.num * r.num) (b := q.den * r.den)
  have := dq_bot q r
  have := dq_pos q
  omega
theorem dq_div (q r : Rat) : dq (q / r) ≤ dq q + ib r.num := by
  rw [div_divInt]
  have := dq_divInt (t := q.num * r.den) (b := q.den * r.num)
  have := ib_mul (i := (q.den : Int)) (j := r.num)
  rw [dq_den] at this
  have := dq_pos q
  omega
theorem dq_neg (q : Rat) : dq (-q) = dq q := by unfold dq; rw [Rat.neg_den]
end L3
namespace L3
open PySem PySem.Spec PyProof.Rows L2
section
variable {κ : Type} [DecidableEq κ]
def kAt : List κ → κ → Option Nat
  | [], _ => none
  | x :: r, k => if x = k then some 0 else (kAt r k).map (· + 1)
theorem kAt_lt : ∀ {ks : List κ} {k : κ} {n : Nat}, kAt ks k = some n → ks[n]? = some k
  | [], k, n, h => by cases h
  | x :: r, k, n, h => by
    unfold kAt at h
    by_cases e : x = k
    · rw [if_pos e] at h; cases h; simp [e]
    · rw [if_neg e] at h
      obtain ⟨m, e1, e2⟩ := Option.map_eq_some_iff.mp h
      subst e2
      simpa using kAt_lt e1
theorem kAt_none : ∀ {ks : List κ} {k : κ}, kAt ks k = none → k ∉ ks
  | [], k, h => by simp
  | x :: r, k, h => by
    unfold kAt at h
    by_cases e : x = k
    · rw [if_pos e] at h; cases h
    · rw [if_neg e] at h
      simp at h
      simp [kAt_none h, Ne.symm e]
theorem valV_at : ∀ {kvs : List (κ × V)} {k : κ} {n : Nat}, kAt (kvs.map Prod.fst) k = some n → ∃ v, kvs[n]? = some (k, v) ∧ valV kvs k = some v
  | [], k, n, h => by cases h
  | p :: r, k, n, h => by
    unfold kAt at h
    simp only [List.map_cons] at h
    by_cases e : p.1 = k
    · rw [if_pos e] at h; cases h
      exact ⟨p.2, by simp [← e], valV_pos e⟩
    · rw [if_neg e] at h
      obtain ⟨m, e1, e2⟩ := Option.map_eq_some_iff.mp h
      subst e2
      obtain ⟨v, h1, h2⟩ := valV_at e1
      exact ⟨v, by simpa using h1, by rw [valV_neg e]; exact h2⟩
theorem valV_no : ∀ {kvs : List (κ × V)} {k : κ}, kAt (kvs.map Prod.fst) k = none → valV kvs k = none
  | [], k, h => rfl
  | p :: r, k, h => by
    unfold kAt at h
    simp only [List.map_cons] at h
    by_cases e : p.1 = k
    · rw [if_pos e] at h; cases h
    · rw [if_neg e] at h
      simp at h
      rw [valV_neg e]
      exact valV_no h
theorem repl_none {k : κ} {v : V} : ∀ {kvs : List (κ × V)}, k ∉ kvs.map Prod.fst → kvs.map (fun kv => if kv.1 = k then (kv.1, v) else kv) = kvs
  | [], h => rfl
  | p :: r, h => by
    simp only [List.map_cons, List.mem_cons, not_or] at h
    rw [List.map_cons, if_neg (Ne.symm h.1), repl_none h.2]
theorem repl_at : ∀ {kvs : List (κ × V)} {k : κ} {n : Nat} {v : V}, (kvs.map Prod.fst).Nodup → kAt (kvs.map Prod.fst) k = some n →
    (kvs.map (fun kv => if kv.1 = k then (kv.1, v) else kv)).map Prod.fst = kvs.map Prod.fst ∧ (kvs.map (fun kv => if kv.1 = k then (kv.1, v) else kv)).map Prod.snd = (kvs.map Prod.snd).set n v
  | [], k, n, v, d, h => by cases h
  | p :: r, k, n, v, d, h => by
    unfold kAt at h
    simp only [List.map_cons] at h d
    by_cases e : p.1 = k
    · rw [if_pos e] at h; cases h
      have hn : k ∉ r.map Prod.fst := by rw [← e]; exact (List.nodup_cons.mp d).1
      rw [List.map_cons, if_pos e, repl_none hn]
      exact ⟨rfl, rfl⟩
    · rw [if_neg e] at h
      obtain ⟨m, e1, e2⟩ := Option.map_eq_some_iff.mp h
      subst e2
      obtain ⟨h1, h2⟩ := repl_at (v := v) (List.nodup_cons.mp d).2 e1
      rw [List.map_cons, if_neg e]
      simp only [List.map_cons, List.set_cons_succ]
      rw [h1, h2]
      exact ⟨rfl, rfl⟩
theorem putK_at {kvs : List (κ × V)} {k : κ} {n : Nat} {v : V} (d : (kvs.map Prod.fst).Nodup) (h : kAt (kvs.map Prod.fst) k = some n) : (putK kvs k v).map Prod.fst = kvs.map Prod.fst ∧ (putK kvs k v).map Prod.snd = (kvs.map Prod.snd).set n v := by
  unfold putK
  obtain ⟨u, h1, h2⟩ := valV_at h
  rw [valV_any, h2]
  simp only [Option.isSome_some, if_true]
  exact repl_at d h
end
def PyData.key : PyData → Option Key
  | .int i => some (.inl i)
  | .str x => some (.inr x)
  | _ => none
def T.key : T → Option Key
  | .d x => PyData.key x
  | _ => none
theorem key_rp {K : PySem.W.Frag} {F : Addr → Prop} {H : Hp} {v : V} {t : T} {A : List Addr} {k : Key} (h : Rp K F H v t A) (e : t.key = some k) : v = kV k := by
  cases h with
  | d h =>
    cases h with
    | int i => cases e; rfl
    | str x => cases e; rfl
    | _ => cases e
  | _ => cases e
inductive PK where
  | ix (j : Int) | key (k : Key) | fld (f : Str)
def T.atK : List PK → T → Option T
  | [], t => some t
  | .ix j :: r, .ol ts => (atI ts j).bind (T.atK r)
  | .ix j :: r, .ot ts => (atI ts j).bind (T.atK r)
  | .key k :: r, .od ks ts => (kAt ks k).bind fun n => (ts[n]?).bind (T.atK r)
  | .key k :: r, .fd _ ks ts => (kAt ks k).bind fun n => (ts[n]?).bind (T.atK r)
  | .fld f :: r, .ob _ fs ts => (kAt fs f).bind fun n => (ts[n]?).bind (T.atK r)
  | _ :: _, _ => none
def T.putK? : List PK → T → T → Option T
  | [], n, _ => some n
  | .ix j :: r, n, .ol ts => (ixN ts.length j).bind fun k => (ts[k]?).bind fun t => (T.putK? r n t).map fun t' => .ol (ts.set k t')
  | .ix j :: r, n, .ot ts => (ixN ts.length j).bind fun k => (ts[k]?).bind fun t => (T.putK? r n t).map fun t' => .ot (ts.set k t')
  | .key k :: r, n, .od ks ts => (kAt ks k).bind fun m => (ts[m]?).bind fun t => (T.putK? r n t).map fun t' => .od ks (ts.set m t')
  | .key k :: r, n, .fd a ks ts => (kAt ks k).bind fun m => (ts[m]?).bind fun t => (T.putK? r n t).map fun t' => .fd a ks (ts.set m t')
  | .fld f :: r, n, .ob x fs ts => (kAt fs f).bind fun m => (ts[m]?).bind fun t => (T.putK? r n t).map fun t' => .ob x fs (ts.set m t')
  | _ :: _, _, _ => none
inductive LocK (H : Hp) : V → List PK → V → Prop
  | here (v : V) : LocK H v [] v
  | lst {a : Addr} {vs : List V} {j : Int} {js : List PK} {v u : V} : H a = some (.lst vs) → atI vs j = some v → LocK H v js u → LocK H (.ref a) (.ix j :: js) u
  | tup {a : Addr} {vs : List V} {j : Int} {js : List PK} {v u : V} : H a = some (.tup vs) → atI vs j = some v → LocK H v js u → LocK H (.ref a) (.ix j :: js) u
  | dic {a : Addr} {kvs : List (Key × V)} {k : Key} {js : List PK} {v u : V} : H a = some (.dK kvs) → valV kvs k = some v → LocK H v js u → LocK H (.ref a) (.key k :: js) u
  | dif {a : Addr} {o : Obj} {kvs : List (Key × V)} {k : Key} {js : List PK} {v u : V} : H a = some (.frz o (.dK kvs)) → valV kvs k = some v → LocK H v js u → LocK H (.ref a) (.key k :: js) u
  | ins {a C dx : Addr} {kvs : List (Str × V)} {f : Str} {js : List PK} {v u : V} : H a = some (.ins C dx kvs) → kvs.lookup f = some v → LocK H v js u → LocK H (.ref a) (.fld f :: js) u
theorem LocK.uniq {H : Hp} : ∀ {v : V} {p : List PK} {u u' : V}, LocK H v p u → LocK H v p u' → u = u'
  | _, _, _, _, .here _, .here _ => rfl
  | _, _, _, _, .lst h1 h2 h3, .lst g1 g2 g3 => by
    rw [h1] at g1; cases g1
    rw [h2] at g2; cases g2
    exact h3.uniq g3
  | _, _, _, _, .tup h1 h2 h3, .tup g1 g2 g3 => by
    rw [h1] at g1; cases g1
    rw [h2] at g2; cases g2
    exact h3.uniq g3
  | _, _, _, _, .lst h1 _ _, .tup g1 _ _ => by rw [h1] at g1; cases g1
  | _, _, _, _, .tup h1 _ _, .lst g1 _ _ => by rw [h1] at g1; cases g1
  | _, _, _, _, .dic h1 h2 h3, .dic g1 g2 g3 => by
    rw [h1] at g1; cases g1
    rw [h2] at g2; cases g2
    exact h3.uniq g3
  | _, _, _, _, .dif h1 h2 h3, .dif g1 g2 g3 => by
    rw [h1] at g1; cases g1
    rw [h2] at g2; cases g2
    exact h3.uniq g3
  | _, _, _, _, .dic h1 _ _, .dif g1 _ _ => by rw [h1] at g1; cases g1
  | _, _, _, _, .dif h1 _ _, .dic g1 _ _ => by rw [h1] at g1; cases g1
  | _, _, _, _, .ins h1 h2 h3, .ins g1 g2 g3 => by
    rw [h1] at g1; cases g1
    rw [h2] at g2; cases g2
    exact h3.uniq g3
theorem LocK.grow {H H' : Hp} (s : Same H H') : ∀ {v : V} {p : List PK} {u : V}, LocK H v p u → LocK H' v p u
  | _, _, _, .here v => .here v
  | _, _, _, .lst h1 h2 h3 => .lst (s _ _ h1) h2 (h3.grow s)
  | _, _, _, .tup h1 h2 h3 => .tup (s _ _ h1) h2 (h3.grow s)
  | _, _, _, .dic h1 h2 h3 => .dic (s _ _ h1) h2 (h3.grow s)
  | _, _, _, .dif h1 h2 h3 => .dif (s _ _ h1) h2 (h3.grow s)
  | _, _, _, .ins h1 h2 h3 => .ins (s _ _ h1) h2 (h3.grow s)
theorem LocK.snoc {H : Hp} : ∀ {v : V} {p : List PK} {u w : V} {j : PK}, LocK H v p u → LocK H u [j] w → LocK H v (p ++ [j]) w
  | _, _, _, _, _, .here v, k => k
  | _, _, _, _, _, .lst h1 h2 h3, k => .lst h1 h2 (h3.snoc k)
  | _, _, _, _, _, .tup h1 h2 h3, k => .tup h1 h2 (h3.snoc k)
  | _, _, _, _, _, .dic h1 h2 h3, k => .dic h1 h2 (h3.snoc k)
  | _, _, _, _, _, .dif h1 h2 h3, k => .dif h1 h2 (h3.snoc k)
  | _, _, _, _, _, .ins h1 h2 h3, k => .ins h1 h2 (h3.snoc k)
theorem atK_snoc {j : PK} : ∀ {p : List PK} {t0 t : T}, T.atK (p ++ [j]) t0 = some t → ∃ t1, T.atK p t0 = some t1 ∧ T.atK [j] t1 = some t
  | [], t0, t, h => ⟨t0, rfl, h⟩
  | .ix i :: p, .ol ts, t, h => by
    obtain ⟨t2, e1, e2⟩ := Option.bind_eq_some_iff.mp (show (atI ts i).bind (T.atK (p ++ [j])) = some t from h)
    obtain ⟨t1, e3, e4⟩ := atK_snoc e2
    exact ⟨t1, by show (atI ts i).bind _ = _; rw [e1]; exact e3, e4⟩
  | .ix i :: p, .ot ts, t, h => by
    obtain ⟨t2, e1, e2⟩ := Option.bind_eq_some_iff.mp (show (atI ts i).bind (T.atK (p ++ [j])) = some t from h)
    obtain ⟨t1, e3, e4⟩ := atK_snoc e2
    exact ⟨t1, by show (atI ts i).bind _ = _; rw [e1]; exact e3, e4⟩
  | .key k :: p, .od ks ts, t, h => by
    obtain ⟨n, e0, h⟩ := Option.bind_eq_some_iff.mp (show (kAt ks k).bind (fun n => (ts[n]?).bind (T.atK (p ++ [j]))) = some t from h)
    obtain ⟨t2, e1, e2⟩ := Option.bind_eq_some_iff.mp h
    obtain ⟨t1, e3, e4⟩ := atK_snoc e2
    exact ⟨t1, by show (kAt ks k).bind (fun n => (ts[n]?).bind _) = _; rw [e0]; show (ts[n]?).bind _ = _; rw [e1]; exact e3, e4⟩
  | .key k :: p, .fd a0 ks ts, t, h => by
    obtain ⟨n, e0, h⟩ := Option.bind_eq_some_iff.mp (show (kAt ks k).bind (fun n => (ts[n]?).bind (T.atK (p ++ [j]))) = some t from h)
    obtain ⟨t2, e1, e2⟩ := Option.bind_eq_some_iff.mp h
    obtain ⟨t1, e3, e4⟩ := atK_snoc e2
    exact ⟨t1, by show (kAt ks k).bind (fun n => (ts[n]?).bind _) = _; rw [e0]; show (ts[n]?).bind _ = _; rw [e1]; exact e3, e4⟩
  | .fld k :: p, .ob x ks ts, t, h => by
    obtain ⟨n, e0, h⟩ := Option.bind_eq_some_iff.mp (show (kAt ks k).bind (fun n => (ts[n]?).bind (T.atK (p ++ [j]))) = some t from h)
    obtain ⟨t2, e1, e2⟩ := Option.bind_eq_some_iff.mp h
    obtain ⟨t1, e3, e4⟩ := atK_snoc e2
    exact ⟨t1, by show (kAt ks k).bind (fun n => (ts[n]?).bind _) = _; rw [e0]; show (ts[n]?).bind _ = _; rw [e1]; exact e3, e4⟩
  | .ix _ :: _, .d _, _, h => by cases h
  | .ix _ :: _, .no _, _, h => by cases h
  | .ix _ :: _, .hl, _, h => by cases h
  | .ix _ :: _, .fk _ _ _, _, h => by cases h
  | .ix _ :: _, .dt _ _ _, _, h => by cases h
  | .ix _ :: _, .od _ _, _, h => by cases h
  | .ix _ :: _, .fd _ _ _, _, h => by cases h
  | .ix _ :: _, .ob _ _ _, _, h => by cases h
  | .ix _ :: _, .rd _, _, h => by cases h
  | .ix _ :: _, .ex _, _, h => by cases h
  | .key _ :: _, .d _, _, h => by cases h
  | .key _ :: _, .no _, _, h => by cases h
  | .key _ :: _, .hl, _, h => by cases h
  | .key _ :: _, .fk _ _ _, _, h => by cases h
  | .key _ :: _, .dt _ _ _, _, h => by cases h
  | .key _ :: _, .ol _, _, h => by cases h
  | .key _ :: _, .ot _, _, h => by cases h
  | .key _ :: _, .ob _ _ _, _, h => by cases h
  | .key _ :: _, .rd _, _, h => by cases h
  | .key _ :: _, .ex _, _, h => by cases h
  | .fld _ :: _, .d _, _, h => by cases h
  | .fld _ :: _, .no _, _, h => by cases h
  | .fld _ :: _, .hl, _, h => by cases h
  | .fld _ :: _, .fk _ _ _, _, h => by cases h
  | .fld _ :: _, .dt _ _ _, _, h => by cases h
  | .fld _ :: _, .ol _, _, h => by cases h
  | .fld _ :: _, .ot _, _, h => by cases h
  | .fld _ :: _, .od _ _, _, h => by cases h
  | .fld _ :: _, .fd _ _ _, _, h => by cases h
  | .fld _ :: _, .rd _, _, h => by cases h
  | .fld _ :: _, .ex _, _, h => by cases h
theorem lookup_at : ∀ {kvs : List (Str × V)} {f : Str} {n : Nat}, kAt (kvs.map Prod.fst) f = some n → ∃ v, kvs[n]? = some (f, v) ∧ kvs.lookup f = some v
  | [], k, n, h => by cases h
  | p :: r, k, n, h => by
    unfold kAt at h
    simp only [List.map_cons] at h
    by_cases e : p.1 = k
    · rw [if_pos e] at h; cases h
      refine ⟨p.2, by simp [← e], ?_⟩
      obtain ⟨g, x⟩ := p
      have e : g = k := e
      subst e
      simp [List.lookup_cons]
    · rw [if_neg e] at h
      obtain ⟨m, e1, e2⟩ := Option.map_eq_some_iff.mp h
      subst e2
      obtain ⟨v, h1, h2⟩ := lookup_at e1
      refine ⟨v, by simpa using h1, ?_⟩
      obtain ⟨g, x⟩ := p
      have : (k == g) = false := by simp; exact Ne.symm e
      rw [List.lookup_cons, this]
      exact h2
section
variable {K : PySem.W.Frag} {F F' : Addr → Prop} {H H' : Hp}
theorem Rp.locK : ∀ {p : List PK} {v0 : V} {t0 t : T} {A0 : List Addr}, Rp K F H v0 t0 A0 → T.atK p t0 = some t → ∃ (v : V) (A1 B : List Addr), LocK H v0 p v ∧ Rp K F H v t A1 ∧ (∀ a, A0.count a = A1.count a + B.count a) ∧
    ∀ {F' : Addr → Prop} {H' : Hp}, Mono F F' H H' → (∀ a ∈ B, H' a = H a) → ∀ {t' : T} {A2 : List Addr}, Rp K F' H' v t' A2 → ∃ t0' C, T.putK? p t' t0 = some t0' ∧ Rp K F' H' v0 t0' C ∧ ∀ a, C.count a = A2.count a + B.count a
  | [], v0, t0, t, A0, h, e => by
    cases e
    exact ⟨v0, A0, [], .here v0, h, fun a => by simp, fun m k t' A2 x => ⟨t', A2, rfl, x, fun a => by simp⟩⟩
  | .ix j :: js, _, .ol ts, t, _, .ol (a := a0) (vs := vs) (A := A1) h r, e => by
    obtain ⟨t1, e1, e2⟩ := Option.bind_eq_some_iff.mp (show (atI ts j).bind (T.atK js) = some t from e)
    obtain ⟨k, ek, ev⟩ := atI_ix e1
    obtain ⟨v1, A2, B2, g1, g2, g3, g4⟩ := r.around ev
    obtain ⟨v, A3, B3, l, x, hc, pt⟩ := Rp.locK g2 e2
    have lv : atI vs j = some v1 := by
      show (ixN vs.length j).bind (fun k => vs[k]?) = _
      rw [r.len, ek]; exact g1
    refine ⟨v, A3, a0 :: (B3 ++ B2), .lst h lv l, x, fun a => by rw [List.count_cons, List.count_cons, List.count_append, g3 a, hc a]; omega, fun {F' H'} m kk t' A4 y => ?_⟩
    have k2 : ∀ a ∈ B2, H' a = H a := fun a ha => kk a (List.mem_cons_of_mem _ (List.mem_append_right _ ha))
    have k3 : ∀ a ∈ B3, H' a = H a := fun a ha => kk a (List.mem_cons_of_mem _ (List.mem_append_left _ ha))
    obtain ⟨t1', C, q1, q2, q3⟩ := pt m k3 y
    obtain ⟨C2, s, q4⟩ := g4.put m k2 q2
    have es : vs.set k v1 = vs := set_self g1
    rw [es] at s
    refine ⟨.ol (ts.set k t1'), a0 :: C2, ?_, .ol ((kk a0 List.mem_cons_self).trans h) s, fun a => by rw [List.count_cons, List.count_cons, List.count_append, q4 a, q3 a]; omega⟩
    show (ixN ts.length j).bind _ = _
    rw [ek]
    show (ts[k]?).bind _ = _
    rw [ev]
    show (T.putK? js t' t1).map _ = _
    rw [q1]
    rfl
  | .ix j :: js, _, .ot ts, t, _, .ot (a := a0) (vs := vs) (A := A1) h r, e => by
    obtain ⟨t1, e1, e2⟩ := Option.bind_eq_some_iff.mp (show (atI ts j).bind (T.atK js) = some t from e)
    obtain ⟨k, ek, ev⟩ := atI_ix e1
    obtain ⟨v1, A2, B2, g1, g2, g3, g4⟩ := r.around ev
    obtain ⟨v, A3, B3, l, x, hc, pt⟩ := Rp.locK g2 e2
    have lv : atI vs j = some v1 := by
      show (ixN vs.length j).bind (fun k => vs[k]?) = _
      rw [r.len, ek]; exact g1
    refine ⟨v, A3, B3 ++ B2, .tup h lv l, x, fun a => by rw [List.count_append, g3 a, hc a]; omega, fun {F' H'} m kk t' A4 y => ?_⟩
    have k2 : ∀ a ∈ B2, H' a = H a := fun a ha => kk a (List.mem_append_right _ ha)
    have k3 : ∀ a ∈ B3, H' a = H a := fun a ha => kk a (List.mem_append_left _ ha)
    obtain ⟨t1', C, q1, q2, q3⟩ := pt m k3 y
    obtain ⟨C2, s, q4⟩ := g4.put m k2 q2
    have es : vs.set k v1 = vs := set_self g1
    rw [es] at s
    refine ⟨.ot (ts.set k t1'), C2, ?_, .ot (m.still _ _ h trivial) s, fun a => by rw [q4 a, q3 a, List.count_append]; omega⟩
    show (ixN ts.length j).bind _ = _
    rw [ek]
    show (ts[k]?).bind _ = _
    rw [ev]
    show (T.putK? js t' t1).map _ = _
    rw [q1]
    rfl
  | .key k :: js, _, .od ks ts, t, _, .od (a := a0) (kvs := kvs) (A := A1) h e0 dd r, e => by
    obtain ⟨n, en, e⟩ := Option.bind_eq_some_iff.mp (show (kAt ks k).bind (fun n => (ts[n]?).bind (T.atK js)) = some t from e)
    obtain ⟨t1, ev, e2⟩ := Option.bind_eq_some_iff.mp e
    obtain ⟨v1, A2, B2, g1, g2, g3, g4⟩ := r.around ev
    obtain ⟨v, A3, B3, l, x, hc, pt⟩ := Rp.locK g2 e2
    have lv : valV kvs k = some v1 := by
      obtain ⟨u, h1, h2⟩ := valV_at (kvs := kvs) (k := k) (n := n) (by rw [e0]; exact en)
      rw [List.getElem?_map, h1] at g1
      cases g1
      exact h2
    refine ⟨v, A3, a0 :: (B3 ++ B2), .dic h lv l, x, fun a => by rw [List.count_cons, List.count_cons, List.count_append, g3 a, hc a]; omega, fun {F' H'} m kk t' A4 y => ?_⟩
    have k2 : ∀ a ∈ B2, H' a = H a := fun a ha => kk a (List.mem_cons_of_mem _ (List.mem_append_right _ ha))
    have k3 : ∀ a ∈ B3, H' a = H a := fun a ha => kk a (List.mem_cons_of_mem _ (List.mem_append_left _ ha))
    obtain ⟨t1', C, q1, q2, q3⟩ := pt m k3 y
    obtain ⟨C2, s, q4⟩ := g4.put m k2 q2
    have es : (kvs.map Prod.snd).set n v1 = kvs.map Prod.snd := set_self g1
    rw [es] at s
    refine ⟨.od ks (ts.set n t1'), a0 :: C2, ?_, .od ((kk a0 List.mem_cons_self).trans h) e0 dd s, fun a => by rw [List.count_cons, List.count_cons, List.count_append, q4 a, q3 a]; omega⟩
    show (kAt ks k).bind _ = _
    rw [en]
    show (ts[n]?).bind _ = _
    rw [ev]
    show (T.putK? js t' t1).map _ = _
    rw [q1]
    rfl
  | .key k :: js, _, .fd _ ks ts, t, _, .fd (a := a0) (kvs := kvs) (A := A1) h e0 dd r, e => by
    obtain ⟨n, en, e⟩ := Option.bind_eq_some_iff.mp (show (kAt ks k).bind (fun n => (ts[n]?).bind (T.atK js)) = some t from e)
    obtain ⟨t1, ev, e2⟩ := Option.bind_eq_some_iff.mp e
    obtain ⟨v1, A2, B2, g1, g2, g3, g4⟩ := r.around ev
    obtain ⟨v, A3, B3, l, x, hc, pt⟩ := Rp.locK g2 e2
    have lv : valV kvs k = some v1 := by
      obtain ⟨u, h1, h2⟩ := valV_at (kvs := kvs) (k := k) (n := n) (by rw [e0]; exact en)
      rw [List.getElem?_map, h1] at g1
      cases g1
      exact h2
    refine ⟨v, A3, B3 ++ B2, .dif h lv l, x, fun a => by rw [List.count_append, g3 a, hc a]; omega, fun {F' H'} m kk t' A4 y => ?_⟩
    have k2 : ∀ a ∈ B2, H' a = H a := fun a ha => kk a (List.mem_append_right _ ha)
    have k3 : ∀ a ∈ B3, H' a = H a := fun a ha => kk a (List.mem_append_left _ ha)
    obtain ⟨t1', C, q1, q2, q3⟩ := pt m k3 y
    obtain ⟨C2, s, q4⟩ := g4.put m k2 q2
    have es : (kvs.map Prod.snd).set n v1 = kvs.map Prod.snd := set_self g1
    rw [es] at s
    refine ⟨.fd a0 ks (ts.set n t1'), C2, ?_, .fd (m.still _ _ h trivial) e0 dd s, fun a => by rw [q4 a, q3 a, List.count_append]; omega⟩
    show (kAt ks k).bind _ = _
    rw [en]
    show (ts[n]?).bind _ = _
    rw [ev]
    show (T.putK? js t' t1).map _ = _
    rw [q1]
    rfl
  | .fld k :: js, _, .ob _ ks ts, t, _, .ob (a := a0) (x := xn) (kvs := kvs) (A := A1) h ec e0 r, e => by
    obtain ⟨n, en, e⟩ := Option.bind_eq_some_iff.mp (show (kAt ks k).bind (fun n => (ts[n]?).bind (T.atK js)) = some t from e)
    obtain ⟨t1, ev, e2⟩ := Option.bind_eq_some_iff.mp e
    obtain ⟨v1, A2, B2, g1, g2, g3, g4⟩ := r.around ev
    obtain ⟨v, A3, B3, l, x, hc, pt⟩ := Rp.locK g2 e2
    have lv : kvs.lookup k = some v1 := by
      obtain ⟨u, h1, h2⟩ := lookup_at (kvs := kvs) (f := k) (n := n) (by rw [e0]; exact en)
      rw [List.getElem?_map, h1] at g1
      cases g1
      exact h2
    refine ⟨v, A3, a0 :: (B3 ++ B2), .ins h lv l, x, fun a => by rw [List.count_cons, List.count_cons, List.count_append, g3 a, hc a]; omega, fun {F' H'} m kk t' A4 y => ?_⟩
    have k2 : ∀ a ∈ B2, H' a = H a := fun a ha => kk a (List.mem_cons_of_mem _ (List.mem_append_right _ ha))
    have k3 : ∀ a ∈ B3, H' a = H a := fun a ha => kk a (List.mem_cons_of_mem _ (List.mem_append_left _ ha))
    obtain ⟨t1', C, q1, q2, q3⟩ := pt m k3 y
    obtain ⟨C2, s, q4⟩ := g4.put m k2 q2
    have es : (kvs.map Prod.snd).set n v1 = kvs.map Prod.snd := set_self g1
    rw [es] at s
    refine ⟨.ob xn ks (ts.set n t1'), a0 :: C2, ?_, .ob ((kk a0 List.mem_cons_self).trans h) ec e0 s, fun a => by rw [List.count_cons, List.count_cons, List.count_append, q4 a, q3 a]; omega⟩
    show (kAt ks k).bind _ = _
    rw [en]
    show (ts[n]?).bind _ = _
    rw [ev]
    show (T.putK? js t' t1).map _ = _
    rw [q1]
    rfl
  | .ix _ :: _, _, .d _, _, _, _, e => by cases e
  | .ix _ :: _, _, .no _, _, _, _, e => by cases e
  | .ix _ :: _, _, .hl, _, _, _, e => by cases e
  | .ix _ :: _, _, .fk _ _ _, _, _, _, e => by cases e
  | .ix _ :: _, _, .dt _ _ _, _, _, _, e => by cases e
  | .ix _ :: _, _, .od _ _, _, _, _, e => by cases e
  | .ix _ :: _, _, .fd _ _ _, _, _, _, e => by cases e
  | .ix _ :: _, _, .ob _ _ _, _, _, _, e => by cases e
  | .ix _ :: _, _, .rd _, _, _, _, e => by cases e
  | .ix _ :: _, _, .ex _, _, _, _, e => by cases e
  | .key _ :: _, _, .d _, _, _, _, e => by cases e
  | .key _ :: _, _, .no _, _, _, _, e => by cases e
  | .key _ :: _, _, .hl, _, _, _, e => by cases e
  | .key _ :: _, _, .fk _ _ _, _, _, _, e => by cases e
  | .key _ :: _, _, .dt _ _ _, _, _, _, e => by cases e
  | .key _ :: _, _, .ol _, _, _, _, e => by cases e
  | .key _ :: _, _, .ot _, _, _, _, e => by cases e
  | .key _ :: _, _, .ob _ _ _, _, _, _, e => by cases e
  | .key _ :: _, _, .rd _, _, _, _, e => by cases e
  | .key _ :: _, _, .ex _, _, _, _, e => by cases e
  | .fld _ :: _, _, .d _, _, _, _, e => by cases e
  | .fld _ :: _, _, .no _, _, _, _, e => by cases e
  | .fld _ :: _, _, .hl, _, _, _, e => by cases e
  | .fld _ :: _, _, .fk _ _ _, _, _, _, e => by cases e
  | .fld _ :: _, _, .dt _ _ _, _, _, _, e => by cases e
  | .fld _ :: _, _, .ol _, _, _, _, e => by cases e
  | .fld _ :: _, _, .ot _, _, _, _, e => by cases e
  | .fld _ :: _, _, .od _ _, _, _, _, e => by cases e
  | .fld _ :: _, _, .fd _ _ _, _, _, _, e => by cases e
  | .fld _ :: _, _, .rd _, _, _, _, e => by cases e
  | .fld _ :: _, _, .ex _, _, _, _, e => by cases e
end
end L3
namespace L3
open PySem PySem.Spec PyProof.Rows L2
def opKey (x y : T) : R RV := match x, y.key with
  | .od ks ts, some k => (ofO ((kAt ks k).bind fun n => ts[n]?)).bind fun t => .ok (.v t)
  | .fd _ ks ts, some k => (ofO ((kAt ks k).bind fun n => ts[n]?)).bind fun t => .ok (.v t)
  | _, _ => .bad
abbrev rKey : R2 := fun x y H Q => ∃ a v, x = .ref a ∧ DGet H a y (some v) ∧ Q v H
theorem opKey_v {K : PySem.W.Frag} : OpV K rKey opKey := by
  intro F H v u x y A B hx hy Q q
  unfold opKey at q
  split at q
  · rename_i ks ts k hk
    obtain ⟨t, e, q⟩ := then_ofO.mp (then_bind.mp q)
    obtain ⟨n, e1, e2⟩ := Option.bind_eq_some_iff.mp e
    cases hx with
    | @od a kvs _ _ A1 h e0 dd r =>
      obtain ⟨w, A2, B2, g1, g2, g3, _⟩ := r.around e2
      obtain ⟨u', h1, h2⟩ := valV_at (kvs := kvs) (k := k) (n := n) (by rw [e0]; exact e1)
      rw [List.getElem?_map, h1] at g1
      cases g1
      refine ⟨a, u', rfl, ?_, q u' A2 g2 fun b => by have := g3 b; rw [List.count_append, List.count_cons]; omega⟩
      rw [key_rp hy hk]
      have := DGet.k (k := k) h
      rwa [h2] at this
  · rename_i ks ts k hk
    obtain ⟨t, e, q⟩ := then_ofO.mp (then_bind.mp q)
    obtain ⟨n, e1, e2⟩ := Option.bind_eq_some_iff.mp e
    cases hx with
    | @fd a o kvs _ _ A1 h e0 dd r =>
      obtain ⟨w, A2, B2, g1, g2, g3, _⟩ := r.around e2
      obtain ⟨u', h1, h2⟩ := valV_at (kvs := kvs) (k := k) (n := n) (by rw [e0]; exact e1)
      rw [List.getElem?_map, h1] at g1
      cases g1
      refine ⟨_, u', rfl, .inl ⟨kvs, k, .inr ⟨o, h⟩, key_rp hy hk, h2.symm⟩, q u' A2 g2 fun b => by have := g3 b; rw [List.count_append]; omega⟩
  · exact q.elim
section
variable {X : Cx} {E : Str → Hp → Prop} {e a b : Expr} {te ta tb : TE} {m ma mb : MP} {pos : Pos}
theorem qp_key (hu : X.A.units + 1 < cLine) (ha : QP X a ta ma) (hb : QP X b tb mb) (hs : NoSl b := by exact fun _ _ => rfl) : QP X (.Subscript a b pos) (tOp rKey ta tb) (pBin opKey ma mb) := ⟨pe_dget hu ha.pe hb.pe hs, sim_pbin opKey_v ha.sim hb.sim⟩
end
abbrev MLK := Env → Option (List PK)
def SimLK (K : PySem.W.Frag) (i : Nat) (te : TE) (mp : MLK) : Prop :=
  ∀ (c : C0) (H : Hp) (tv : List (Option V)) (td : Env) (σ : L2.St) (ρ : Env) (A : List Addr) (p : List PK) (t0 t : T), tv.length = td.length → StW K c H (tv ++ σ) (td ++ ρ) A → mp ρ = some p → ρ[i]? = some (some t0) → T.atK p t0 = some t → ∀ Q : VK,
    (∀ v0 v, σ[i]? = some (some v0) → LocK H v0 p v → Q v H) → te σ H Q
structure QLK (X : Cx) (i : Nat) (e : Expr) (te : TE) (mp : MLK) : Prop where
  pe : PE X e te
  sim : SimLK X.K i te mp
def kHere : MLK := fun _ => some []
def kIx (mp : MLK) (mi : MP) : MLK := fun ρ => (mp ρ).bind fun p => ((mi ρ).bind T.int?).bind fun j => some (p ++ [.ix j])
section
variable {X : Cx} {E : Str → Hp → Prop} {a b : Expr} {ta tb : TE} {pos : Pos}
theorem qk_name (i : Nat) {x : Str} {pos : Pos} (hN : X.N[i]? = some x := by rfl) (hv : Vis X.env.scope x := by first | exact Or.inl rfl | exact Or.inr (Or.inl rfl) | exact Or.inr (Or.inr rfl)) (hd : (x == ("__debug__" : Str)) = false := by decide)
    (hcd : (x == ("__classdict__" : Str)) = false := by decide) : QLK X i (.Name x pos) (tVar i) kHere := ⟨pe_var hN hv hd hcd, fun c H tv td σ ρ A p t0 t hl w e1 e2 e3 Q q => by
  cases e1
  obtain ⟨v, A1, e4, _, _⟩ := w.see hl e2
  exact ⟨v, e4, q v v e4 (.here v)⟩⟩
theorem locK_step {K : PySem.W.Frag} {c : C0} {H : Hp} {tv : List (Option V)} {td : Env} {σ : L2.St} {ρ : Env} {A : List Addr} {i : Nat} {p0 : List PK} {j : PK} {t0 t : T} (hl : tv.length = td.length) (w : StW K c H (tv ++ σ) (td ++ ρ) A) (e2 : ρ[i]? = some (some t0)) (e3 : T.atK (p0 ++ [j]) t0 = some t) :
    ∃ t1, T.atK p0 t0 = some t1 ∧ ∀ v0 v1, σ[i]? = some (some v0) → LocK H v0 p0 v1 → ∃ v2 A1, LocK H v1 [j] v2 ∧ LocK H v0 (p0 ++ [j]) v2 ∧ Rp K (Fok c A) H v1 t1 A1 := by
  obtain ⟨t1, e8, e9⟩ := atK_snoc e3
  refine ⟨t1, e8, fun v0 v1 ev0 l1 => ?_⟩
  obtain ⟨v0', A0, ev0', r0, _⟩ := w.see hl e2
  rw [ev0] at ev0'; cases ev0'
  obtain ⟨v1', A1, B1, l1', r1, _, _⟩ := r0.locK e8
  have := l1.uniq l1'
  subst this
  obtain ⟨v2, A2, B2, l2, _, _, _⟩ := r1.locK e9
  exact ⟨v2, A1, l2, l1.snoc l2, r1⟩
theorem qk_ix {i : Nat} {mp : MLK} {mi : MP} (ha : QLK X i a ta mp) (hb : QP X b tb mi) (hs : PlainIx b := by exact fun _ _ => rfl) : QLK X i (.Subscript a b pos) (tOp (rIx X.K) ta tb) (kIx mp mi) := by
  refine ⟨pe_ix ix_seq ha.pe hb.pe hs, fun c H tv td σ ρ A p t0 t hl w e1 e2 e3 Q q => ?_⟩
  unfold kIx at e1
  obtain ⟨p0, e4, e5⟩ := Option.bind_eq_some_iff.mp e1
  obtain ⟨j, e6', e7⟩ := Option.bind_eq_some_iff.mp e5
  obtain ⟨tj, e6, e60⟩ := Option.bind_eq_some_iff.mp e6'
  cases e7
  cases int?_eq e60
  obtain ⟨t1, e8, st⟩ := locK_step hl w e2 e3
  refine ha.sim c H tv td σ ρ A p0 t0 t1 hl w e4 e2 e8 _ fun v0 v1 ev0 l1 => ?_
  obtain ⟨v2, A1, l2, l3, _⟩ := st v0 v1 ev0 l1
  refine hb.sim c H tv td σ ρ A _ hl w e6 _ fun u A3 r3 _ => ?_
  have eu := r3.i
  cases l2 with
  | lst h1 h2 h3 => cases h3; exact .inl ⟨_, _, j, v2, rfl, eu, .of h1, h2, q v0 v2 ev0 l3⟩
  | tup h1 h2 h3 => cases h3; exact .inr (.inl ⟨_, _, j, v2, rfl, eu, .of h1, h2, q v0 v2 ev0 l3⟩)
end
def putAtK (i : Nat) (p : List PK) (tc : T) (ρ : Env) : Option Env := match ρ[i]? with
  | some (some t) => (T.putK? p tc t).map fun t' => ρ.set i (some t')
  | _ => none
def atKo (p : List PK) (o : Option (Option T)) : Option T := match o with
  | some (some t) => T.atK p t
  | _ => none
theorem atKo_some {p : List PK} {o : Option (Option T)} {tc : T} (h : atKo p o = some tc) : ∃ t, o = some (some t) ∧ T.atK p t = some tc := by
  unfold atKo at h
  split at h
  · exact ⟨_, rfl, h⟩
  · cases h
theorem StW.writeG {K : PySem.W.Frag} {c : C0} {H : Hp} {tv : List (Option V)} {td : Env} {σ : L2.St} {ρ : Env} {A Aa B : List Addr} (hl : tv.length = td.length) (u : ∀ a, A.count a ≤ 1) (ow : ∀ a ∈ A, a ∈ c.A0 ∨ c.H0 a = none) (k : KeepC c H) (hc : ∀ a, Aa.count a + B.count a ≤ A.count a)
    (s : Sl K (Fok c A) H (tv ++ σ) (td ++ ρ) B) {i : Nat} {p : List PK} {t0 tc : T} (e0 : ρ[i]? = some (some t0)) (e1 : T.atK p t0 = some tc) :
    ∃ (v0 v : V) (Al : List Addr), σ[i]? = some (some v0) ∧ LocK H v0 p v ∧ Rp K (Fok c A) H v tc Al ∧
      ∀ (a : Addr) (o' : HO) (A1 : List Addr), v = .ref a → (∀ b, Al.count b = (a :: A1).count b) → ∀ (res : V) (tr tc' : T) (C1 C2 : List Addr) (ρ' : Env), Rp K (Fok c A) H res tr C1 →
        (∀ {F' : Addr → Prop} {H' : Hp}, Mono (Fok c A) F' H H' → (∀ b ∈ C2, H' b = H b) → H' a = some o' → Rp K F' H' (.ref a) tc' (a :: C2)) → (∀ b, C1.count b + C2.count b ≤ A1.count b + Aa.count b) → putAtK i p tc' ρ = some ρ' →
        StR K c (upd H a o') (some res :: (tv ++ σ)) (some tr :: (td ++ ρ')) := by
  have hlen := s.len
  have hi : i < ρ.length := (List.getElem?_eq_some_iff.mp e0).1
  obtain ⟨B1, hb, ar, get⟩ := s.around (i := tv.length + i) (by rw [hlen, List.length_append]; omega)
  obtain ⟨v0, A0, e3, x, hc1⟩ := get t0 (by rw [app_at hl.symm, e0])
  rw [app_at rfl] at e3
  obtain ⟨v, Al, Bl, l, xl, hc2, pt⟩ := x.locK e1
  refine ⟨v0, v, Al, e3, l, xl, fun a o' A1 ev hal res tr tc' C1 C2 ρ' xr xs hC ep => ?_⟩
  subst ev
  have cc : ∀ b, Al.count b = A1.count b + (if a = b then 1 else 0) := fun b => by
    rw [hal, List.count_cons]
    by_cases e : a = b
    · simp [e]
    · simp [e]
  have tot : ∀ b, A1.count b + (if a = b then 1 else 0) + Bl.count b + B1.count b + Aa.count b ≤ A.count b := fun b => by
    have h1 := hc b
    have h2 := hc1 b
    have h3 := hc2 b
    have h4 := cc b
    omega
  have aA : a ∈ A := List.count_pos_iff.mp (by have := tot a; rw [if_pos rfl] at this; omega)
  obtain ⟨u0, ha, nst⟩ := xl.own a (List.count_pos_iff.mp (by have := cc a; rw [if_pos rfl] at this; omega))
  have ne : ∀ {C : List Addr}, (∀ b, C.count b + (if a = b then 1 else 0) ≤ A.count b) → ∀ b ∈ C, b ≠ a := fun {C} h b hb e => by
    subst e
    have h1 := h b
    have h2 := u b
    have h3 := List.count_pos_iff.mpr hb
    rw [if_pos rfl] at h1
    omega
  let H2 := upd H a o'
  have mo : Mono (Fok c A) (Fok c A) H H2 := ⟨fun b ws e f => ⟨by show upd H a _ b = _; rw [upd_ne (fun z => f.2 (by rw [z]; exact aA))]; exact e, f⟩, fun b uu e st => by
    show upd H a _ b = _
    rw [upd_ne (fun z => by rw [z, ha] at e; cases e; exact nst st)]
    exact e⟩
  have eqs : ∀ {C : List Addr}, (∀ b ∈ C, b ≠ a) → ∀ b ∈ C, H2 b = H b := fun h b hb => upd_ne (h b hb)
  have nC1 : ∀ b ∈ C1, b ≠ a := ne fun b => by have := hC b; have := tot b; omega
  have nC2 : ∀ b ∈ C2, b ≠ a := ne fun b => by have := hC b; have := tot b; omega
  have nBl : ∀ b ∈ Bl, b ≠ a := ne fun b => by have := tot b; omega
  have nB1 : ∀ b ∈ B1, b ≠ a := ne fun b => by have := tot b; omega
  obtain ⟨t0', C3, q1, q2, q3⟩ := pt mo (eqs nBl) (t' := tc') (A2 := a :: C2) (xs mo (eqs nC2) upd_same)
  obtain ⟨C4, s4, q4⟩ := ar.put mo (eqs nB1) q2
  rw [app_set rfl, set_self e3, app_set hl.symm] at s4
  have er : ρ' = ρ.set i (some t0') := by
    unfold putAtK at ep
    rw [e0] at ep
    dsimp only at ep
    rw [q1] at ep
    cases ep
    rfl
  subst er
  have fin : ∀ b, (C1 ++ C4).count b ≤ A.count b := fun b => by
    have h1 := q4 b
    have h2 := q3 b
    have h3 := hC b
    have h4 := tot b
    rw [List.count_append]
    rw [List.count_cons] at h2
    by_cases e : a = b
    · simp [e] at h2 h4; omega
    · simp [e] at h2 h4; omega
  refine ⟨C1 ++ C4, fun b => Nat.le_trans (fin b) (u b), ?_, fun b hb => ow b (List.count_pos_iff.mp (Nat.lt_of_lt_of_le (List.count_pos_iff.mpr hb) (fin b))), ⟨fun b o e n => ?_, fun b e => ?_⟩⟩
  · exact (Sl.cons (xr.mono mo (eqs nC1)) s4).mono (.sub fun b _ => Fok.sub fin b) fun _ _ => rfl
  · rw [upd_ne]
    · exact k.keep b o e n
    · intro z
      subst z
      rcases ow b aA with y | y
      · exact n y
      · rw [e] at y; cases y
  · by_cases z : b = a
    · subst z
      rw [upd_same] at e; cases e
    · rw [upd_ne z] at e
      exact k.there b e
def putT (ks : List Key) (ts : List T) (k : Key) (t : T) : List Key × List T := match kAt ks k with
  | some n => (ks, ts.set n t)
  | none => (ks ++ [k], ts ++ [t])
def mKeySet (i : Nat) (mp : MLK) (mk : MP) (me : MEx) : MS := fun ρ => (me ρ).bind fun r => (ofO (mp r.2)).bind fun p => (ofO ((mk r.2).bind T.key)).bind fun k => (ofO (atKo p r.2[i]?)).bind fun tc => match tc with
  | .od ks ts => guard (decide (ks.length < sLine)) ((ofO (putAtK i p (.od (putT ks ts k r.1).1 (putT ks ts k r.1).2) r.2)).bind fun ρ' => .ok (.next ρ'))
  | _ => .bad
theorem RpAll.snoc2 {K : PySem.W.Frag} {F : Addr → Prop} {H : Hp} {vs : List V} {ts : List T} {A B : List Addr} {v : V} {t : T} (r : RpAll K F H vs ts A) (x : Rp K F H v t B) : ∃ C, RpAll K F H (vs ++ [v]) (ts ++ [t]) C ∧ ∀ a, C.count a ≤ A.count a + B.count a := by
  obtain ⟨C, s, z⟩ := r.append (.cons x .nil)
  exact ⟨C, s, fun a => by rw [z a]; simp⟩
theorem put_od {K : PySem.W.Frag} {F : Addr → Prop} {H : Hp} {a : Addr} {kvs : List (Key × V)} {ks : List Key} {ts : List T} {A1 Aa : List Addr} {k : Key} {v : V} {t : T} (e0 : kvs.map Prod.fst = ks) (dd : ks.Nodup) (r : RpAll K F H (kvs.map Prod.snd) ts A1) (x : Rp K F H v t Aa) :
    ∃ C2, (∀ b, C2.count b ≤ A1.count b + Aa.count b) ∧ ∀ {F' : Addr → Prop} {H' : Hp}, Mono F F' H H' → (∀ b ∈ C2, H' b = H b) → H' a = some (.dK (putK kvs k v)) → Rp K F' H' (.ref a) (.od (putT ks ts k t).1 (putT ks ts k t).2) (a :: C2) := by
  unfold putT
  cases e : kAt ks k with
  | some n =>
    have hn : n < ts.length := by
      have h1 := kAt_lt e
      have h2 := (List.getElem?_eq_some_iff.mp h1).1
      have h3 := r.len
      rw [← e0] at h2
      simp at h2 h3
      omega
    obtain ⟨C, s, z⟩ := r.setk n hn x
    obtain ⟨g1, g2⟩ := putK_at (v := v) (by rw [e0]; exact dd) (by rw [e0]; exact e)
    refine ⟨C, fun b => z b, fun m hk ha => .od ha (g1.trans e0) dd ?_⟩
    rw [g2]
    exact s.mono m hk
  | none =>
    obtain ⟨C, s, z⟩ := r.snoc2 x
    have hv : valV kvs k = none := valV_no (by rw [e0]; exact e)
    refine ⟨C, fun b => z b, fun m hk ha => .od ha (ks := ks ++ [k]) (ts := ts ++ [t]) ?_ ?_ ?_⟩
    · rw [putK_new v hv, List.map_append, e0]; rfl
    · rw [List.nodup_append]
      exact ⟨dd, by simp, fun x hx y hy z => kAt_none e (by simp at hy; rw [← hy, ← z]; exact hx)⟩
    · rw [putK_new v hv, List.map_append]
      exact s.mono m hk
section
variable {X : Cx} {E : Str → Hp → Prop} {io : List Nat} {o k value : Expr} {to tk tv' : TE} {pos pos' : Pos}
theorem qs_keySet {i : Nat} {mp : MLK} {mk : MP} {me : MEx} {g : Bool} (hu : X.A.units + 1 < cLine) (ho : QLK X i o to mp) (hk : QP X k tk mk) (hv : QE X E g value tv' me) (hs : swapsWith value (some (.Subscript o k pos')) pos.line X.env = pure false := by rfl) :
    QS X E io (.Assign [.Subscript o k pos'] value pos) (sDPut to tk tv') (mKeySet i mp mk me) := by
  refine ⟨ps_dput hu ho.pe hk.pe hv.pe hs, fun c H tv td σ ρ hl st D q => ?_⟩
  unfold mKeySet at q
  refine hv.sim c H tv td σ ρ hl st _ ((then_bind.mp q).imp fun r q v H1 _ st1 => ?_)
  obtain ⟨p, e1, q⟩ := then_ofO.mp (then_bind.mp q)
  obtain ⟨kk, e2', q⟩ := then_ofO.mp (then_bind.mp q)
  obtain ⟨tj, e2, e20⟩ := Option.bind_eq_some_iff.mp e2'
  obtain ⟨tc, e3, q⟩ := then_ofO.mp (then_bind.mp q)
  obtain ⟨t0, e6, e7⟩ := atKo_some e3
  cases tc with
  | od ks ts =>
    obtain ⟨g1, q⟩ := then_guard.mp q
    have g1 := of_decide_eq_true g1
    obtain ⟨ρ', e5, q⟩ := then_ofO.mp (then_bind.mp q)
    obtain ⟨A, w⟩ := st1
    have w' : StW X.K c H1 ((some v :: tv) ++ σ) ((some r.1 :: td) ++ r.2) A := w
    refine ho.sim c H1 (some v :: tv) (some r.1 :: td) σ r.2 A p t0 _ (by simp [hl]) w' e1 e6 e7 _ fun v0 vo ev0 lo => ?_
    refine hk.sim c H1 (some v :: tv) (some r.1 :: td) σ r.2 A _ (by simp [hl]) w' e2 _ fun u Au ru _ => ?_
    have eu := key_rp ru e20
    obtain ⟨Aa, B, eA, x, s⟩ := w.top
    obtain ⟨v1, vc, Al, ev1, l1, rc, fin⟩ := StW.writeG (Aa := Aa) hl w.uniq w.own w.keep (fun a => by rw [eA, List.count_append]; exact Nat.le_refl _) s e6 e7
    rw [ev0] at ev1; cases ev1
    have := lo.uniq l1
    subst this
    cases rc with
    | @od a kvs _ _ A1 h e0 dd rr =>
      have hlen : kvs.length < sizeLine := by rw [← sLine_eq]; rw [← e0] at g1; simpa using g1
      subst eu
      obtain ⟨C2, hc2, mk⟩ := put_od (a := a) (k := kk) e0 dd rr x
      refine ⟨a, _, rfl, DPut.k h hlen, ?_⟩
      exact q σ _ .refl (fin a _ A1 rfl (fun _ => rfl) .non (.d .none) _ [] C2 ρ' (.d .non) mk (fun b => by simpa using hc2 b) e5).drop
  | _ => exact q.elim
end
def mDisp (ks : List Key) (ma : MA) : MEx := fun ρ => (ma ρ).bind fun r => guard (decide (r.1.length = ks.length ∧ ks.Nodup ∧ ks.length ≤ 15)) (.ok (.od ks r.1, r.2))
theorem StR.push_od {K : PySem.W.Frag} {c : C0} {H : Hp} {sl : List (Option V)} {ρ : Env} {p : Addr} (h : StR K c H sl ρ) (hp : H p = none) : StR K c (upd H p (.dK [])) (some (.ref p) :: sl) (some (.od [] []) :: ρ) := by
  obtain ⟨A, w⟩ := h
  have sm := same_upd (o := .dK []) hp
  have m0 : Mono (Fok c A) (Fok c (p :: A)) H H := Fok.fresh hp
  have eq1 : ∀ a ∈ A, (upd H p (.dK [])) a = H a := fun a ha => upd_ne (fun z => w.not_mem_of_none hp (by rw [← z]; exact ha))
  have s2 := (w.slots.mono m0 fun _ _ => rfl).mono (.same sm) eq1
  have cc : Sl K (Fok c (p :: A)) (upd H p (.dK [])) (some (.ref p) :: sl) (some (.od [] []) :: ρ) ([p] ++ A) := .cons (.od (kvs := []) upd_same rfl List.nodup_nil .nil) s2
  refine ⟨p :: A, fun a => ?_, cc, fun a ha => ?_, w.keep.grow sm⟩
  · rw [List.count_cons]
    have h2 := w.uniq a
    by_cases e : p = a
    · subst e
      have : A.count p = 0 := List.count_eq_zero.mpr (w.not_mem_of_none hp)
      simp [this]
    · have e' : (p == a) = false := by simpa using e
      simp [e']; omega
  · rcases List.mem_cons.mp ha with z | z
    · exact .inr (by rw [z]; exact w.keep.there p hp)
    · exact w.own a z
theorem zip_fst {α β : Type} : ∀ {xs : List α} {ys : List β}, xs.length = ys.length → (xs.zip ys).map Prod.fst = xs
  | [], _, _ => rfl
  | x :: xs, y :: ys, h => by simp at h; simp [zip_fst h]
  | _ :: _, [], h => by simp at h
theorem zip_snd {α β : Type} : ∀ {xs : List α} {ys : List β}, xs.length = ys.length → (xs.zip ys).map Prod.snd = ys
  | [], [], _ => rfl
  | [], _ :: _, h => by simp at h
  | x :: xs, y :: ys, h => by simp at h; simp [zip_snd h]
  | _ :: _, [], h => by simp at h
theorem StR.fill_od {K : PySem.W.Frag} {c : C0} {H : Hp} {sl : List (Option V)} {ρ : Env} {p : Addr} {vs : List V} {ts : List T} {ks : List Key} (hl : vs.length = ts.length) (hk : ks.length = ts.length) (hn : ks.Nodup) (h : StR K c H (vs.map some ++ (some (.ref p) :: sl)) (ts.map some ++ (some (.od [] []) :: ρ))) :
    H p = some (.dK []) ∧ StR K c (upd H p (.dK (ks.zip vs))) (some (.ref p) :: sl) (some (.od ks ts) :: ρ) := by
  obtain ⟨A, w⟩ := h
  obtain ⟨A1, B, eA, ra, s⟩ := w.slots.front hl
  cases s with
  | cons x s =>
    rename_i A2 B2
    cases x with
    | @od _ kvs _ _ A3 hp e0 dd r =>
      cases kvs with
      | cons y ys => simp at e0
      | nil =>
        cases r
        refine ⟨hp, ?_⟩
        have cnt : ∀ a, A.count a = A1.count a + ((if p = a then 1 else 0) + B2.count a) := fun a => by
          rw [eA, List.count_append, List.count_append]
          by_cases e : p = a
          · simp [e]
          · simp [e]
        have pA : p ∈ A := List.count_pos_iff.mp (by have := cnt p; rw [if_pos rfl] at this; omega)
        have ne1 : ∀ b ∈ A1, b ≠ p := fun b hb z => by
          subst z
          have h1 := cnt b
          have h2 := w.uniq b
          have h3 := List.count_pos_iff.mpr hb
          rw [if_pos rfl] at h1
          omega
        have ne2 : ∀ b ∈ B2, b ≠ p := fun b hb z => by
          subst z
          have h1 := cnt b
          have h2 := w.uniq b
          have h3 := List.count_pos_iff.mpr hb
          rw [if_pos rfl] at h1
          omega
        have mo : Mono (Fok c A) (Fok c A) H (upd H p (.dK (ks.zip vs))) := ⟨fun b ws e f => ⟨by rw [upd_ne (fun z => f.2 (by rw [z]; exact pA))]; exact e, f⟩, fun b uu e st => by
          rw [upd_ne (fun z => by rw [z, hp] at e; cases e; exact st)]
          exact e⟩
        have r2 := ra.mono mo fun b hb => upd_ne (ne1 b hb)
        have s2 := s.mono mo fun b hb => upd_ne (ne2 b hb)
        have cc : Sl K (Fok c A) (upd H p (.dK (ks.zip vs))) (some (.ref p) :: sl) (some (.od ks ts) :: ρ) ((p :: A1) ++ B2) := .cons (.od upd_same (zip_fst (by omega)) hn (by rw [zip_snd (by omega)]; exact r2)) s2
        have fin : ∀ b, ((p :: A1) ++ B2).count b = A.count b := fun b => by
          rw [cnt b, List.count_append, List.count_cons]
          by_cases e : p = b
          · simp [e]; omega
          · simp [e]
        refine ⟨_, fun b => by rw [fin]; exact w.uniq b, cc.mono (.sub fun b _ => Fok.sub (fun a => Nat.le_of_eq (fin a)) b) fun _ _ => rfl, fun b hb => w.own b (List.count_pos_iff.mp (by rw [← fin]; exact List.count_pos_iff.mpr hb)), ⟨fun b o e n => ?_, fun b e => ?_⟩⟩
        · rw [upd_ne]
          · exact w.keep.keep b o e n
          · intro z
            subst z
            rcases w.own b pA with y | y
            · exact n y
            · rw [e] at y; cases y
        · by_cases z : b = p
          · subst z
            rw [upd_same] at e; cases e
          · rw [upd_ne z] at e
            exact w.keep.there b e
theorem merge_nodup : ∀ {more kvs : List (Key × V)}, ((kvs ++ more).map Prod.fst).Nodup → mergeK kvs more = kvs ++ more
  | [], kvs, h => by simp [mergeK]
  | p :: r, kvs, h => by
    have hv : valV kvs p.1 = none := valV_no (by
      cases e : kAt (kvs.map Prod.fst) p.1 with
      | none => rfl
      | some n =>
        have := kAt_lt e
        rw [List.map_append, List.nodup_append] at h
        exact (h.2.2 p.1 (List.mem_of_getElem? this) p.1 (by simp) rfl).elim)
    have e : mergeK kvs (p :: r) = mergeK (putK kvs p.1 p.2) r := rfl
    rw [e, putK_new p.2 hv, merge_nodup (by simpa using h)]
    simp
def SimD (K : PySem.W.Frag) (E : Str → Hp → Prop) (ks : List Key) (trs : List (TE × TE)) (m : MA) : Prop :=
  ∀ (c : C0) (H : Hp) (tv : List (Option V)) (td : Env) (σ : L2.St) (ρ : Env), tv.length = td.length → StR K c H (tv ++ σ) (td ++ ρ) → ∀ Q : List (V × V) → Hp → Prop,
    Then (m ρ) (fun r => ∀ vs H', vs.length = r.1.length → ks.length = r.1.length → StR K c H' (vs.map some ++ (tv ++ σ)) (r.1.map some ++ (td ++ r.2)) → Q ((ks.zip vs).map fun kv => (kV kv.1, kv.2)) H') (fun x => ∀ H', KeepC c H' → E x H') → tPairs trs σ H Q
structure QD (X : Cx) (E : Str → Hp → Prop) (pos : Pos) (keys : List (Option Expr)) (values : List Expr) (ks : List Key) (trs : List (TE × TE)) (m : MA) : Prop where
  pps : PPs X pos keys values trs
  sim : SimD X.K E ks trs m
section
variable {X : Cx} {E : Str → Hp → Prop} {pos : Pos} {keys : List (Option Expr)} {values : List Expr} {ks : List Key} {trs : List (TE × TE)} {m : MA}
theorem qd_nil : QD X E pos [] [] [] [] mNil := ⟨pps_nil, fun c H tv td σ ρ hl st Q q => q [] H rfl rfl st⟩
theorem qd_cons {x : Str} {j : Nat} {p1 : Pos} {v : Expr} {tv : TE} {me : MEx} {g : Bool} (h : QE X E g v tv me) (hr : QD X E pos keys values ks trs m) : QD X E pos (some (.Constant (.str x) j p1) :: keys) (v :: values) (.inr x :: ks) ((tC (.str x), tv) :: trs) (mCons me m) := by
  refine ⟨pps_cons pe_str h.pe hr.pps, fun c H tv' td σ ρ hl st Q q => ?_⟩
  unfold mCons at q
  rw [then_bind] at q
  show tv σ H _
  refine h.sim c H tv' td σ ρ hl st _ (q.imp ?_)
  intro z q1 w H1 sm1 st1
  rw [then_bind] at q1
  refine hr.sim c H1 (some w :: tv') (some z.1 :: td) σ z.2 (by simp [hl]) st1 _ (q1.imp ?_)
  intro y q2 vs H2 hvs hks st2
  exact q2 (w :: vs) H2 (by simp [hvs]) (by simp [hks]) (StR.raise (xs := vs.map some) (as := y.1.map some) (by simp [hvs]) st2)
theorem qe_disp (h : QD X E pos keys values ks trs m) (hall : keys.all (·.isSome) = true := by rfl) (hl : keys.length = values.length := by rfl) (h0 : keys ≠ [] := by exact fun z => nomatch z) (h15 : keys.length ≤ 15 := by decide) : QE X E false (.Dict keys values pos) (tDisp trs) (mDisp ks m) := by
  refine ⟨pe_disp h.pps hall hl h0 h15, fun c H tv td σ ρ hl st Q q => ?_⟩
  unfold mDisp at q
  rw [then_bind] at q
  intro p hp
  refine h.sim c (upd H p (.dK [])) (some (.ref p) :: tv) (some (.od [] []) :: td) σ ρ (by simp [hl]) (st.push_od hp) _ (q.imp ?_)
  intro r q1 vs H2 hvs hks st2
  obtain ⟨g, q1⟩ := then_guard.mp q1
  obtain ⟨g1, g2, g3⟩ := of_decide_eq_true g
  obtain ⟨e1, e2⟩ := StR.fill_od (sl := tv ++ σ) (ρ := td ++ r.2) hvs g1.symm g2 st2
  have hz : ((ks.zip vs).map Prod.fst) = ks := zip_fst (by omega)
  refine ⟨e1, ks.zip vs, rfl, by simp; omega, ?_⟩
  rw [merge_nodup (by simpa [hz] using g2)]
  exact q1 _ _ (fun z => nomatch z) e2
end
theorem u1 {k : Nat} {A : Around} (r : Room k A) : A.units + 1 < cLine := by have := r.un; omega
def mAugIx (i : Nat) (mp : ML) (mi : MP) (f : Int → Int → Int) (me : MP) : MS := fun ρ => (ofO (mp ρ)).bind fun p => (ofO ((mi ρ).bind T.int?)).bind fun j => (ofO (lstAt p ρ[i]?)).bind fun ts => (ofO (ixN ts.length j)).bind fun k => (ofO ((ts[k]?).bind T.int?)).bind fun x => (ofO ((me ρ).bind T.int?)).bind fun y =>
  (ofO (putAt i p (ts.set k (.d (.int (f x y)))) ρ)).bind fun ρ' => .ok (.next ρ')
section
variable {X : Cx} {E : Str → Hp → Prop} {io : List Nat} {a b e : Expr} {ta tb te : TE} {pos tpos : Pos} {mi me : MP} {mp : ML}
def gIx : V → V → Hp → VK → Prop := fun o i H Q => ∃ a vs j v, o = .ref a ∧ i = .int j ∧ H a = some (.lst vs) ∧ atI vs j = some v ∧ Q v H
theorem get_ix : PGet X gIx := by
  intro pins s σ H x y v u Q I rx ry h
  obtain ⟨p, xs, i, z, rfl, rfl, hq, he, q⟩ := h
  cases rx
  obtain ⟨t, rfl⟩ := ry
  obtain ⟨its, r, pl, hz⟩ := I.list (.of hq)
  obtain ⟨j, h1, h2, h3, h4, h5⟩ := atI_get he
  obtain ⟨w, ew, rw'⟩ := r.get h2
  have hl := r.length
  have hn := line63
  have fin : EP X pins σ Q w s := ⟨z, H, I, rw', q⟩
  by_cases h0 : 0 ≤ i
  · have hj : i.toNat = j := by
      rw [seqIndex_of h0 h5] at h1
      exact Option.some.inj h1
    exact wpAny_getItem_list pl.isList h0 (by omega) (by rw [hj]; simpa using ew) fin
  · have hj : (i + (its.toArray.size : Int)).toNat = j := by
      rw [seqIndex_neg (by omega) h4] at h1
      rw [List.size_toArray, ← hl]
      exact Option.some.inj h1
    exact wpAny_getItem_list_neg (Q := fun r s' => r = w ∧ EP X pins σ Q r s') pl.isList (by omega) (by rw [List.size_toArray] <;> omega) (by omega) (by rw [hj]; simpa using ew) ⟨rfl, fin⟩ |> fun z => wpAny_mono z (fun _ _ h => h.2) fun _ _ h => h
theorem qs_augIx {i : Nat} {f : Int → Int → Int} {op : Operator} (ho : QL X i a ta mp) (hi : QP X b tb mi) (he : QP X e te me) (hp : PIp X op (ipI f))
    (ha : ∀ ov iv new, augStore b ov iv new = (do holding [new, ov, iv] (setItem ov iv new); release [new, ov, iv] []; pure .next) := by intros; rfl) :
    QS X E io (.AugAssign (.Subscript a b tpos) op e pos) (tAugS ta tb te gIx (ipI f) rSetL) (mAugIx i mp mi f me) := by
  refine ⟨ps_augS ho.pe hi.pe get_ix he.pe hp set_list ha, fun c H tv td σ ρ hl st D q => ?_⟩
  unfold mAugIx at q
  obtain ⟨p, e1, q⟩ := then_ofO.mp (then_bind.mp q)
  obtain ⟨j, e2', q⟩ := then_ofO.mp (then_bind.mp q)
  obtain ⟨tj, e2, e20⟩ := Option.bind_eq_some_iff.mp e2'
  cases int?_eq e20
  obtain ⟨ts, e3, q⟩ := then_ofO.mp (then_bind.mp q)
  obtain ⟨k, e4, q⟩ := then_ofO.mp (then_bind.mp q)
  obtain ⟨x, e5', q⟩ := then_ofO.mp (then_bind.mp q)
  obtain ⟨tx, e5, e50⟩ := Option.bind_eq_some_iff.mp e5'
  cases int?_eq e50
  obtain ⟨y, e6', q⟩ := then_ofO.mp (then_bind.mp q)
  obtain ⟨ty, e6, e60⟩ := Option.bind_eq_some_iff.mp e6'
  cases int?_eq e60
  obtain ⟨ρ', e7, q⟩ := then_ofO.mp (then_bind.mp q)
  obtain ⟨t0, e8, e9⟩ := lstAt_some e3
  obtain ⟨A, w⟩ := st
  refine ho.sim c H tv td σ ρ A p t0 _ hl w e1 e8 e9 _ fun v0 vo ev0 lo => ?_
  refine hi.sim c H tv td σ ρ A _ hl w e2 _ fun u Au ru _ => ?_
  have eu := ru.i
  obtain ⟨v1, a1, vs, A1, ev1, l1, ha1, rl, fin⟩ := StW.write (Aa := []) hl w.uniq w.own w.keep (fun a => by simp) w.slots e8 e9
  rw [ev0] at ev1; cases ev1
  have := lo.uniq l1
  subst this
  obtain ⟨vx, Ax, Bx, g1, g2, g3, g4⟩ := rl.around e5
  have ex := g2.i
  subst ex
  have hat : atI vs j = some (.int x) := by
    show (ixN vs.length j).bind (fun k => vs[k]?) = _
    rw [rl.len, e4]; exact g1
  refine ⟨a1, vs, j, _, rfl, eu, ha1, hat, ?_⟩
  refine he.sim c H tv td σ ρ A _ hl w e6 _ fun u2 Au2 ru2 _ => ?_
  have eu2 := ru2.i
  subst eu2
  refine ⟨x, y, rfl, rfl, ?_⟩
  refine ⟨a1, vs, j, k, rfl, eu, ha1, by rw [rl.len]; exact e4, ?_⟩
  obtain ⟨C, s', z⟩ := g4.put (Mono.sub fun _ _ h => h) (fun _ _ => rfl) (v' := .int (f x y)) (t' := .d (.int (f x y))) (A2 := []) (.d (.int _))
  exact q σ _ .refl (fin .non (.d .none) _ _ [] C ρ' (.d .non) s' (fun b => by have := z b; have := g3 b; simp at *; omega) e7).drop
end
end L3
namespace L3
open PySem PySem.Spec PyProof.Rows L2
def mMethH (i : Nat) (mp : ML) (op : List T → List T → Option (T × List T)) (ma : MA) : MEx := fun ρ => (ofO (mp ρ)).bind fun p => (ofO (lstAt p ρ[i]?)).bind fun ts => (ma (ρ.set i none)).bind fun r => (ofO (op ts r.1)).bind fun z => (ofO (putAt i p z.2 (r.2.set i (ρ[i]?.join)))).bind fun ρ' => .ok (z.1, ρ')
theorem app_set2 {α : Type} {xs ys : List α} {n i : Nat} {x : α} (h : xs.length = n) : (xs ++ ys).set (n + i) x = xs ++ ys.set i x := by
  subst h
  rw [List.set_append_right _ _ (by omega)]
  congr 2
  omega
theorem sim_methH {K : PySem.W.Frag} {E : Str → Hp → Prop} {i : Nat} {mp : ML} {ma : MA} {to : TE} {t : TA} {g : Bool} {rM : V → List V → Hp → VK → Prop} {op : List T → List T → Option (T × List T)} (hv : UpdV K rM op) (sl : SimL K i to mp) (sa : SimA K E g t ma) : SimE K E false (tBM K "list" rM to t) (mMethH i mp op ma) := by
  intro c H tv td σ ρ hl st Q q
  unfold mMethH at q
  obtain ⟨p, ep, q⟩ := then_ofO.mp (then_bind.mp q)
  obtain ⟨ts0, el, q⟩ := then_ofO.mp (then_bind.mp q)
  obtain ⟨t0, e0, e1⟩ := lstAt_some el
  have q1 := then_bind.mp q
  obtain ⟨A, w⟩ := st
  refine sl c H tv td σ ρ A p t0 _ hl w ep e0 e1 _ fun v0 v ev0 lv => ?_
  obtain ⟨v0', a0, vs0, A10, ev0', l0, ha0, _, _⟩ := StW.write (Aa := []) hl w.uniq w.own w.keep (fun a => by simp) w.slots e0 e1
  rw [ev0] at ev0'; cases ev0'
  have ev := lv.uniq l0
  subst ev
  refine ⟨ty_list ha0, ?_⟩
  -- the slot's tree and what is around it
  have hlen := w.slots.len
  have hi : i < ρ.length := (List.getElem?_eq_some_iff.mp e0).1
  obtain ⟨B1, hb, ar, get⟩ := w.slots.around (i := tv.length + i) (by rw [hlen, List.length_append]; omega)
  obtain ⟨v0', A0, e3, x, hc1⟩ := get t0 (by rw [app_at hl.symm, e0])
  rw [app_at rfl] at e3
  rw [ev0] at e3; cases e3
  have memB : ∀ a ∈ B1, a ∈ A := fun a ha => List.count_pos_iff.mp (by have := List.count_pos_iff.mpr ha; have := hb a; omega)
  have memA0 : ∀ a ∈ A0, a ∈ A := fun a ha => List.count_pos_iff.mp (by have := List.count_pos_iff.mpr ha; have := hc1 a; omega)
  have dis : ∀ a ∈ A0, a ∉ B1 := fun a h1 h2 => by
    have := List.count_pos_iff.mpr h1
    have := List.count_pos_iff.mpr h2
    have := hc1 a
    have := w.uniq a
    omega
  let c' : C0 := ⟨H, B1, Fok c A⟩
  obtain ⟨C, sC, zC⟩ := ar.gone (some v0)
  have eset : (tv ++ σ).set (tv.length + i) (some v0) = tv ++ σ := by rw [app_set2 rfl, set_self ev0]
  rw [eset, app_set2 hl.symm] at sC
  have mo : Mono (Fok c A) (Fok c' C) H H := .sub fun a _ f => ⟨.inl f, fun z => f.2 (memB a (List.count_pos_iff.mp (by have := List.count_pos_iff.mpr z; have := zC a; omega)))⟩
  have w' : StW K c' H (tv ++ σ) (td ++ ρ.set i none) C := ⟨fun a => by rw [zC]; exact Nat.le_trans (hb a) (w.uniq a), sC.mono mo fun _ _ => rfl, fun a ha => .inl (show a ∈ B1 from List.count_pos_iff.mp (by have := List.count_pos_iff.mpr ha; have := zC a; omega)), ⟨fun a o e _ => e, fun a e => e⟩⟩
  have kcc : ∀ H', KeepC c' H' → KeepC c H' := fun H' k' => by
    refine ⟨fun a o e n => k'.keep a o (w.keep.keep a o e n) fun z => ?_, fun a e => w.keep.there a (k'.there a e)⟩
    rcases w.own a (memB a z) with y | y
    · exact n y
    · rw [e] at y; cases y
  refine sa c' H tv td σ (ρ.set i none) hl ⟨C, w'⟩ _ (q1.mono (fun r q1 => ?_) fun x hx H' k' => hx H' (kcc H' k'))
  intro ys H1 sm hys st1
  obtain ⟨z, ez, q4⟩ := then_ofO.mp (then_bind.mp q1)
  obtain ⟨ρ', eρ, q5⟩ := then_ofO.mp (then_bind.mp q4)
  obtain ⟨A2, w2⟩ := st1
  -- what lies in the slot stands as it was
  have keepA0 : ∀ a ∈ A0, H1 a = H a := fun a ha => by
    obtain ⟨u, e, _⟩ := x.own a ha
    rw [e]
    exact w2.keep.keep a u e (dis a ha)
  have thr : ∀ a, H1 a = none → H a = none := fun a e => w2.keep.there a e
  have dis2 : ∀ a ∈ A0, a ∉ A2 := fun a h1 h2 => by
    rcases w2.own a h2 with z | z
    · exact dis a h1 z
    · obtain ⟨u, e, _⟩ := x.own a h1
      have z : H a = none := z
      rw [e] at z; cases z
  have tot : ∀ a, A2.count a + A0.count a ≤ 1 := fun a => by
    by_cases h1 : a ∈ A0
    · rw [List.count_eq_zero.mpr (dis2 a h1)]
      have := hc1 a
      have := w.uniq a
      omega
    · rw [List.count_eq_zero.mpr h1]
      have := w2.uniq a
      omega
  let A3 := A2 ++ A0
  have cnt3 : ∀ a, A3.count a = A2.count a + A0.count a := fun a => List.count_append
  have mo2 : Mono (Fok c' A2) (Fok c A3) H1 H1 := .sub fun a ha ⟨f1, f2⟩ => by
    refine ⟨?_, fun z => ?_⟩
    · rcases f1 with f1 | f1 | f1
      · exact f1.1
      · exact .inr (.inl (w.keep.there a f1))
      · rcases w.own a (memB a f1) with y | y
        · exact .inr (.inr y)
        · exact .inr (.inl y)
    · rcases List.mem_append.mp z with z | z
      · exact f2 z
      · rcases f1 with f1 | f1 | f1
        · exact f1.2 (memA0 a z)
        · obtain ⟨u, e, _⟩ := x.own a z
          have f1 : H a = none := f1
          rw [e] at f1; cases f1
        · exact dis a z f1
  have moX : Mono (Fok c A) (Fok c A3) H H1 := ⟨fun a vs e f => ⟨w2.keep.keep a _ e fun z => f.2 (memB a z), f.1, fun z => by
      rcases List.mem_append.mp z with z | z
      · rcases w2.own a z with y | y
        · exact f.2 (memB a y)
        · have y : H a = none := y
          rw [e] at y; cases y
      · exact f.2 (memA0 a z)⟩, fun a u e stl => w2.keep.keep a u e fun z => by
      obtain ⟨_, e2, ns⟩ := sC.own a (List.count_pos_iff.mp (by have := List.count_pos_iff.mpr (show a ∈ B1 from z); have := zC a; omega))
      rw [e] at e2; cases e2; exact ns stl⟩
  obtain ⟨Aa, B, eA, ra, s⟩ := w2.slots.front hys
  have ra3 := ra.mono mo2 fun _ _ => rfl
  have s3 := s.mono mo2 fun _ _ => rfl
  have x3 := x.mono moX keepA0
  -- the slot is put back
  have hi2 : i < r.2.length := by
    have := s3.len
    have h2 := w'.slots.len
    simp at this h2
    omega
  obtain ⟨B2, hb2, ar2, _⟩ := s3.around (i := tv.length + i) (by
    have := s3.len
    rw [this, List.length_append]; omega)
  obtain ⟨C4, s4, z4⟩ := ar2.put (Mono.sub fun _ _ f => f) (fun _ _ => rfl) x3
  rw [eset, app_set2 hl.symm] at s4
  have ej : (ρ[i]?).join = some t0 := by rw [e0]; rfl
  rw [ej] at eρ
  have e0' : (r.2.set i (some t0))[i]? = some (some t0) := by rw [List.getElem?_set_self hi2]
  have own3 : ∀ a ∈ A3, a ∈ c.A0 ∨ c.H0 a = none := fun a ha => by
    rcases List.mem_append.mp ha with z | z
    · rcases w2.own a z with y | y
      · exact w.own a (memB a y)
      · exact .inr (w.keep.there a y)
    · exact w.own a (memA0 a z)
  have kc3 : KeepC c H1 := by
    refine ⟨fun a o e n => w2.keep.keep a o (w.keep.keep a o e n) fun z => ?_, fun a e => w.keep.there a (thr a e)⟩
    rcases w.own a (memB a z) with y | y
    · exact n y
    · rw [e] at y; cases y
  have hAa : ∀ a, Aa.count a + C4.count a ≤ A3.count a := fun a => by
    have h1 := z4 a
    have h2 := hb2 a
    have h3 := cnt3 a
    have h4 : A2.count a = Aa.count a + B.count a := by rw [eA, List.count_append]
    omega
  obtain ⟨v1, a, vs, A1, ev1, l1, ha, rl, fin⟩ := StW.write (Aa := Aa) hl (fun a => by rw [cnt3]; exact tot a) own3 kc3 hAa s4 e0' e1
  rw [ev0] at ev1; cases ev1
  -- the same list
  have ea : a0 = a := by
    have hx : ∀ {p : List Int} {v : V} {t tt : T} {AA : List Addr}, Rp K (Fok c A) H v t AA → (∀ b ∈ AA, H1 b = H b) → T.at? p t = some tt → ∀ {u u' : V}, Loc H v p u → Loc H1 v p u' → u = u' := by
      intro p
      induction p with
      | nil => intro v t tt AA _ _ _ u u' h1 h2; cases h1; cases h2; rfl
      | cons j js ih =>
        intro v t tt AA hr hk he u u' h1 h2
        cases hr with
        | @ol b ws _ AB hh rr =>
          have he : (atI _ j).bind (T.at? js) = some tt := he
          obtain ⟨t1, e5, e6⟩ := Option.bind_eq_some_iff.mp he
          obtain ⟨k, ek, ek2⟩ := atI_ix e5
          obtain ⟨vv, A5, B5, g1, g2, g3, _⟩ := rr.around ek2
          have hb : H1 b = some (.lst ws) := (hk b List.mem_cons_self).trans hh
          have lv : atI ws j = some vv := by
            show (ixN ws.length j).bind (fun k => ws[k]?) = _
            rw [rr.len, ek]; exact g1
          have hk5 : ∀ b' ∈ A5, H1 b' = H b' := fun b' h => hk b' (List.mem_cons_of_mem _ (List.count_pos_iff.mp (by have := List.count_pos_iff.mpr h; have := g3 b'; omega)))
          cases h1 with
          | lst y1 y2 y3 =>
            cases h2 with
            | lst y4 y5 y6 =>
              rw [hh] at y1; cases y1
              rw [hb] at y4; cases y4
              rw [lv] at y2 y5
              cases y2; cases y5
              exact ih g2 hk5 e6 y3 y6
            | tup y4 _ _ => rw [hb] at y4; cases y4
          | tup y1 _ _ => rw [hh] at y1; cases y1
        | @ot b ws _ AB hh rr =>
          have he : (atI _ j).bind (T.at? js) = some tt := he
          obtain ⟨t1, e5, e6⟩ := Option.bind_eq_some_iff.mp he
          obtain ⟨k, ek, ek2⟩ := atI_ix e5
          obtain ⟨vv, A5, B5, g1, g2, g3, _⟩ := rr.around ek2
          have hb : H1 b = some (.tup ws) := moX.still _ _ hh trivial
          have lv : atI ws j = some vv := by
            show (ixN ws.length j).bind (fun k => ws[k]?) = _
            rw [rr.len, ek]; exact g1
          have hk5 : ∀ b' ∈ A5, H1 b' = H b' := fun b' h => hk b' (List.count_pos_iff.mp (by have := List.count_pos_iff.mpr h; have := g3 b'; omega))
          cases h1 with
          | tup y1 y2 y3 =>
            cases h2 with
            | tup y4 y5 y6 =>
              rw [hh] at y1; cases y1
              rw [hb] at y4; cases y4
              rw [lv] at y2 y5
              cases y2; cases y5
              exact ih g2 hk5 e6 y3 y6
            | lst y4 _ _ => rw [hb] at y4; cases y4
          | lst y1 _ _ => rw [hh] at y1; cases y1
        | d _ => cases he
        | od _ _ _ _ => cases he
        | fd _ _ _ _ => cases he
        | fk _ => cases he
        | dt _ _ _ _ _ _ => cases he
        | no _ => cases he
        | hl _ => cases he
        | ob _ _ _ _ => cases he
        | rd _ _ => cases he
        | ex _ _ _ => cases he
    have := hx x keepA0 e1 l0 l1
    cases this; rfl
  subst ea
  refine hv _ H1 a0 vs ys ts0 r.1 A1 Aa z ha rl ra3 ez Q fun res vs' C1 C2 x1 x2 hC => ?_
  exact q5 _ _ (fun y => by cases y) (fin res z.1 vs' z.2 C1 C2 ρ' x1 x2 hC eρ)
theorem qe_methH {X : Cx} {E : Str → Hp → Prop} {o e : Expr} {es : List Expr} {to : TE} {t : TA} {name : Str} {apos cpos : Pos} {id : String} {rM : V → List V → Hp → VK → Prop} {op : List T → List T → Option (T × List T)} {g : Bool} {i : Nat} {mp : ML} {ma : MA} (slot : Slot "list" name id) (hty : typeOf (.builtin id) = pure (.type "method_descriptor")) (hm : MtR X id rM) (hv : UpdV X.K rM op) (ho : QL X i o to mp) (ha : QA X E g (e :: es) t ma)
    (hbase : attributeBase o name X.env (eval o X.env) = eval o X.env := by rfl)
    (hfew : ((backTo cpos (starEach (e :: es) X.env)).all (fun x => !x.1) && (backToKw cpos (keywordEach [] X.env)).all (fun x => x.1.isSome)
      && decide ((e :: es).length + ([] : List Keyword).length + (if ([] : List Keyword).isEmpty then 0 else 1) < 30)) = true := by rfl)
    (hline : (apos.endLine == cpos.line) = true := by rfl) (hs : starEach (e :: es) X.env = (false, eval e X.env) :: starEach es X.env := by rfl) (hplain : (backTo cpos (starEach es X.env)).any (·.1) = false := by rfl) :
    QE X E false (.Call (.Attribute o name apos) (e :: es) [] cpos) (tBM X.K "list" rM to t) (mMethH i mp op ma) := ⟨pe_bm PySem.F.plainAttrs_list slot hty hm ho.pe ha.pa hbase hfew hline hs hplain, sim_methH hv ho.sim ha.sim⟩
structure KC (K : PySem.W.Frag) (u : Value) (v : V) (x : PyData) : Prop where
  rel : RelV v u
  fz : ∀ F H, Fz K F H v x
inductive CVs : List Value → List V → List PyData → Prop
  | nil : CVs [] [] []
  | int {i : Int} {t : Tok} {us : List Value} {vs : List V} {ds : List PyData} : CVs us vs ds → CVs (.int i t :: us) (.int i :: vs) (.int i :: ds)
  | str {x : Str} {t : Tok} {us : List Value} {vs : List V} {ds : List PyData} : CVs us vs ds → CVs (.str x t :: us) (.str x :: vs) (.str x :: ds)
theorem CVs.vals : ∀ {us : List Value} {vs : List V} {ds : List PyData}, CVs us vs ds → Vals vs us
  | _, _, _, .nil => .nil
  | _, _, _, .int r => .cons ⟨_, rfl⟩ r.vals
  | _, _, _, .str r => .cons ⟨_, rfl⟩ r.vals
theorem CVs.fz {K : PySem.W.Frag} {F : Addr → Prop} {H : Hp} : ∀ {us : List Value} {vs : List V} {ds : List PyData}, CVs us vs ds → FzAll K F H vs ds
  | _, _, _, .nil => .nil
  | _, _, _, .int r => .cons (.int _) r.fz
  | _, _, _, .str r => .cons (.str _) r.fz
theorem kc_tup {K : PySem.W.Frag} {a : Addr} {od : Option Addr} {us : List Value} {vs : List V} {ds : List PyData} {n : Nat} {sl : Array (Option Value)} (l : K.lookup a = some ⟨.type "tuple", od, .seq us.toArray n, sl⟩) (h : CVs us vs ds) (hz : us.length ≤ 1000) : KC K (.ref a) (.ref a) (.tuple ds) :=
  ⟨rfl, fun F H => .tup (.inr ⟨_, us.toArray, n, l, rfl, rfl, by rw [sizeLine_eq]; simp; omega, by simpa using h.vals⟩) h.fz⟩
def opRep (x y : T) : R RV := match x.lst?, y with
  | some ds, .d (.int k) => guard (decide (-(2 ^ 62) ≤ k ∧ k < 2 ^ 62 ∧ ds.length * k.toNat ≤ sLine)) (.ok (.nl (List.replicate k.toNat ds).flatten))
  | _, _ => .bad
theorem FzAll.rep {K : PySem.W.Frag} {F : Addr → Prop} {H : Hp} {vs : List V} {ds : List PyData} (h : FzAll K F H vs ds) : ∀ (k : Nat), FzAll K F H (List.replicate k vs).flatten (List.replicate k ds).flatten
  | 0 => .nil
  | k + 1 => by
    rw [List.replicate_succ, List.replicate_succ, List.flatten_cons, List.flatten_cons]
    exact h.append (h.rep k)
theorem opRep_v {K : PySem.W.Frag} : OpV K rRep opRep := by
  intro F H v u x y A B hx hy Q q
  unfold opRep at q
  split at q
  · rename_i ds k e1
    obtain ⟨g, q⟩ := then_guard.mp q
    obtain ⟨g1, g2, g3⟩ := of_decide_eq_true g
    obtain ⟨a, vs, rfl, h1, f⟩ := hx.lst? e1
    have := hy.i
    subst this
    exact ⟨a, k, vs, rfl, rfl, h1, by omega, by omega, by rw [f.len, ← sLine_eq]; exact g3, fun p hp => q p _ hp (f.rep _)⟩
  · exact q.elim
theorem opRep_nox : NoX opRep := by
  intro x y c
  unfold opRep
  split
  · unfold guard
    split <;> (intro z; cases z)
  · intro z; cases z
def fzSlot (i : Nat) (ρ : Env) : R Env := match ρ[i]? with
  | some (some t) => (match t.fz with | some x => .ok (ρ.set i (some (.d x))) | none => .bad)
  | _ => .bad
def fzNext (i : Nat) : Out → R Out
  | .next ρ => (fzSlot i ρ).bind fun ρ' => .ok (.next ρ')
  | o => .ok o
def mThenFz (i : Nat) (m : MS) : MS := fun ρ => (m ρ).bind (fzNext i)
theorem StR.fzSlot {K : PySem.W.Frag} {c : C0} {H : Hp} {tv : List (Option V)} {td : Env} {σ : L2.St} {ρ ρ' : Env} {i : Nat} (hl : tv.length = td.length) (st : StR K c H (tv ++ σ) (td ++ ρ)) (e : L3.fzSlot i ρ = .ok ρ') : StR K c H (tv ++ σ) (td ++ ρ') := by
  unfold L3.fzSlot at e
  cases e0 : ρ[i]? with
  | none => rw [e0] at e; cases e
  | some o =>
    cases o with
    | none => rw [e0] at e; cases e
    | some t =>
      rw [e0] at e
      dsimp only at e
      cases ef : t.fz with
      | none => rw [ef] at e; cases e
      | some x =>
        rw [ef] at e
        cases e
        have hs : (mVar i ρ) = .ok (.d x, ρ.set i (some (.d x))) := by
          unfold mVar
          rw [e0]
          cases t with
          | d y =>
            simp [T.fz] at ef
            subst ef
            dsimp only
            rw [set_self e0]
          | _ => dsimp only; rw [ef]
        have := sim_var (K := K) (E := fun _ _ => True) i c H tv td σ ρ hl st (fun v H' => H' = H → StR K c H (tv ++ σ) (td ++ ρ.set i (some (.d x)))) (by
          rw [hs]
          intro v H' sm st1 eh
          subst eh
          exact st1.drop)
        obtain ⟨v, _, q⟩ := this
        exact q rfl
theorem qs_thenFz {X : Cx} {E : Str → Hp → Prop} {io : List Nat} {s : Stmt} {ts : TS} {m : MS} (i : Nat) (h : QS X E io s ts m) : QS X E io s ts (mThenFz i m) := by
  refine ⟨h.ps, fun c H tv td σ ρ hl st D q => ?_⟩
  unfold mThenFz at q
  rw [then_bind] at q
  refine h.sim c H tv td σ ρ hl st D (q.imp fun o q1 => ?_)
  cases o with
  | next ρ1 =>
    intro σ' H' sio st'
    have q1 : Then ((L3.fzSlot i ρ1).bind fun ρ' => R.ok (Out.next ρ')) _ _ := q1
    rw [then_bind] at q1
    cases e : L3.fzSlot i ρ1 with
    | bad => rw [e] at q1; exact q1.elim
    | exc y => unfold L3.fzSlot at e; split at e <;> (try split at e) <;> cases e
    | ok ρ2 =>
      rw [e] at q1
      exact q1 σ' H' sio (st'.fzSlot hl e)
  | ret t ρ1 => exact q1
  | brk ρ1 => exact q1
  | cont ρ1 => exact q1
def mPreFz (i : Nat) (m : MEx) : MEx := fun ρ => (fzSlot i ρ).bind m
theorem qe_preFz {X : Cx} {E : Str → Hp → Prop} {g : Bool} {e : Expr} {te : TE} {m : MEx} (i : Nat) (h : QE X E g e te m) : QE X E g e te (mPreFz i m) := by
  refine ⟨h.pe, fun c H tv td σ ρ hl st Q q => ?_⟩
  unfold mPreFz at q
  cases ef : L3.fzSlot i ρ with
  | bad => rw [ef] at q; exact q.elim
  | exc y => unfold L3.fzSlot at ef; split at ef <;> (try split at ef) <;> cases ef
  | ok ρ2 =>
    rw [ef] at q
    exact h.sim c H tv td σ ρ2 hl (st.fzSlot hl ef) Q q
def fzO : Option T → Option T
  | some t => t.fz.map T.d
  | none => none
def fzEnv (ρ : Env) : Env := ρ.map fzO
def lookK (ρ : Env) (r : Bool × Env) : R (Bool × Env) := .ok (r.1, ρ)
def mLookT (m : MT) : MT := fun ρ => (m (fzEnv ρ)).bind (lookK ρ)
theorem Sl.fzEnv {K : PySem.W.Frag} {F F' : Addr → Prop} {H : Hp} (hF : ∀ a, F' a) : ∀ {sl : List (Option V)} {ρ : Env} {A : List Addr}, Sl K F H sl ρ A → Sl K F' H sl (L3.fzEnv ρ) []
  | _, _, _, .nil => .nil
  | _, _, _, .skip h => .skip (Sl.fzEnv hF h)
  | _, _, _, .cons (t := t) h r => by
    show Sl K F' H _ ((t.fz.map T.d) :: L3.fzEnv _) []
    cases e : t.fz with
    | none => exact .skip (Sl.fzEnv hF r)
    | some x => exact .cons (A := []) (.d (h.freeze (fun a _ _ => hF a) (fun a _ => hF a) e)) (Sl.fzEnv hF r)
theorem Sl.blind {K : PySem.W.Frag} {F : Addr → Prop} {H : Hp} {sl : List (Option V)} {ρ : Env} : ∀ {tv : List (Option V)} {td : Env}, tv.length = td.length → Sl K F H sl ρ [] → Sl K F H (tv ++ sl) (td.map (fun _ => none) ++ ρ) []
  | [], [], _, h => h
  | _ :: _, _ :: _, e, h => .skip (Sl.blind (by simpa using e) h)
  | [], _ :: _, e, _ => by simp at e
  | _ :: _, [], e, _ => by simp at e
theorem Sl.tail {K : PySem.W.Frag} {F : Addr → Prop} {H : Hp} {sl : List (Option V)} {ρ : Env} : ∀ {tv : List (Option V)} {td : Env} {A : List Addr}, tv.length = td.length → Sl K F H (tv ++ sl) (td ++ ρ) A → ∃ B, Sl K F H sl ρ B
  | [], [], _, _, h => ⟨_, h⟩
  | _ :: _, _ :: _, _, e, .skip h => Sl.tail (by simpa using e) h
  | _ :: _, _ :: _, _, e, .cons _ h => Sl.tail (by simpa using e) h
  | [], _ :: _, _, e, _ => by simp at e
  | _ :: _, [], _, e, _ => by simp at e
def lookC (H : Hp) : C0 := ⟨H, [], fun _ => True⟩
theorem StR.look0 {K : PySem.W.Frag} {c : C0} {H : Hp} {tv : List (Option V)} {td : Env} {σ : L2.St} {ρ : Env} (hl : tv.length = td.length) (st : StR K c H (tv ++ σ) (td ++ ρ)) : StR K (lookC H) H (tv ++ σ) (td.map (fun _ => none) ++ L3.fzEnv ρ) := by
  obtain ⟨A, w⟩ := st
  obtain ⟨B, h⟩ := Sl.tail hl w.slots
  exact ⟨[], ⟨by simp, Sl.blind hl (Sl.fzEnv (fun a => ⟨.inl trivial, by simp⟩) h), by simp, ⟨fun _ _ h _ => h, fun _ h => h⟩⟩⟩
theorem KeepC.same {H H' : Hp} (k : KeepC (lookC H) H') : Same H H' := fun a o e => k.keep a o e (by simp [lookC])
theorem qt_look {X : Cx} {E : Str → Hp → Prop} {e : Expr} {tt : TT} {m : MT} (h : QT X E e tt m) : QT X E e tt (mLookT m) := by
  refine ⟨h.pt, fun c H tv td σ ρ hl st Q q => ?_⟩
  unfold mLookT at q
  rw [then_bind] at q
  refine h.sim (lookC H) H tv (td.map fun _ => none) σ (fzEnv ρ) (by simpa using hl) (st.look0 hl) Q (q.mono (fun r q1 => ?_) ?_)
  · intro H' st'
    exact q1 H' (st.grow st'.keep.same)
  · exact fun x q1 H' k => q1 H' (st.keep.grow k.same)
end L3
namespace L3
open PySem PySem.Spec PyProof.Rows L2
structure ZAt (z TI TO i1 i2 l1 l2 : Addr) (xs ys : Array Value) (N : Nat) (Ts : List Addr) (h : Heap) : Prop where
  pTI : IsPair h TI (.ref i1) (.ref i2)
  it1 : h.IsListIter i1 l1 Ts.length
  it2 : h.IsListIter i2 l2 Ts.length
  li1 : h.IsList l1 xs
  li2 : h.IsList l2 ys
  own : (IsZip h z TI TO .none ∧ ∃ a b, IsPair h TO a b) ∨ ∃ T f oT, IsZipHeld h z TI TO T f ∧ h.get? T = some oT ∧ T ≠ z ∧ T ≠ i1 ∧ T ≠ i2 ∧ N ≤ T
structure ZGave (xs ys : Array Value) (N : Nat) (Ts : List Addr) (h : Heap) : Prop where
  up : Ts.Pairwise (· < ·)
  new : ∀ T ∈ Ts, N ≤ T ∧ T < h.objs.size
  is : ∀ (j : Nat) (T : Addr), Ts[j]? = some T → ∃ x y, IsPair h T x y ∧ xs[j]? = some x ∧ ys[j]? = some y
theorem ZAt.frame {z TI TO i1 i2 l1 l2 S : Addr} {xs ys : Array Value} {N : Nat} {Ts : List Addr} {h h' : Heap} (k : ZAt z TI TO i1 i2 l1 l2 xs ys N Ts h) (hS : S < N) (hn : S ∉ [z, TI, TO, i1, i2, l1, l2]) (e : ∀ b o, b ≠ S → h.get? b = some o → h'.get? b = some o) : ZAt z TI TO i1 i2 l1 l2 xs ys N Ts h' := by
  simp only [List.mem_cons, List.not_mem_nil, or_false, not_or] at hn
  obtain ⟨n1, n2, n3, n4, n5, n6, n7⟩ := hn
  refine ⟨e _ _ (Ne.symm n2) k.pTI, k.it1.at fun o q => e _ o (Ne.symm n4) q, k.it2.at fun o q => e _ o (Ne.symm n5) q, k.li1.at fun o q => e _ o (Ne.symm n6) q, k.li2.at fun o q => e _ o (Ne.symm n7) q, ?_⟩
  rcases k.own with ⟨hz, a, b, hTO⟩ | ⟨T, f, oT, hz, hT, r1, r2, r3, r4⟩
  · exact .inl ⟨e _ _ (Ne.symm n1) hz, a, b, e _ _ (Ne.symm n3) hTO⟩
  · exact .inr ⟨T, f, oT, e _ _ (Ne.symm n1) hz, e _ _ (fun q => Nat.not_le_of_lt hS (q ▸ r4)) hT, r1, r2, r3, r4⟩
theorem ZGave.frame {S : List Addr} {xs ys : Array Value} {N : Nat} {Ts : List Addr} {h h' : Heap} (k : ZGave xs ys N Ts h) (hS : ∀ b ∈ S, b < N) (hl : h.objs.size ≤ h'.objs.size) (e : ∀ b o, b ∉ S → h.get? b = some o → h'.get? b = some o) : ZGave xs ys N Ts h' := by
  refine ⟨k.up, fun T hT => ⟨(k.new T hT).1, Nat.lt_of_lt_of_le (k.new T hT).2 hl⟩, fun j T hj => ?_⟩
  obtain ⟨x, y, hp, ex, ey⟩ := k.is j T hj
  refine ⟨x, y, e _ _ (fun hm => ?_) hp, ex, ey⟩
  exact absurd (k.new T (List.mem_of_getElem? hj)).1 (Nat.not_le_of_lt (hS T hm))
theorem ZGave.snoc {xs ys : Array Value} {N : Nat} {Ts : List Addr} {h : Heap} {T : Addr} {x y : Value} (k : ZGave xs ys N Ts h) (hT : ∀ U ∈ Ts, U < T) (hN : N ≤ T) (hp : IsPair h T x y) (ex : xs[Ts.length]? = some x) (ey : ys[Ts.length]? = some y) : ZGave xs ys N (Ts ++ [T]) h := by
  refine ⟨List.pairwise_append.mpr ⟨k.up, List.pairwise_singleton .., fun a ha b hb => by simp at hb; subst hb; exact hT a ha⟩, fun U hU => ?_, fun j U hj => ?_⟩
  · rcases List.mem_append.mp hU with e | e
    · exact k.new U e
    · simp at e; subst e; exact ⟨hN, Heap.lt_size hp⟩
  · by_cases hj2 : j < Ts.length
    · rw [List.getElem?_append_left hj2] at hj
      exact k.is j U hj
    · have hj3 : j = Ts.length := by
        have := (List.getElem?_eq_some_iff.mp hj).1
        simp at this
        omega
      subst hj3
      rw [List.getElem?_append_right (Nat.le_refl _)] at hj
      simp at hj
      subst hj
      exact ⟨x, y, hp, ex, ey⟩
section
variable {prog : Program} {w : World} {A : Around} {R : Result → Shared → Prop} {z TI TO i1 i2 l1 l2 : Addr} {xs ys : Array Value}
end
section
variable {X : Cx} {pins : List (Addr × Obj)} {σ : L2.St}
end
end L3
namespace L3
open PySem PySem.Spec PyProof.Rows L2
section
variable {X : Cx} {x : Str} {C : Addr} {b₀ : Stmt} {body suite : List Stmt} {np pos pos' : Pos} {mb mh : MS} {xs : List Str} {E : Str → Hp → Prop}
end
theorem RpAll.rev {K : PySem.W.Frag} {F : Addr → Prop} {H : Hp} : ∀ {vs : List V} {ts : List T} {A : List Addr}, RpAll K F H vs ts A → ∃ B, RpAll K F H vs.reverse ts.reverse B ∧ ∀ a, B.count a = A.count a
  | _, _, _, .nil => ⟨[], .nil, fun _ => rfl⟩
  | _, _, _, .cons x r => by
    obtain ⟨B, h1, h2⟩ := RpAll.rev r
    obtain ⟨C, h3, h4⟩ := h1.snoc x
    refine ⟨C, by simpa using h3, fun a => ?_⟩
    rw [h4, h2, List.count_append]
    omega
section
variable {X : Cx} {E : Str → Hp → Prop} {o : Expr} {name : Str} {id : String} {to : TE} {i : Nat} {mp : ML} {op : List T → List T → Option (T × List T)} {rM : V → List V → Hp → VK → Prop} {apos cpos : Pos}
end
end L3
namespace L3
open PySem PySem.Spec PyProof.Rows L2
mutual
def calm : PyData → Bool
  | .none => true
  | .bool _ => true
  | .int _ => true
  | .str _ => true
  | .tuple xs => calmAll xs
  | _ => false
def calmAll : List PyData → Bool
  | [] => true
  | x :: xs => calm x && calmAll xs
end
section
variable {K : PySem.W.Frag} {F F' : Addr → Prop} {H : Hp}
mutual
theorem Fz.calm : ∀ {v : V} {x : PyData}, Fz K F H v x → L3.calm x = true → Fz K F' H v x
  | _, _, .non, _ => .non
  | _, _, .bl b, _ => .bl b
  | _, _, .int i, _ => .int i
  | _, _, .str x, _ => .str x
  | _, _, .lst _ _ _, h => by simp [L3.calm] at h
  | _, _, .tup h a, e => .tup h (FzAll.calm a (by simpa [L3.calm] using e))
theorem FzAll.calm : ∀ {vs : List V} {xs : List PyData}, FzAll K F H vs xs → calmAll xs = true → FzAll K F' H vs xs
  | _, _, .nil, _ => .nil
  | _, _, .cons h a, e => by
    simp only [calmAll, Bool.and_eq_true] at e
    exact .cons (Fz.calm h e.1) (FzAll.calm a e.2)
end
end
end L3
namespace L3
open PySem PyProof.Rows L2
section
variable {K : PySem.W.Frag} {F F' : Addr → Prop} {H H' : Hp}
theorem ixN_set {α : Type} {xs : List α} {j : Int} {k : Nat} {x : α} (h : ixN xs.length j = some k) : atI (xs.set k x) j = some x := by
  have := (ixN_seq h).2.1
  unfold atI
  rw [List.length_set, h]
  simp [this]
theorem atK_put : ∀ {p : List PK} {n t t' : T}, T.putK? p n t = some t' → T.atK p t' = some n
  | [], n, t, t', h => by cases h; rfl
  | .ix j :: p, n, .ol ts, t', h => by
    obtain ⟨k, e1, h⟩ := Option.bind_eq_some_iff.mp (show (ixN ts.length j).bind _ = some t' from h)
    obtain ⟨t1, e2, h⟩ := Option.bind_eq_some_iff.mp h
    obtain ⟨t2, e3, h⟩ := Option.map_eq_some_iff.mp h
    subst h
    show (atI (ts.set k t2) j).bind (T.atK p) = _
    rw [ixN_set e1]
    exact atK_put e3
  | .ix j :: p, n, .ot ts, t', h => by
    obtain ⟨k, e1, h⟩ := Option.bind_eq_some_iff.mp (show (ixN ts.length j).bind _ = some t' from h)
    obtain ⟨t1, e2, h⟩ := Option.bind_eq_some_iff.mp h
    obtain ⟨t2, e3, h⟩ := Option.map_eq_some_iff.mp h
    subst h
    show (atI (ts.set k t2) j).bind (T.atK p) = _
    rw [ixN_set e1]
    exact atK_put e3
  | .key k :: p, n, .od ks ts, t', h => by
    obtain ⟨m, e1, h⟩ := Option.bind_eq_some_iff.mp (show (kAt ks k).bind _ = some t' from h)
    obtain ⟨t1, e2, h⟩ := Option.bind_eq_some_iff.mp h
    obtain ⟨t2, e3, h⟩ := Option.map_eq_some_iff.mp h
    subst h
    show (kAt ks k).bind (fun m' => ((ts.set m t2)[m']?).bind (T.atK p)) = _
    have hm := (List.getElem?_eq_some_iff.mp e2).1
    rw [e1]
    show ((ts.set m t2)[m]?).bind _ = _
    rw [List.getElem?_set_self hm]
    exact atK_put e3
  | .key k :: p, n, .fd a ks ts, t', h => by
    obtain ⟨m, e1, h⟩ := Option.bind_eq_some_iff.mp (show (kAt ks k).bind _ = some t' from h)
    obtain ⟨t1, e2, h⟩ := Option.bind_eq_some_iff.mp h
    obtain ⟨t2, e3, h⟩ := Option.map_eq_some_iff.mp h
    subst h
    show (kAt ks k).bind (fun m' => ((ts.set m t2)[m']?).bind (T.atK p)) = _
    have hm := (List.getElem?_eq_some_iff.mp e2).1
    rw [e1]
    show ((ts.set m t2)[m]?).bind _ = _
    rw [List.getElem?_set_self hm]
    exact atK_put e3
  | .fld k :: p, n, .ob x ks ts, t', h => by
    obtain ⟨m, e1, h⟩ := Option.bind_eq_some_iff.mp (show (kAt ks k).bind _ = some t' from h)
    obtain ⟨t1, e2, h⟩ := Option.bind_eq_some_iff.mp h
    obtain ⟨t2, e3, h⟩ := Option.map_eq_some_iff.mp h
    subst h
    show (kAt ks k).bind (fun m' => ((ts.set m t2)[m']?).bind (T.atK p)) = _
    have hm := (List.getElem?_eq_some_iff.mp e2).1
    rw [e1]
    show ((ts.set m t2)[m]?).bind _ = _
    rw [List.getElem?_set_self hm]
    exact atK_put e3
  | .ix _ :: _, _, .d _, _, h => by cases h
  | .ix _ :: _, _, .od _ _, _, h => by cases h
  | .ix _ :: _, _, .fd _ _ _, _, h => by cases h
  | .ix _ :: _, _, .fk _ _ _, _, h => by cases h
  | .ix _ :: _, _, .dt _ _ _, _, h => by cases h
  | .ix _ :: _, _, .no _, _, h => by cases h
  | .ix _ :: _, _, .hl, _, h => by cases h
  | .ix _ :: _, _, .ob _ _ _, _, h => by cases h
  | .ix _ :: _, _, .rd _, _, h => by cases h
  | .ix _ :: _, _, .ex _, _, h => by cases h
  | .key _ :: _, _, .d _, _, h => by cases h
  | .key _ :: _, _, .ol _, _, h => by cases h
  | .key _ :: _, _, .ot _, _, h => by cases h
  | .key _ :: _, _, .fk _ _ _, _, h => by cases h
  | .key _ :: _, _, .dt _ _ _, _, h => by cases h
  | .key _ :: _, _, .no _, _, h => by cases h
  | .key _ :: _, _, .hl, _, h => by cases h
  | .key _ :: _, _, .ob _ _ _, _, h => by cases h
  | .key _ :: _, _, .rd _, _, h => by cases h
  | .key _ :: _, _, .ex _, _, h => by cases h
  | .fld _ :: _, _, .d _, _, h => by cases h
  | .fld _ :: _, _, .ol _, _, h => by cases h
  | .fld _ :: _, _, .ot _, _, h => by cases h
  | .fld _ :: _, _, .od _ _, _, h => by cases h
  | .fld _ :: _, _, .fd _ _ _, _, h => by cases h
  | .fld _ :: _, _, .fk _ _ _, _, h => by cases h
  | .fld _ :: _, _, .dt _ _ _, _, h => by cases h
  | .fld _ :: _, _, .no _, _, h => by cases h
  | .fld _ :: _, _, .hl, _, h => by cases h
  | .fld _ :: _, _, .rd _, _, h => by cases h
  | .fld _ :: _, _, .ex _, _, h => by cases h
theorem putK_put : ∀ {p : List PK} {n m t t' : T}, T.putK? p n t = some t' → T.putK? p m t' = T.putK? p m t
  | [], n, m, t, t', h => rfl
  | .ix j :: p, n, m, .ol ts, t', h => by
    obtain ⟨k, e1, h⟩ := Option.bind_eq_some_iff.mp (show (ixN ts.length j).bind _ = some t' from h)
    obtain ⟨t1, e2, h⟩ := Option.bind_eq_some_iff.mp h
    obtain ⟨t2, e3, h⟩ := Option.map_eq_some_iff.mp h
    subst h
    have hm := (List.getElem?_eq_some_iff.mp e2).1
    show (ixN (ts.set k t2).length j).bind (fun k' => ((ts.set k t2)[k']?).bind fun t => (T.putK? p m t).map fun t' => T.ol ((ts.set k t2).set k' t')) = (ixN ts.length j).bind fun k => (ts[k]?).bind fun t => (T.putK? p m t).map fun t' => T.ol (ts.set k t')
    rw [List.length_set, e1]
    simp only [Option.bind_some]
    rw [List.getElem?_set_self hm, e2]
    simp only [Option.bind_some]
    rw [putK_put e3]
    simp only [List.set_set]
  | .ix j :: p, n, m, .ot ts, t', h => by
    obtain ⟨k, e1, h⟩ := Option.bind_eq_some_iff.mp (show (ixN ts.length j).bind _ = some t' from h)
    obtain ⟨t1, e2, h⟩ := Option.bind_eq_some_iff.mp h
    obtain ⟨t2, e3, h⟩ := Option.map_eq_some_iff.mp h
    subst h
    have hm := (List.getElem?_eq_some_iff.mp e2).1
    show (ixN (ts.set k t2).length j).bind (fun k' => ((ts.set k t2)[k']?).bind fun t => (T.putK? p m t).map fun t' => T.ot ((ts.set k t2).set k' t')) = (ixN ts.length j).bind fun k => (ts[k]?).bind fun t => (T.putK? p m t).map fun t' => T.ot (ts.set k t')
    rw [List.length_set, e1]
    simp only [Option.bind_some]
    rw [List.getElem?_set_self hm, e2]
    simp only [Option.bind_some]
    rw [putK_put e3]
    simp only [List.set_set]
  | .key k :: p, n, m, .od ks ts, t', h => by
    obtain ⟨j, e1, h⟩ := Option.bind_eq_some_iff.mp (show (kAt ks k).bind _ = some t' from h)
    obtain ⟨t1, e2, h⟩ := Option.bind_eq_some_iff.mp h
    obtain ⟨t2, e3, h⟩ := Option.map_eq_some_iff.mp h
    subst h
    have hm := (List.getElem?_eq_some_iff.mp e2).1
    show (kAt ks k).bind (fun k' => ((ts.set j t2)[k']?).bind fun t => (T.putK? p m t).map fun t' => T.od ks ((ts.set j t2).set k' t')) = (kAt ks k).bind fun k => (ts[k]?).bind fun t => (T.putK? p m t).map fun t' => T.od ks (ts.set k t')
    rw [e1]
    simp only [Option.bind_some]
    rw [List.getElem?_set_self hm, e2]
    simp only [Option.bind_some]
    rw [putK_put e3]
    simp only [List.set_set]
  | .key k :: p, n, m, .fd a ks ts, t', h => by
    obtain ⟨j, e1, h⟩ := Option.bind_eq_some_iff.mp (show (kAt ks k).bind _ = some t' from h)
    obtain ⟨t1, e2, h⟩ := Option.bind_eq_some_iff.mp h
    obtain ⟨t2, e3, h⟩ := Option.map_eq_some_iff.mp h
    subst h
    have hm := (List.getElem?_eq_some_iff.mp e2).1
    show (kAt ks k).bind (fun k' => ((ts.set j t2)[k']?).bind fun t => (T.putK? p m t).map fun t' => T.fd a ks ((ts.set j t2).set k' t')) = (kAt ks k).bind fun k => (ts[k]?).bind fun t => (T.putK? p m t).map fun t' => T.fd a ks (ts.set k t')
    rw [e1]
    simp only [Option.bind_some]
    rw [List.getElem?_set_self hm, e2]
    simp only [Option.bind_some]
    rw [putK_put e3]
    simp only [List.set_set]
  | .fld k :: p, n, m, .ob x ks ts, t', h => by
    obtain ⟨j, e1, h⟩ := Option.bind_eq_some_iff.mp (show (kAt ks k).bind _ = some t' from h)
    obtain ⟨t1, e2, h⟩ := Option.bind_eq_some_iff.mp h
    obtain ⟨t2, e3, h⟩ := Option.map_eq_some_iff.mp h
    subst h
    have hm := (List.getElem?_eq_some_iff.mp e2).1
    show (kAt ks k).bind (fun k' => ((ts.set j t2)[k']?).bind fun t => (T.putK? p m t).map fun t' => T.ob x ks ((ts.set j t2).set k' t')) = (kAt ks k).bind fun k => (ts[k]?).bind fun t => (T.putK? p m t).map fun t' => T.ob x ks (ts.set k t')
    rw [e1]
    simp only [Option.bind_some]
    rw [List.getElem?_set_self hm, e2]
    simp only [Option.bind_some]
    rw [putK_put e3]
    simp only [List.set_set]
  | .ix _ :: _, _, _, .d _, _, h => by cases h
  | .ix _ :: _, _, _, .od _ _, _, h => by cases h
  | .ix _ :: _, _, _, .fd _ _ _, _, h => by cases h
  | .ix _ :: _, _, _, .fk _ _ _, _, h => by cases h
  | .ix _ :: _, _, _, .dt _ _ _, _, h => by cases h
  | .ix _ :: _, _, _, .no _, _, h => by cases h
  | .ix _ :: _, _, _, .hl, _, h => by cases h
  | .ix _ :: _, _, _, .ob _ _ _, _, h => by cases h
  | .ix _ :: _, _, _, .rd _, _, h => by cases h
  | .ix _ :: _, _, _, .ex _, _, h => by cases h
  | .key _ :: _, _, _, .d _, _, h => by cases h
  | .key _ :: _, _, _, .ol _, _, h => by cases h
  | .key _ :: _, _, _, .ot _, _, h => by cases h
  | .key _ :: _, _, _, .fk _ _ _, _, h => by cases h
  | .key _ :: _, _, _, .dt _ _ _, _, h => by cases h
  | .key _ :: _, _, _, .no _, _, h => by cases h
  | .key _ :: _, _, _, .hl, _, h => by cases h
  | .key _ :: _, _, _, .ob _ _ _, _, h => by cases h
  | .key _ :: _, _, _, .rd _, _, h => by cases h
  | .key _ :: _, _, _, .ex _, _, h => by cases h
  | .fld _ :: _, _, _, .d _, _, h => by cases h
  | .fld _ :: _, _, _, .ol _, _, h => by cases h
  | .fld _ :: _, _, _, .ot _, _, h => by cases h
  | .fld _ :: _, _, _, .od _ _, _, h => by cases h
  | .fld _ :: _, _, _, .fd _ _ _, _, h => by cases h
  | .fld _ :: _, _, _, .fk _ _ _, _, h => by cases h
  | .fld _ :: _, _, _, .dt _ _ _, _, h => by cases h
  | .fld _ :: _, _, _, .no _, _, h => by cases h
  | .fld _ :: _, _, _, .hl, _, h => by cases h
  | .fld _ :: _, _, _, .rd _, _, h => by cases h
  | .fld _ :: _, _, _, .ex _, _, h => by cases h
theorem Sl.takeK {tv : List (Option V)} {td : Env} {σ : L2.St} {ρ : Env} {A : List Addr} {i : Nat} {p : List PK} {t0 tc : T} (hl : tv.length = td.length) (s : Sl K F H (tv ++ σ) (td ++ ρ) A) (e0 : ρ[i]? = some (some t0)) (e1 : T.atK p t0 = some tc) :
    ∃ (v0 v : V) (Al B : List Addr) (tn : T), σ[i]? = some (some v0) ∧ LocK H v0 p v ∧ Rp K F H v tc Al ∧ (∀ b, A.count b = Al.count b + B.count b) ∧ T.putK? p (.no v) t0 = some tn ∧ Sl K F H (tv ++ σ) (td ++ ρ.set i (some tn)) B := by
  have hlen := s.len
  have hi : i < ρ.length := (List.getElem?_eq_some_iff.mp e0).1
  obtain ⟨B1, hb, ar, get⟩ := s.around (i := tv.length + i) (by rw [hlen, List.length_append]; omega)
  obtain ⟨v0, A0, e3, x, hc1⟩ := get t0 (by rw [app_at hl.symm, e0])
  rw [app_at rfl] at e3
  obtain ⟨v, Al, Bl, l, xl, hc2, pt⟩ := x.locK e1
  obtain ⟨tn, C3, q1, q2, q3⟩ := pt (.same (Same.refl H)) (fun _ _ => rfl) (t' := .no v) (A2 := []) (.no v)
  obtain ⟨C4, s4, q4⟩ := ar.put (.same (Same.refl H)) (fun _ _ => rfl) q2
  rw [app_set rfl, set_self e3, app_set hl.symm] at s4
  exact ⟨v0, v, Al, C4, tn, e3, l, xl, fun b => by have := q3 b; rw [List.count_nil] at this; rw [hc1 b, hc2 b, q4 b, this]; omega, q1, s4⟩
theorem Sl.putK {tv : List (Option V)} {td : Env} {σ : L2.St} {ρ : Env} {B : List Addr} {i : Nat} {p : List PK} {tn t' : T} {v : V} {A2 : List Addr} (hl : tv.length = td.length) (s : Sl K F H (tv ++ σ) (td ++ ρ) B) (e0 : ρ[i]? = some (some tn)) (e1 : T.atK p tn = some (.no v))
    (m : Mono F F' H H') (k : ∀ b ∈ B, H' b = H b) (x : Rp K F' H' v t' A2) : ∃ (C : List Addr) (t1 : T), T.putK? p t' tn = some t1 ∧ Sl K F' H' (tv ++ σ) (td ++ ρ.set i (some t1)) C ∧ ∀ b, C.count b = A2.count b + B.count b := by
  have hlen := s.len
  have hi : i < ρ.length := (List.getElem?_eq_some_iff.mp e0).1
  obtain ⟨B1, hb, ar, get⟩ := s.around (i := tv.length + i) (by rw [hlen, List.length_append]; omega)
  obtain ⟨v0, A0, e3, x0, hc1⟩ := get tn (by rw [app_at hl.symm, e0])
  rw [app_at rfl] at e3
  obtain ⟨v', Al, Bl, l, xl, hc2, pt⟩ := x0.locK e1
  cases xl
  obtain ⟨t1, C3, q1, q2, q3⟩ := pt m (fun b hb' => k b (List.count_pos_iff.mp (by have := List.count_pos_iff.mpr hb'; have := hc1 b; have := hc2 b; omega))) x
  obtain ⟨C4, s4, q4⟩ := ar.put m (fun b hb' => k b (List.count_pos_iff.mp (by have := List.count_pos_iff.mpr hb'; have := hc1 b; omega))) q2
  rw [app_set rfl, set_self e3, app_set hl.symm] at s4
  exact ⟨C4, t1, q1, s4, fun b => by have := hc2 b; rw [List.count_nil] at this; rw [q4 b, q3 b, hc1 b, this]; omega⟩
end
end L3
namespace L3
open PySem PyProof.Rows L2
section
variable {K : PySem.W.Frag} {c : C0} {H1 : Hp} {A A1 B : List Addr} {vs : List V} {ts : List T} {sl : List (Option V)} {rl : Env} {rz : Bool} {cl : Str → Option Addr} {n : Nat} {io : List Nat} {fm : List T → R (T × List T)}
end
inductive AK where
  | v (t : T) | pl (i : Nat) (p : List PK)
def AK.slot : AK → Option T
  | .v t => some t
  | .pl _ _ => none
def AK.isPl : AK → Bool
  | .v _ => false
  | .pl _ _ => true
abbrev MBK := Env → R (List AK × Env)
def SimBK (K : PySem.W.Frag) (E : Str → Hp → Prop) (pat : List Bool) (ta : TA) (m : MBK) : Prop :=
  ∀ (c : C0) (H : Hp) (tv : List (Option V)) (td : Env) (σ : L2.St) (ρ : Env), tv.length = td.length → StR K c H (tv ++ σ) (td ++ ρ) → ∀ Q : List V → Hp → Prop,
    Then (m ρ) (fun r => ∀ vs H', Same H H' → vs.length = r.1.length → r.1.map AK.isPl = pat → (∀ (j i : Nat) (p : List PK), r.1[j]? = some (.pl i p) → ∃ v0 v, vs[j]? = some v ∧ σ[i]? = some (some v0) ∧ LocK H' v0 p v) → StR K c H' (vs.map some ++ (tv ++ σ)) (r.1.map AK.slot ++ (td ++ r.2)) → Q vs H') (fun x => ∀ H', KeepC c H' → E x H') → ta σ H Q
structure QBK (X : Cx) (E : Str → Hp → Prop) (pat : List Bool) (es : List Expr) (ta : TA) (m : MBK) : Prop where
  pa : PA X es ta
  sim : SimBK X.K E pat ta m
section
variable {X : Cx} {E : Str → Hp → Prop} {e : Expr} {es : List Expr} {te : TE} {t : TA} {m : MEx} {r : MBK} {pat : List Bool} {pos : Pos}
end
inductive Holes : List (Nat × List PK × V) → Env → Env → Prop
  | nil {ρ : Env} : Holes [] ρ ρ
  | cons {i : Nat} {p : List PK} {v : V} {r : List (Nat × List PK × V)} {ρ ρn : Env} {t0 tn : T} : ρ[i]? = some (some t0) → T.putK? p (.no v) t0 = some tn → Holes r (ρ.set i (some tn)) ρn → i ∉ r.map Prod.fst → Holes ((i, p, v) :: r) ρ ρn
theorem Holes.get_ne : ∀ {r : List (Nat × List PK × V)} {ρ ρn : Env}, Holes r ρ ρn → ∀ {j : Nat}, j ∉ r.map Prod.fst → ρn[j]? = ρ[j]?
  | _, _, _, .nil, _, _ => rfl
  | _, _, _, .cons (i := i) _ _ h _, j, hj => by
    simp at hj
    rw [h.get_ne (by simpa using hj.2), List.getElem?_set_ne (fun z => hj.1 z.symm)]
theorem Holes.set : ∀ {r : List (Nat × List PK × V)} {ρ ρn : Env}, Holes r ρ ρn → ∀ {j : Nat} {o : Option T}, j ∉ r.map Prod.fst → Holes r (ρ.set j o) (ρn.set j o)
  | _, _, _, .nil, _, _, _ => .nil
  | _, _, _, .cons (i := i) e1 e2 h h', j, o, hj => by
    have hj' := hj
    simp at hj'
    have ne : i ≠ j := fun z => hj'.1 z.symm
    refine .cons (by rw [List.getElem?_set_ne (fun z => ne z.symm)]; exact e1) e2 ?_ h'
    rw [List.set_comm _ _ (fun z => ne z.symm)]
    exact h.set (by simpa using hj'.2)
def fillPk : List AK → Env → Option (List T)
  | [], _ => some []
  | .v t :: ks, ρ => (fillPk ks ρ).map fun r => t :: r
  | .pl i p :: ks, ρ => (atKo p ρ[i]?).bind fun t => (fillPk ks (ρ.set i none)).map fun r => t :: r
def putKs : List AK → List T → Env → Option Env
  | [], [], ρ => some ρ
  | .v _ :: ks, os, ρ => putKs ks os ρ
  | .pl i p :: ks, o :: os, ρ => (putAtK i p o ρ).bind (putKs ks os)
  | _, _, _ => none
def holesOf : List AK → List V → List (Nat × List PK × V)
  | [], _ => []
  | .v _ :: ks, vs => holesOf ks vs.tail
  | .pl i p :: ks, v :: vs => (i, p, v) :: holesOf ks vs
  | .pl _ _ :: ks, [] => holesOf ks []
theorem fillPk_set : ∀ {ks : List AK} {vs : List V} {ρ : Env} {i : Nat} {ts : List T} (o : Option T), vs.length = ks.length → fillPk ks (ρ.set i none) = some ts → fillPk ks (ρ.set i o) = some ts ∧ i ∉ (holesOf ks vs).map Prod.fst
  | [], vs, ρ, i, ts, o, _, h => ⟨h, by simp [holesOf]⟩
  | .v t :: ks, v :: vs, ρ, i, ts, o, hl, h => by
    obtain ⟨r, e, e2⟩ := Option.map_eq_some_iff.mp (show (fillPk ks _).map _ = some ts from h)
    obtain ⟨h1, h2⟩ := fillPk_set (vs := vs) o (by simpa using hl) e
    exact ⟨by show (fillPk ks _).map _ = _; rw [h1, ← e2]; rfl, h2⟩
  | .pl j p :: ks, v :: vs, ρ, i, ts, o, hl, h => by
    obtain ⟨t, e0, h⟩ := Option.bind_eq_some_iff.mp (show (atKo p (ρ.set i none)[j]?).bind _ = some ts from h)
    obtain ⟨r, e, e2⟩ := Option.map_eq_some_iff.mp h
    have ne : i ≠ j := fun z => by
      subst z
      obtain ⟨t0, e3, _⟩ := atKo_some e0
      have hlt : i < (ρ.set i none).length := (List.getElem?_eq_some_iff.mp e3).1
      rw [List.getElem?_set_self (by simpa using hlt)] at e3
      cases e3
    rw [List.set_comm _ _ ne] at e
    obtain ⟨h1, h2⟩ := fillPk_set (vs := vs) o (by simpa using hl) e
    refine ⟨?_, ?_⟩
    · show (atKo p (ρ.set i o)[j]?).bind _ = _
      rw [List.getElem?_set_ne ne] at e0 ⊢
      rw [e0]
      show (fillPk ks ((ρ.set i o).set j none)).map _ = _
      rw [List.set_comm _ _ ne, h1, ← e2]
      rfl
    · show i ∉ (((j, p, v) :: holesOf ks vs).map Prod.fst)
      simp only [List.map_cons, List.mem_cons]
      exact fun z => z.elim ne h2
theorem Sl.fillPk {K : PySem.W.Frag} {F : Addr → Prop} {H : Hp} {σ : L2.St} : ∀ {ks : List AK} {vs : List V} {ρ : Env} {ts : List T} {A : List Addr} {tv : List (Option V)} {td : Env}, tv.length = td.length → vs.length = ks.length → (∀ (j i : Nat) (p : List PK), ks[j]? = some (.pl i p) → ∃ v0 v, vs[j]? = some v ∧ σ[i]? = some (some v0) ∧ LocK H v0 p v) →
    L3.fillPk ks ρ = some ts → Sl K F H (vs.map some ++ (tv ++ σ)) (ks.map AK.slot ++ (td ++ ρ)) A → ∃ A1 B ρn, RpAll K F H vs ts A1 ∧ Sl K F H (tv ++ σ) (td ++ ρn) B ∧ (∀ a, A1.count a + B.count a = A.count a) ∧ Holes (holesOf ks vs) ρ ρn
  | [], [], ρ, ts, A, tv, td, _, _, _, e, s => by cases e; exact ⟨[], A, ρ, .nil, s, fun a => by simp, .nil⟩
  | .v t :: ks, v :: vs, ρ, ts, A, tv, td, hl, hvs, hk, e, s => by
    obtain ⟨r, e1, e2⟩ := Option.map_eq_some_iff.mp (show (L3.fillPk ks ρ).map _ = some ts from e)
    subst e2
    cases s with
    | cons x s =>
      obtain ⟨A1, B, ρn, h1, h2, h3, h4⟩ := Sl.fillPk hl (by simpa using hvs) (fun j i p z => hk (j + 1) i p (by simpa using z)) e1 s
      exact ⟨_, B, ρn, .cons x h1, h2, fun a => by have := h3 a; rw [List.count_append, List.count_append]; omega, h4⟩
  | .pl i p :: ks, v :: vs, ρ, ts, A, tv, td, hl, hvs, hk, e, s => by
    obtain ⟨t, e0, e⟩ := Option.bind_eq_some_iff.mp (show (atKo p ρ[i]?).bind _ = some ts from e)
    obtain ⟨r, e1, e2⟩ := Option.map_eq_some_iff.mp e
    subst e2
    obtain ⟨t0, e6, e7⟩ := atKo_some e0
    have hvs' : vs.length = ks.length := by simpa using hvs
    cases s with
    | skip s =>
      have s' : Sl K F H ((vs.map some ++ tv) ++ σ) ((ks.map AK.slot ++ td) ++ ρ) A := by simpa [List.append_assoc] using s
      obtain ⟨v0, v', Al, B0, tn, g1, g2, g3, g4, g5, g6⟩ := s'.takeK (i := i) (p := p) (by simp [hl, hvs']) e6 e7
      obtain ⟨w0, w, k1, k2, k3⟩ := hk 0 i p rfl
      have ev : v = w := by simpa using k1
      subst ev
      rw [g1] at k2; cases k2
      have := g2.uniq k3
      subst this
      obtain ⟨f1, f2⟩ := fillPk_set (vs := vs) (some tn) hvs' e1
      obtain ⟨A1, B, ρn, h1, h2, h3, h4⟩ := Sl.fillPk hl hvs' (fun j i p z => hk (j + 1) i p (by simpa using z)) f1 (by simpa [List.append_assoc] using g6)
      exact ⟨_, B, ρn, .cons g3 h1, h2, fun a => by have := h3 a; have := g4 a; rw [List.count_append]; omega, .cons e6 g5 h4 f2⟩
theorem Sl.putKs {K : PySem.W.Frag} {F : Addr → Prop} {H : Hp} {tv : List (Option V)} {td : Env} {σ : L2.St} (hl : tv.length = td.length) : ∀ {ks : List AK} {vs : List V} {os : List T} {ρ ρn ρ' : Env} {B C1 : List Addr}, vs.length = ks.length → Holes (holesOf ks vs) ρ ρn → Sl K F H (tv ++ σ) (td ++ ρn) B → RpAll K F H ((holesOf ks vs).map fun h => h.2.2) os C1 → L3.putKs ks os ρ = some ρ' →
    ∃ C2, Sl K F H (tv ++ σ) (td ++ ρ') C2 ∧ ∀ a, C2.count a = C1.count a + B.count a
  | [], _, os, ρ, ρn, ρ', B, C1, _, hh, s, r, e => by
    cases hh
    cases r
    cases e
    exact ⟨B, s, fun a => by simp⟩
  | .v t :: ks, v :: vs, os, ρ, ρn, ρ', B, C1, hvs, hh, s, r, e => Sl.putKs hl (vs := vs) (by simpa using hvs) hh s r e
  | .pl i p :: ks, v :: vs, os, ρ, ρn, ρ', B, C1, hvs, hh, s, r, e => by
    have hh : Holes ((i, p, v) :: holesOf ks vs) ρ ρn := hh
    have r : RpAll K F H (v :: (holesOf ks vs).map fun h => h.2.2) os C1 := r
    cases r with
    | @cons _ _ o os' A2 B2 x r2 =>
      obtain ⟨ρ1, e1, e⟩ := Option.bind_eq_some_iff.mp (show (putAtK i p o ρ).bind _ = some ρ' from e)
      cases hh with
      | @cons _ _ _ _ _ _ t0 tn g1 g2 g3 g4 =>
        have hi : i < ρ.length := (List.getElem?_eq_some_iff.mp g1).1
        have hn : ρn[i]? = some (some tn) := by rw [g3.get_ne g4, List.getElem?_set_self hi]
        obtain ⟨C, t1, q1, q2, q3⟩ := s.putK hl hn (atK_put g2) (.same (Same.refl H)) (fun _ _ => rfl) x
        have ep : putAtK i p o ρ = some (ρ.set i (some t1)) := by
          unfold putAtK
          rw [g1]
          show (T.putK? p o t0).map _ = _
          rw [← putK_put g2, q1]
          rfl
        rw [ep] at e1
        cases e1
        have g5 := g3.set (j := i) (o := some t1) g4
        rw [List.set_set] at g5
        obtain ⟨C2, z1, z2⟩ := Sl.putKs hl (vs := vs) (by simpa using hvs) g5 q2 r2 e
        exact ⟨C2, z1, fun a => by rw [z2 a, q3 a, List.count_append]; omega⟩
end L3
namespace L3
open PySem PyProof.Rows L2
section
variable {K : PySem.W.Frag} {cl : Str → Option Addr} {Ek : XK} {rz : Bool} {n : Nat} {fm : List T → R (T × List T)}
end
section
variable {X : Cx} {CX : CXT} {k : Nat} {f C : Addr} {fd : FuncData} {ps : List Str} {Ek : XK} {cl : Str → Option Addr} {x m : Str} {p pos apos : Pos} {o e : Expr} {es : List Expr} {ta : TE} {t : TA} {mb : MBK} {pat : List Bool} {io : List Nat} {fm : List T → R (T × List T)} {rz : Bool} {n : Nat} {i : Nat} {mp : MLK}
end
end L3
namespace L3
open PySem PyProof.Rows L2
section
variable {K : PySem.W.Frag}
end
section
variable {X : Cx} {E : Str → Hp → Prop} {o e : Expr} {es : List Expr} {to : TE} {t : TA} {name : Str} {apos cpos : Pos} {id : String} {rM : V → List V → Hp → VK → Prop} {op : List T → List T → Option (T × List T)}
end
section
variable {X : Cx} {a b : Expr} {ta tb : TE} {pos : Pos} {pr : Nat → Bool}
def kFldC (i : Nat) (mp : MLK) (x f : Str) : MLK := fun ρ => (mp ρ).bind fun p => match atKo p ρ[i]? with
  | some (.ob y _ _) => if y = x then some (p ++ [.fld f]) else none
  | _ => none
end
section
variable {X : Cx} {E : Str → Hp → Prop} {io : List Nat} {o value : Expr} {to tv' : TE} {pos pos' : Pos}
end
theorem RpAll.erase {K : PySem.W.Frag} {F : Addr → Prop} {H : Hp} : ∀ {vs : List V} {ts : List T} {A : List Addr}, RpAll K F H vs ts A → ∀ {n : Nat} {t : T}, ts[n]? = some t → ∃ v B C, vs[n]? = some v ∧ Rp K F H v t B ∧ RpAll K F H (vs.eraseIdx n) (ts.eraseIdx n) C ∧ ∀ a, A.count a = B.count a + C.count a
  | _, _, _, .nil, _, _, h => by simp at h
  | v0 :: vs, t0 :: ts, _, .cons x r, 0, t, h => by
    have h' : t0 = t := by simpa using h
    subst h'
    exact ⟨_, _, _, rfl, x, r, fun a => by rw [List.count_append]⟩
  | _, _, _, .cons x r, n + 1, t, h => by
    obtain ⟨v, B, C, e1, e2, e3, e4⟩ := r.erase (n := n) (by simpa using h)
    exact ⟨v, B, _, by simpa using e1, e2, by simpa using RpAll.cons x e3, fun a => by rw [List.count_append, List.count_append, e4 a]; omega⟩
def popO (i : Nat) (p : List PK) (k : Key) (ρ : Env) (miss : R (T × Env)) : R (T × Env) := match atKo p ρ[i]? with
  | some (.od ks ts) => (match kAt ks k with
    | some n => (ofO ts[n]?).bind fun t => (ofO (putAtK i p (.od (ks.eraseIdx n) (ts.eraseIdx n)) ρ)).bind fun ρ' => .ok (t, ρ')
    | none => miss)
  | _ => .bad
def mPop1 (i : Nat) (mp : MLK) (mk : MP) : MEx := fun ρ => (ofO (mp ρ)).bind fun p => (ofO ((mk ρ).bind T.key)).bind fun k => popO i p k ρ .bad
def mPop2 (i : Nat) (mp : MLK) (mk : MP) (md : MP) : MEx := fun ρ => (ofO (mp ρ)).bind fun p => (ofO ((mk ρ).bind T.key)).bind fun k => (ofO (md ρ)).bind fun d => match d with
  | .d x => popO i p k ρ (.ok (.d x, ρ))
  | _ => .bad
section
variable {K : PySem.W.Frag}
end
section
variable {X : Cx} {E : Str → Hp → Prop} {o e f : Expr} {td' ty tx : TE} {apos cpos : Pos} {i : Nat} {mp : MLK} {mk md : MP}
end
end L3
namespace L3
open PySem PyProof.Rows L2
section
variable {X : Cx} {E : Str → Hp → Prop} {o e f : Expr} {td' ty tx : TE} {apos cpos pos : Pos} {ma mk md : MP}
end
section
variable {X : Cx} {E : Str → Hp → Prop} {x : Str} {p pos : Pos} {id : String} {rr : List V → Hp → VK → Prop} {op : List T → R RV} {e : Expr} {es : List Expr} {t : TA}
end
end L3
namespace L3
open PySem PyProof.Rows L2
instance : DecidableEq PK := fun a b => match a, b with
  | .ix i, .ix j => if h : i = j then .isTrue (by rw [h]) else .isFalse fun z => h (by injection z)
  | .key i, .key j => if h : i = j then .isTrue (by rw [h]) else .isFalse fun z => h (by injection z)
  | .fld i, .fld j => if h : i = j then .isTrue (by rw [h]) else .isFalse fun z => h (by injection z)
  | .ix _, .key _ => .isFalse nofun
  | .ix _, .fld _ => .isFalse nofun
  | .key _, .ix _ => .isFalse nofun
  | .key _, .fld _ => .isFalse nofun
  | .fld _, .ix _ => .isFalse nofun
  | .fld _, .key _ => .isFalse nofun
mutual
def T.noFd : T → Bool
  | .d _ => true
  | .ol ts => T.noFdA ts
  | .ot ts => T.noFdA ts
  | .od _ ts => T.noFdA ts
  | .fd _ _ _ => false
  | .fk _ _ _ => false
  | .dt _ _ _ => true
  | .no _ => true
  | .hl => true
  | .rd _ => true
  | .ex _ => true
  | .ob _ _ ts => T.noFdA ts
def T.noFdA : List T → Bool
  | [] => true
  | t :: r => t.noFd && T.noFdA r
end
mutual
inductive Avd (a : Addr) : T → Prop
  | d (x : PyData) : Avd a (.d x)
  | ol {ts : List T} : AvdA a ts → Avd a (.ol ts)
  | ot {ts : List T} : AvdA a ts → Avd a (.ot ts)
  | od {ks : List Key} {ts : List T} : AvdA a ts → Avd a (.od ks ts)
  | fd {b : Addr} {ks : List Key} {ts : List T} : b ≠ a → AvdA a ts → Avd a (.fd b ks ts)
  | fk {b : Addr} {o : Obj} {kvs : List (Key × V)} : b ≠ a → Avd a (.fk b o kvs)
  | dt (en : List Key × Addr × Value → DictEntry) (ks : List (List Key)) (ds : List PyData) : Avd a (.dt en ks ds)
  | no (v : V) : Avd a (.no v)
  | hl : Avd a .hl
  | rd (xs : List PyData) : Avd a (.rd xs)
  | ex (x : Str) : Avd a (.ex x)
  | ob {x : Str} {fs : List Str} {ts : List T} : AvdA a ts → Avd a (.ob x fs ts)
inductive AvdA (a : Addr) : List T → Prop
  | nil : AvdA a []
  | cons {t : T} {ts : List T} : Avd a t → AvdA a ts → AvdA a (t :: ts)
end
def AvdE (a : Addr) (ρ : Env) : Prop := ∀ t, some t ∈ ρ → Avd a t
mutual
theorem T.noFd_avd (a : Addr) : ∀ (t : T), t.noFd = true → Avd a t
  | .d x, _ => .d x
  | .ol ts, h => .ol (T.noFdA_avd a ts (by simpa [T.noFd] using h))
  | .ot ts, h => .ot (T.noFdA_avd a ts (by simpa [T.noFd] using h))
  | .od _ ts, h => .od (T.noFdA_avd a ts (by simpa [T.noFd] using h))
  | .fd _ _ _, h => by simp [T.noFd] at h
  | .fk _ _ _, h => by simp [T.noFd] at h
  | .dt en ks ds, _ => .dt en ks ds
  | .no v, _ => .no v
  | .hl, _ => .hl
  | .rd x, _ => .rd x
  | .ex x, _ => .ex x
  | .ob _ _ ts, h => .ob (T.noFdA_avd a ts (by simpa [T.noFd] using h))
theorem T.noFdA_avd (a : Addr) : ∀ (ts : List T), T.noFdA ts = true → AvdA a ts
  | [], _ => .nil
  | t :: r, h => by
    simp only [T.noFdA, Bool.and_eq_true] at h
    exact .cons (T.noFd_avd a t h.1) (T.noFdA_avd a r h.2)
end
section
variable {K : PySem.W.Frag} {F F' : Addr → Prop} {H : Hp} {a : Addr}
mutual
theorem Rp.avd (h0 : ∀ o kvs, H a ≠ some (.frz o (.dK kvs))) : ∀ {v : V} {t : T} {A : List Addr}, Rp K F H v t A → Avd a t
  | _, _, _, .d _ => .d _
  | _, _, _, .ol _ r => .ol (RpAll.avd h0 r)
  | _, _, _, .ot _ r => .ot (RpAll.avd h0 r)
  | _, _, _, .od _ _ _ r => .od (RpAll.avd h0 r)
  | _, _, _, .fd h _ _ r => .fd (fun e => h0 _ _ (by rw [← e]; exact h)) (RpAll.avd h0 r)
  | _, _, _, .fk h => .fk (fun e => h0 _ _ (by rw [← e]; exact h))
  | _, _, _, .dt _ _ _ _ _ _ => .dt _ _ _
  | _, _, _, .no v => .no v
  | _, _, _, .hl v => .hl
  | _, _, _, .rd _ _ => .rd _
  | _, _, _, .ob _ _ _ r => .ob (RpAll.avd h0 r)
  | _, _, _, .ex _ _ _ => .ex _
theorem RpAll.avd (h0 : ∀ o kvs, H a ≠ some (.frz o (.dK kvs))) : ∀ {vs : List V} {ts : List T} {A : List Addr}, RpAll K F H vs ts A → AvdA a ts
  | _, _, _, .nil => .nil
  | _, _, _, .cons x r => .cons (Rp.avd h0 x) (RpAll.avd h0 r)
end
theorem Sl.avd (h0 : ∀ o kvs, H a ≠ some (.frz o (.dK kvs))) : ∀ {sl : List (Option V)} {ρ : Env} {A : List Addr}, Sl K F H sl ρ A → AvdE a ρ
  | _, _, _, .nil => fun t ht => by simp at ht
  | _, _, _, .skip r => fun t ht => by
    rcases List.mem_cons.mp ht with e | e
    · cases e
    · exact Sl.avd h0 r t e
  | _, _, _, .cons x r => fun t ht => by
    rcases List.mem_cons.mp ht with e | e
    · cases e; exact x.avd h0
    · exact Sl.avd h0 r t e
section
variable {o : Obj} {kvs : List (Key × V)} (ha : H a = some (.frz o (.dK kvs))) (hF : ∀ b, b ≠ a → F b → F' b)
include ha hF
mutual
theorem Fz.unl : ∀ {v : V} {x : PyData}, Fz K F H v x → Fz K F' (upd H a (.dK kvs)) v x
  | _, _, .non => .non
  | _, _, .bl b => .bl b
  | _, _, .int i => .int i
  | _, _, .str x => .str x
  | _, _, .lst (a := b) h f r => by
    have ne : b ≠ a := fun e => by rw [e, ha] at h; cases h
    exact .lst (by rw [upd_ne ne]; exact h) (hF b ne f) (FzAll.unl r)
  | _, _, .tup (a := b) h r => by
    refine .tup ?_ (FzAll.unl r)
    rcases h with (h | ⟨o', h⟩) | h
    · have ne : b ≠ a := fun e => by rw [e, ha] at h; cases h
      exact .inl (.inl (by rw [upd_ne ne]; exact h))
    · have ne : b ≠ a := fun e => by rw [e, ha] at h; cases h
      exact .inl (.inr ⟨o', by rw [upd_ne ne]; exact h⟩)
    · exact .inr h
theorem FzAll.unl : ∀ {vs : List V} {xs : List PyData}, FzAll K F H vs xs → FzAll K F' (upd H a (.dK kvs)) vs xs
  | _, _, .nil => .nil
  | _, _, .cons x r => .cons (Fz.unl x) (FzAll.unl r)
end
theorem sqT_unl {b : Addr} {vs : List V} (h : SqT K H b vs) : SqT K (upd H a (.dK kvs)) b vs := by
  rcases h with (h | ⟨o', h⟩) | h
  · have ne : b ≠ a := fun e => by rw [e, ha] at h; cases h
    exact .inl (.inl (by rw [upd_ne ne]; exact h))
  · have ne : b ≠ a := fun e => by rw [e, ha] at h; cases h
    exact .inl (.inr ⟨o', by rw [upd_ne ne]; exact h⟩)
  · exact .inr h
theorem RdL.unl {b : Addr} {vs : List V} (h : RdL K H b vs) : RdL K (upd H a (.dK kvs)) b vs := by
  rcases h with ⟨o', h⟩ | h
  · have ne : b ≠ a := fun e => by rw [e, ha] at h; cases h
    exact .inl ⟨o', by rw [upd_ne ne]; exact h⟩
  · exact .inr h
mutual
theorem Rp.unl : ∀ {v : V} {t : T} {A : List Addr}, Rp K F H v t A → Avd a t → Rp K F' (upd H a (.dK kvs)) v t A
  | _, _, _, .d h, _ => .d (h.unl ha hF)
  | _, _, _, .ol (a := b) h r, v => by
    cases v with
    | ol v =>
      have ne : b ≠ a := fun e => by rw [e, ha] at h; cases h
      exact .ol (by rw [upd_ne ne]; exact h) (RpAll.unl r v)
  | _, _, _, .ot (a := b) h r, v => by
    cases v with
    | ot v =>
      have ne : b ≠ a := fun e => by rw [e, ha] at h; cases h
      exact .ot (by rw [upd_ne ne]; exact h) (RpAll.unl r v)
  | _, _, _, .od (a := b) h e d r, v => by
    cases v with
    | od v =>
      have ne : b ≠ a := fun e => by rw [e, ha] at h; cases h
      exact .od (by rw [upd_ne ne]; exact h) e d (RpAll.unl r v)
  | _, _, _, .fd (a := b) h e d r, v => by
    cases v with
    | fd ne v => exact .fd (by rw [upd_ne ne]; exact h) e d (RpAll.unl r v)
  | _, _, _, .fk (a := b) h, v => by
    cases v with
    | fk ne => exact .fk (by rw [upd_ne ne]; exact h)
  | _, _, _, .dt (a := b) h e n k v r, _ => by
    have ne : b ≠ a := fun e => by rw [e, ha] at h; cases h
    exact .dt (by rw [upd_ne ne]; exact h) e n (fun x hx => sqT_unl ha hF (k x hx)) v (r.unl ha hF)
  | _, _, _, .no v, _ => .no v
  | _, _, _, .hl v, _ => .hl v
  | _, _, _, .rd h r, _ => .rd (h.unl ha hF) (r.unl ha hF)
  | _, _, _, .ob (a := b) h c e r, v => by
    cases v with
    | ob v =>
      have ne : b ≠ a := fun e => by rw [e, ha] at h; cases h
      exact .ob (by rw [upd_ne ne]; exact h) c e (RpAll.unl r v)
  | _, _, _, .ex (a := b) h c e, _ => by
    have ne : b ≠ a := fun e => by rw [e, ha] at h; cases h
    exact .ex (by rw [upd_ne ne]; exact h) c e
theorem RpAll.unl : ∀ {vs : List V} {ts : List T} {A : List Addr}, RpAll K F H vs ts A → AvdA a ts → RpAll K F' (upd H a (.dK kvs)) vs ts A
  | _, _, _, .nil, _ => .nil
  | _, _, _, .cons x r, v => by
    cases v with
    | cons v1 v2 => exact .cons (Rp.unl x v1) (RpAll.unl r v2)
end
theorem Sl.unl : ∀ {sl : List (Option V)} {ρ : Env} {A : List Addr}, Sl K F H sl ρ A → AvdE a ρ → Sl K F' (upd H a (.dK kvs)) sl ρ A
  | _, _, _, .nil, _ => .nil
  | _, _, _, .skip r, v => .skip (Sl.unl r fun t ht => v t (List.mem_cons_of_mem _ ht))
  | _, _, _, .cons x r, v => .cons (x.unl ha hF (v _ List.mem_cons_self)) (Sl.unl r fun t ht => v t (List.mem_cons_of_mem _ ht))
end
end
section
variable {K : PySem.W.Frag} {c : C0}
end
section
variable {X : Cx} {E : Str → Hp → Prop} {io : List Nat} {pos : Pos}
end
end L3
namespace L3
open PySem PySem.Spec PyProof.Rows L2
section
variable {X : Cx} {E : Str → Hp → Prop} {x : Str} {p pos : Pos} {rr : List V → Hp → VK → Prop} {op : List T → R RV} {e : Expr} {es : List Expr} {t : TA}
end
end L3
namespace L2
open PySem PySem.Spec PyProof.Rows
end L2
namespace L3
open PySem PySem.Spec PyProof.Rows L2
def errAt (a : Addr) (b : Bool) : T → Option PyData
  | .no (.ref x) => if x = a then some (.bool b) else none
  | _ => none
@[simp] theorem errAt_at {a : Addr} {b : Bool} : errAt a b (.no (.ref a)) = some (.bool b) := by
  show (if a = a then _ else _) = _
  rw [if_pos rfl]
section
variable {X : Cx} {E : Str → Hp → Prop} {e : Expr} {te : TE} {ma : MP} {p p2 pos : Pos} {y : Str} {C D a : Addr} {n : String} {Cs : List Addr} {oe : Obj} {pn : List (Addr × Obj)} {b : Bool}
end
section
variable {X : Cx} {x n z : Str} {C D : Addr} {i j : Nat} {b₀ : Stmt} {body suite : List Stmt} {np pos pos' : Pos} {mb : MS} {t : T} {mh : Addr → MS} {E : Str → Hp → Prop}
end
end L3
namespace L3
open PySem PySem.Spec PyProof.Rows L2
section
variable {X : Cx} {E : Str → Hp → Prop} {a b : Expr} {ta tb : TE} {ma mb : MEx} {g g2 : Bool} {p p2 pos pos2 : Pos}
end
end L3
namespace L3
open PySem PySem.Spec PyProof.Rows L2
section
variable {X : Cx} {E : Str → Hp → Prop} {tg a b : Expr} {ta tb : TE} {ma mb : MEx} {g g2 : Bool} {p p2 pos pos2 : Pos}
end
end L3
namespace L3
open PySem PySem.Spec PyProof.Rows L2 RT
end L3
namespace Sr
open PySem PySem.Spec PyProof.Rows L2 L3
@[irreducible] noncomputable def m_divisor : List T → R (T × List T) := mFn [] 0 (
    mSeq (mWhile (mTest (mLift (pBin opNe (pVar 1) (pC (.int 0))))) (mPar 0 1 (mCons (mVar 1) (mCons (mLift (pBin opMod (pVar 0) (pVar 1))) (mNil))))) <|
    mRet (mLift (pCallB opAbs (pCons (pVar 0) (pNil)))))
@[irreducible] noncomputable def m__law_draw : List T → R (T × List T) := mFn [0] 3 (
    mSeq (mAsg (mLift (pBin opMod (pBin opIdx (pVar 0) (pC (.int 2))) (pCallB opLen (pCons (pBin opIdx (pVar 0) (pC (.int 0))) (pNil))))) (mgName 2)) <|
    mSeq (mAsg (mLift (pBin opAdd (pBin opIdx (pVar 0) (pC (.int 2))) (pC (.int 1)))) (mgItem 0 (lHere) (pC (.int 2)))) <|
    mSeq (mIfS (mTest (mLift (pBin opEq (pBin opIdx (pVar 0) (pC (.int 1))) (pC (.int 0))))) (mSeq (mAsg (mLift (pBin opMod (pBin opIdx (pBin opIdx (pVar 0) (pC (.int 0))) (pVar 2)) (pVar 1))) (mgName 4)) <|
    mSeq (mAsg (mLift (pBin opFdiv (pBin opIdx (pBin opIdx (pVar 0) (pC (.int 0))) (pVar 2)) (pVar 1))) (mgItem 0 (lIx (lHere) (pC (.int 0))) (pVar 2))) <|
    mRet (mVar 4)) (mNext)) <|
    mSeq (mAsg (mLift (pBin opMod (pBin opAdd (pBin opMulI (pBin opMod (pBin opIdx (pBin opIdx (pVar 0) (pC (.int 0))) (pVar 2)) (pC (.int 1000000021))) (pC (.int 6563))) (pBin opMulI (pBin opIdx (pVar 0) (pC (.int 2))) (pC (.int 130363)))) (pC (.int 1000000033)))) (mgName 3)) <|
    mSeq (mAsg (mLift (pBin opMod (pBin opMulI (pVar 3) (pVar 3)) (pC (.int 469762049)))) (mgName 3)) <|
    mRet (mLift (pBin opMod (pBin opFdiv (pBin opMod (pBin opAdd (pBin opMulI (pVar 3) (pC (.int 29443))) (pBin opIdx (pVar 0) (pC (.int 2)))) (pC (.int 167772161))) (pC (.int 3))) (pVar 1))))
@[irreducible] noncomputable def m__law_divisor : List T → R (T × List T) := mFn [] 0 (
    mSeq (mWhile (mTest (mLift (pBin opNe (pVar 1) (pC (.int 0))))) (mPar 0 1 (mCons (mVar 1) (mCons (mLift (pBin opMod (pVar 0) (pVar 1))) (mNil))))) <|
    mRet (mLift (pCallB opAbs (pCons (pVar 0) (pNil)))))
@[irreducible] noncomputable def m_fraction : List T → R (T × List T) := mFn [] 1 (
    mSeq (mIfS (mTest (mLift (pBin opEq (pVar 1) (pC (.int 0))))) (mNever) (mNext)) <|
    mSeq (mAsg (mCallF false false 2 m_divisor [none, none] (mbCons (mVar 0) (mbCons (mVar 1) (mbNil)))) (mgName 2)) <|
    mSeq (mIfS (mTest (mLift (pBin opLt (pVar 1) (pC (.int 0))))) (mAsg (mLift (pBin opSub (pC (.int 0)) (pVar 2))) (mgName 2)) (mNext)) <|
    mRet (mTup (mCons (mLift (pBin opFdiv (pVar 0) (pVar 2))) (mCons (mLift (pBin opFdiv (pVar 1) (pVar 2))) (mNil)))))
@[irreducible] noncomputable def m__law_low : List T → R (T × List T) := mFn [] 1 (
    mSeq (mAsg (mCallF false false 2 m__law_divisor [none, none] (mbCons (mVar 0) (mbCons (mVar 1) (mbNil)))) (mgName 2)) <|
    mSeq (mIfS (mTest (mLift (pBin opLt (pVar 1) (pC (.int 0))))) (mAsg (mLift (pBin opSub (pC (.int 0)) (pVar 2))) (mgName 2)) (mNext)) <|
    mRet (mTup (mCons (mLift (pBin opFdiv (pVar 0) (pVar 2))) (mCons (mLift (pBin opFdiv (pVar 1) (pVar 2))) (mNil)))))
@[irreducible] noncomputable def m__law_far : List T → R (T × List T) := mFn [0] 2 (
    mSeq (mAsg (mLift (pC (.int 0))) (mgName 1)) <|
    mSeq (mFor (miR1 (mCons (mLift (pC (.int 3))) (mNil))) (mgName 2) (mAsg (mBin opAdd (mBin opAdd (mLift (pBin opMulI (pVar 1) (pBin opPow (pC (.int 10)) (pC (.int 12))))) (mBin opMulI (mCallF false false 2 m__law_draw [some 0, none] (mbIo 0 (mbCons (mLift (pBin opPow (pC (.int 10)) (pC (.int 6)))) (mbNil)))) (mLift (pBin opPow (pC (.int 10)) (pC (.int 6)))))) (mCallF false false 2 m__law_draw [some 0, none] (mbIo 0 (mbCons (mLift (pBin opPow (pC (.int 10)) (pC (.int 6)))) (mbNil))))) (mgName 1))) <|
    mRet (mBin opMulI (mVar 1) (mBin opIdx (mLst (mCons (mLift (pC (.int 1))) (mCons (mLift (pUn opNeg (pC (.int 1)))) (mNil)))) (mCallF false false 2 m__law_draw [some 0, none] (mbIo 0 (mbCons (mLift (pC (.int 2))) (mbNil)))))))
@[irreducible] noncomputable def m_times : List T → R (T × List T) := mFn [] 0 (
    mRet (mCallF false false 2 m_fraction [none, none] (mbCons (mLift (pBin opMulI (pBin opIdx (pVar 0) (pC (.int 0))) (pBin opIdx (pVar 1) (pC (.int 0))))) (mbCons (mLift (pBin opMulI (pBin opIdx (pVar 0) (pC (.int 1))) (pBin opIdx (pVar 1) (pC (.int 1))))) (mbNil)))))
@[irreducible] noncomputable def m__law_whole : List T → R (T × List T) := mFn [0] 1 (
    mSeq (mAsg (mBin opIdx (mLst (mCons (mCallF false false 1 m__law_far [some 0] (mbIo 0 (mbNil))) (mCons (mBin opSub (mLift (pBin opSub (pBin opPow (pC (.int 10)) (pC (.int 40))) (pC (.int 1)))) (mCallF false false 2 m__law_draw [some 0, none] (mbIo 0 (mbCons (mLift (pC (.int 9))) (mbNil))))) (mCons (mLift (pBin opSub (pC (.int 1)) (pBin opPow (pC (.int 10)) (pC (.int 40))))) (mNil))))) (mCallF false false 2 m__law_draw [some 0, none] (mbIo 0 (mbCons (mLift (pC (.int 3))) (mbNil))))) (mgName 1)) <|
    mRet (mBin opIdx (mLst (mCons (mBin opSub (mCallF false false 2 m__law_draw [some 0, none] (mbIo 0 (mbCons (mLift (pC (.int 5))) (mbNil)))) (mLift (pC (.int 2)))) (mCons (mBin opSub (mCallF false false 2 m__law_draw [some 0, none] (mbIo 0 (mbCons (mLift (pC (.int 61))) (mbNil)))) (mLift (pC (.int 30)))) (mCons (mVar 1) (mNil))))) (mBin opIdx (mLst (mCons (mLift (pC (.int 0))) (mCons (mLift (pC (.int 1))) (mCons (mLift (pC (.int 1))) (mCons (mLift (pC (.int 2))) (mNil)))))) (mCallF false false 2 m__law_draw [some 0, none] (mbIo 0 (mbCons (mLift (pC (.int 4))) (mbNil)))))))
@[irreducible] noncomputable def m__law_fraction : List T → R (T × List T) := mFn [0] 2 (
    mSeq (mAsg (mBin opIdx (mLst (mCons (mBin opAdd (mLift (pC (.int 1))) (mCallB opAbs (mCons (mCallF false false 1 m__law_far [some 0] (mbIo 0 (mbNil))) (mNil)))) (mCons (mBin opSub (mLift (pBin opSub (pBin opPow (pC (.int 10)) (pC (.int 40))) (pC (.int 1)))) (mCallF false false 2 m__law_draw [some 0, none] (mbIo 0 (mbCons (mLift (pC (.int 9))) (mbNil))))) (mNil)))) (mCallB opInt1 (mCons (mBin opEq (mCallF false false 2 m__law_draw [some 0, none] (mbIo 0 (mbCons (mLift (pC (.int 4))) (mbNil)))) (mLift (pC (.int 3)))) (mNil)))) (mgName 1)) <|
    mSeq (mAsg (mBin opIdx (mLst (mCons (mLift (pC (.int 1))) (mCons (mBin opAdd (mLift (pC (.int 1))) (mCallF false false 2 m__law_draw [some 0, none] (mbIo 0 (mbCons (mLift (pC (.int 12))) (mbNil))))) (mCons (mVar 1) (mNil))))) (mBin opIdx (mLst (mCons (mLift (pC (.int 0))) (mCons (mLift (pC (.int 0))) (mCons (mLift (pC (.int 1))) (mCons (mLift (pC (.int 2))) (mNil)))))) (mCallF false false 2 m__law_draw [some 0, none] (mbIo 0 (mbCons (mLift (pC (.int 4))) (mbNil)))))) (mgName 2)) <|
    mRet (mCallF false false 2 m__law_low [none, none] (mbCons (mCallF false false 1 m__law_whole [some 0] (mbIo 0 (mbNil))) (mbCons (mVar 2) (mbNil)))))
@[irreducible] noncomputable def m__law_copy : List T → R (T × List T) := mFn [] 3 (
    mRet (mTup (mCons (mFz (mCallB opListOf (mCons (mLift (pBin opIdx (pVar 0) (pC (.int 0)))) (mNil)))) (mCons (mFz (mCallB opListOf (mCons (mLift (pBin opIdx (pVar 0) (pC (.int 1)))) (mNil)))) (mCons (mFz (mLc (miL (mLift (pBin opIdx (pVar 0) (pC (.int 2))))) (mgTup 3 (mgCons (mgName 1) (mgCons (mgName 2) (mgCons (mgName 3) (mgNil))))) (mtYes) (mTup (mCons (mFz (mCallB opListOf (mCons (mVar 1) (mNil)))) (mCons (mFz (mCallB opListOf (mCons (mVar 2) (mNil)))) (mCons (mVar 3) (mNil))))) [1, 2, 3])) (mNil))))))
@[irreducible] noncomputable def m__law_cell_at : List T → R (T × List T) := mFn [] 0 (
    mSeq (mIfS (mTest (mLift (pBin opLt (pVar 1) (pCallB opLen (pCons (pVar 0) (pNil)))))) (mRet (mLift (pBin opIdx (pVar 0) (pVar 1)))) (mNext)) <|
    mRet (mLift (pC (.int 0))))
@[irreducible] noncomputable def m__law_take_2 : List T → R (T × List T) := mFn [0] 1 (
    mSeq (mAsg (mLift (pBin opKey (pVar 0) (pC (.str "rest")))) (mgName 2)) <|
    mSeq (mIfS (mNot (mTruth (pBin opKey (pVar 0) (pC (.str "mixed"))))) (mSeq (mKeySet 0 (kHere) (pC (.str "rest")) (mLift (pBin opFdiv (pVar 2) (pVar 1)))) <|
    mRet (mLift (pBin opMod (pVar 2) (pVar 1)))) (mNext)) <|
    mSeq (mKeySet 0 (kHere) (pC (.str "count")) (mLift (pBin opAdd (pBin opKey (pVar 0) (pC (.str "count"))) (pC (.int 1))))) <|
    mSeq (mAsg (mLift (pBin opAdd (pBin opMod (pVar 2) (pC (.int 1000000000163))) (pBin opMulI (pC (.int 70001)) (pBin opKey (pVar 0) (pC (.str "count")))))) (mgName 2)) <|
    mSeq (mAsg (mLift (pBin opMod (pBin opMulI (pVar 2) (pBin opAdd (pVar 2) (pC (.int 29)))) (pC (.int 1000000000193)))) (mgName 2)) <|
    mSeq (mAsg (mLift (pBin opMod (pBin opMulI (pVar 2) (pVar 2)) (pC (.int 999999999959)))) (mgName 2)) <|
    mSeq (mKeySet 0 (kHere) (pC (.str "rest")) (mVar 2)) <|
    mRet (mLift (pBin opMod (pBin opFdiv (pVar 2) (pC (.int 9))) (pVar 1))))
@[irreducible] noncomputable def m__law_f : List T → R (T × List T) := mFn [] 2 (
    mSeq (mAsg (mLift (pCallB opAbs (pCons (pVar 0) (pNil)))) (mgName 2)) <|
    mSeq (mAsg (mLift (pCallB opAbs (pCons (pVar 1) (pNil)))) (mgName 3)) <|
    mSeq (mWhile (mTest (mLift (pBin opGt (pVar 3) (pC (.int 0))))) (mPar 2 3 (mCons (mVar 3) (mCons (mLift (pBin opMod (pVar 2) (pVar 3))) (mNil))))) <|
    mSeq (mIfS (mTest (mLift (pBin opLt (pVar 1) (pC (.int 0))))) (mAsg (mLift (pBin opSub (pC (.int 0)) (pVar 2))) (mgName 2)) (mNext)) <|
    mRet (mTup (mCons (mLift (pBin opFdiv (pVar 0) (pVar 2))) (mCons (mLift (pBin opFdiv (pVar 1) (pVar 2))) (mNil)))))
@[irreducible] noncomputable def m__law_pool_2 : List T → R (T × List T) := mFn [] 1 (
    mSeq (mAsg (mCallF false false 2 m__law_cell_at [none, none] (mbCons (mRd 0) (mbCons (mVar 1) (mbNil)))) (mgName 2)) <|
    mRet (mDisp [.inr "rest", .inr "mixed", .inr "count"] (mCons (mVar 2) (mCons (mLift (pBin opLt (pVar 2) (pBin opPow (pC (.int 10)) (pC (.int 12))))) (mCons (mLift (pBin opAdd (pC (.int 3)) (pBin opMulI (pC (.int 5)) (pVar 1)))) (mNil))))))
@[irreducible] noncomputable def m__law_plus_3 : List T → R (T × List T) := mFn [] 0 (
    mRet (mCallF false false 2 m__law_f [none, none] (mbCons (mLift (pBin opAdd (pBin opMulI (pBin opIdx (pVar 0) (pC (.int 0))) (pBin opIdx (pVar 1) (pC (.int 1)))) (pBin opMulI (pBin opIdx (pVar 1) (pC (.int 0))) (pBin opIdx (pVar 0) (pC (.int 1)))))) (mbCons (mLift (pBin opMulI (pBin opIdx (pVar 0) (pC (.int 1))) (pBin opIdx (pVar 1) (pC (.int 1))))) (mbNil)))))
@[irreducible] noncomputable def m__law_fraction_4 : List T → R (T × List T) := mFn [0] 1 (
    mSeq (mAsg (mCallF false false 2 m__law_take_2 [some 0, none] (mbIo 0 (mbCons (mLift (pC (.int 6))) (mbNil)))) (mgName 1)) <|
    mSeq (mIfS (mTest (mLift (pBin opLt (pVar 1) (pC (.int 3))))) (mRet (mTup (mCons (mBin opSub (mCallF false false 2 m__law_take_2 [some 0, none] (mbIo 0 (mbCons (mLift (pC (.int 5))) (mbNil)))) (mLift (pC (.int 2)))) (mCons (mLift (pC (.int 1))) (mNil))))) (mNext)) <|
    mSeq (mIfS (mTest (mLift (pBin opLt (pVar 1) (pC (.int 5))))) (mRet (mCallF false false 2 m__law_f [none, none] (mbCons (mBin opSub (mCallF false false 2 m__law_take_2 [some 0, none] (mbIo 0 (mbCons (mLift (pC (.int 25))) (mbNil)))) (mLift (pC (.int 12)))) (mbCons (mBin opAdd (mLift (pC (.int 1))) (mCallF false false 2 m__law_take_2 [some 0, none] (mbIo 0 (mbCons (mLift (pC (.int 6))) (mbNil))))) (mbNil))))) (mNext)) <|
    mRet (mCallF false false 2 m__law_f [none, none] (mbCons (mBin opSub (mCallF false false 2 m__law_take_2 [some 0, none] (mbIo 0 (mbCons (mLift (pC (.int 2001))) (mbNil)))) (mLift (pC (.int 1000)))) (mbCons (mBin opAdd (mLift (pC (.int 1))) (mCallF false false 2 m__law_take_2 [some 0, none] (mbIo 0 (mbCons (mLift (pC (.int 60))) (mbNil))))) (mbNil)))))
@[irreducible] noncomputable def m__law_many_times : List T → R (T × List T) := mFn [0] 1 (
    mSeq (mAsg (mCallF false false 2 m__law_take_2 [some 0, none] (mbIo 0 (mbCons (mLift (pC (.int 8))) (mbNil)))) (mgName 1)) <|
    mSeq (mIfS (mTest (mLift (pBin opLt (pVar 1) (pC (.int 3))))) (mRet (mTup (mCons (mLift (pC (.int 0))) (mCons (mLift (pC (.int 1))) (mNil))))) (mNext)) <|
    mSeq (mIfS (mTest (mLift (pBin opLt (pVar 1) (pC (.int 7))))) (mRet (mTup (mCons (mBin opIdx (mLst (mCons (mLift (pC (.int 1))) (mCons (mLift (pUn opNeg (pC (.int 1)))) (mCons (mLift (pC (.int 2))) (mCons (mLift (pUn opNeg (pC (.int 2)))) (mNil)))))) (mLift (pBin opSub (pVar 1) (pC (.int 3))))) (mCons (mLift (pC (.int 1))) (mNil))))) (mNext)) <|
    mRet (mCallF false false 2 m__law_f [none, none] (mbCons (mBin opSub (mCallF false false 2 m__law_take_2 [some 0, none] (mbIo 0 (mbCons (mLift (pC (.int 19))) (mbNil)))) (mLift (pC (.int 9)))) (mbCons (mBin opAdd (mLift (pC (.int 1))) (mCallF false false 2 m__law_take_2 [some 0, none] (mbIo 0 (mbCons (mLift (pC (.int 4))) (mbNil))))) (mbNil)))))
@[irreducible] noncomputable def m__law_is_fraction_2 : List T → R (T × List T) := mFn [] 1 (
    mSeq (mIfS (mOr (mNot (mTest (mLift (pIsa "tuple" (pVar 0))))) (mTest (mLift (pBin opNe (pCallB opLen (pCons (pVar 0) (pNil))) (pC (.int 2)))))) (mRet (mLift (pC (.bool false)))) (mNext)) <|
    mSeq (mIfS (mTest (mBin opNe (mFz (mLc (miT (mVar 0)) (mgName 1) (mOr (mNot (mTest (mLift (pIsa "int" (pVar 1))))) (mTest (mLift (pIsa "bool" (pVar 1))))) (mVar 1) [1])) (mFz (mLst (mNil))))) (mRet (mLift (pC (.bool false)))) (mNext)) <|
    mRet (mAndV (mLift (pBin opGt (pBin opIdx (pVar 0) (pC (.int 1))) (pC (.int 0)))) (mBin opEq (mCallF false false 2 m__law_f [none, none] (mbCons (mLift (pBin opIdx (pVar 0) (pC (.int 0)))) (mbCons (mLift (pBin opIdx (pVar 0) (pC (.int 1)))) (mbNil)))) (mVar 0))))
@[irreducible] noncomputable def m__law_bounds_2 : List T → R (T × List T) := mFn [0] 2 (
    mSeq (mAsg (mCallF false false 1 m__law_fraction_4 [some 0] (mbIo 0 (mbNil))) (mgName 1)) <|
    mSeq (mAsg (mCallF false false 1 m__law_fraction_4 [some 0] (mbIo 0 (mbNil))) (mgName 2)) <|
    mSeq (mIfS (mTest (mLift (pBin opLt (pBin opIdx (pVar 2) (pC (.int 0))) (pC (.int 0))))) (mAsg (mTup (mCons (mLift (pBin opSub (pC (.int 0)) (pBin opIdx (pVar 2) (pC (.int 0))))) (mCons (mLift (pBin opIdx (pVar 2) (pC (.int 1)))) (mNil)))) (mgName 2)) (mNext)) <|
    mRet (mTup (mCons (mVar 1) (mCons (mCallF false false 2 m__law_plus_3 [none, none] (mbCons (mVar 1) (mbCons (mVar 2) (mbNil)))) (mNil)))))
@[irreducible] noncomputable def m__law_demand : List T → R (T × List T) := mFn [0] 4 (
    mSeq (mThenFz 3 (mAsg (mLc (miR1 (mCons (mVar 1) (mNil))) (mgName 6) (mtYes) (mCallF false false 1 m__law_many_times [some 0] (mbIo 0 (mbNil))) [6]) (mgName 3))) <|
    mSeq (mThenFz 4 (mAsg (mLc (miR1 (mCons (mVar 2) (mNil))) (mgName 6) (mtYes) (mCallF false false 1 m__law_many_times [some 0] (mbIo 0 (mbNil))) [6]) (mgName 4))) <|
    mSeq (mAsg (mCallF false false 1 m__law_fraction_4 [some 0] (mbIo 0 (mbNil))) (mgName 5)) <|
    mSeq (mIfS (mTest (mBin opEq (mCallF false false 2 m__law_take_2 [some 0, none] (mbIo 0 (mbCons (mLift (pC (.int 2))) (mbNil)))) (mLift (pC (.int 0))))) (mAsg (mCallF false false 2 m__law_plus_3 [none, none] (mbCons (mVar 5) (mbCons (mTup (mCons (mCallF false false 2 m__law_take_2 [some 0, none] (mbIo 0 (mbCons (mLift (pC (.int 9))) (mbNil)))) (mCons (mLift (pC (.int 1))) (mNil)))) (mbNil)))) (mgName 5)) (mNext)) <|
    mRet (mTup (mCons (mVar 3) (mCons (mVar 4) (mCons (mVar 5) (mNil))))))
@[irreducible] noncomputable def m__law_plan_3 : List T → R (T × List T) := mFn [] 6 (
    mSeq (mAsg (mCallF false false 2 m__law_pool_2 [none, none] (mbCons (mRd 0) (mbCons (mVar 1) (mbNil)))) (mgName 4)) <|
    mSeq (mAsg (mBin opAdd (mLift (pC (.int 1))) (mCallF false false 2 m__law_take_2 [some 4, none] (mbIo 4 (mbCons (mVar 2) (mbNil))))) (mgName 5)) <|
    mSeq (mAsg (mBin opIdx (mLst (mCons (mCallF false false 2 m__law_take_2 [some 4, none] (mbIo 4 (mbCons (mLift (pBin opAdd (pVar 3) (pC (.int 1)))) (mbNil)))) (mCons (mLift (pC (.int 1))) (mCons (mLift (pC (.int 2))) (mNil))))) (mCallF false false 2 m__law_take_2 [some 4, none] (mbIo 4 (mbCons (mLift (pC (.int 3))) (mbNil))))) (mgName 6)) <|
    mSeq (mAsg (mBin opIdx (mLst (mCons (mCallF false false 2 m__law_take_2 [some 4, none] (mbIo 4 (mbCons (mLift (pC (.int 4))) (mbNil)))) (mCons (mBin opAdd (mLift (pC (.int 1))) (mCallF false false 2 m__law_take_2 [some 4, none] (mbIo 4 (mbCons (mLift (pC (.int 5))) (mbNil))))) (mNil)))) (mCallF false false 2 m__law_take_2 [some 4, none] (mbIo 4 (mbCons (mLift (pC (.int 2))) (mbNil))))) (mgName 7)) <|
    mSeq (mAsg (mLst (mCons (mLst (mNil)) (mCons (mLst (mNil)) (mCons (mLst (mNil)) (mNil))))) (mgName 8)) <|
    mSeq (mFor (miR1 (mCons (mVar 5) (mNil))) (mgName 9) (mDrop (mMethH 8 (lIx (lHere) (pC (.int 0))) opAppend (mCons (mCallF false false 1 (dropIo m__law_bounds_2) [none] (mbCons (mCallF false false 2 m__law_pool_2 [none, none] (mbCons (mRd 0) (mbCons (mLift (pBin opAdd (pBin opAdd (pVar 1) (pC (.int 1))) (pVar 9))) (mbNil)))) (mbNil))) (mNil))))) <|
    mSeq (mFor (miR1 (mCons (mVar 6) (mNil))) (mgName 9) (mDrop (mMethH 8 (lIx (lHere) (pC (.int 1))) opAppend (mCons (mCallF false false 1 (dropIo m__law_bounds_2) [none] (mbCons (mCallF false false 2 m__law_pool_2 [none, none] (mbCons (mRd 0) (mbCons (mLift (pBin opAdd (pBin opAdd (pVar 1) (pC (.int 5))) (pVar 9))) (mbNil)))) (mbNil))) (mNil))))) <|
    mSeq (mFor (miR1 (mCons (mVar 7) (mNil))) (mgName 9) (mDrop (mMethH 8 (lIx (lHere) (pC (.int 2))) opAppend (mCons (mCallF false false 3 (dropIo m__law_demand) [none, none, none] (mbCons (mCallF false false 2 m__law_pool_2 [none, none] (mbCons (mRd 0) (mbCons (mLift (pBin opAdd (pBin opAdd (pVar 1) (pC (.int 9))) (pVar 9))) (mbNil)))) (mbCons (mVar 5) (mbCons (mVar 6) (mbNil))))) (mNil))))) <|
    mRet (mTup (mCons (mPreFz 8 (mLift (pBin opIdx (pVar 8) (pC (.int 0))))) (mCons (mPreFz 8 (mLift (pBin opIdx (pVar 8) (pC (.int 1))))) (mCons (mPreFz 8 (mLift (pBin opIdx (pVar 8) (pC (.int 2))))) (mNil))))))
@[irreducible] noncomputable def m__law_chain : List T → R (T × List T) := mFn [0] 3 (
    mSeq (mAsg (mLst (mNil)) (mgName 2)) <|
    mSeq (mFor (miR1 (mCons (mCallF false false 2 m__law_take_2 [some 0, none] (mbIo 0 (mbCons (mLift (pC (.int 9))) (mbNil)))) (mNil))) (mgName 3) (mSeq (mAsg (mBin opIdx (mLst (mCons (mBin opSub (mCallF false false 2 m__law_take_2 [some 0, none] (mbIo 0 (mbCons (mLift (pC (.int 9))) (mbNil)))) (mLift (pC (.int 4)))) (mCons (mLift (pC (.int 1))) (mCons (mLift (pUn opNeg (pC (.int 1)))) (mCons (mBin opSub (mCallF false false 2 m__law_take_2 [some 0, none] (mbIo 0 (mbCons (mLift (pBin opPow (pC (.int 10)) (pC (.int 30)))) (mbNil)))) (mLift (pBin opMulI (pC (.int 5)) (pBin opPow (pC (.int 10)) (pC (.int 29)))))) (mNil)))))) (mCallF false false 2 m__law_take_2 [some 0, none] (mbIo 0 (mbCons (mLift (pC (.int 4))) (mbNil))))) (mgName 4)) <|
    mDrop (mMeth 2 (lHere) opAppend (mCons (mTup (mCons (mCallF false false 2 m__law_take_2 [some 0, none] (mbIo 0 (mbCons (mVar 1) (mbNil)))) (mCons (mVar 4) (mNil)))) (mNil))))) <|
    mRet (mVar 2))
end Sr
namespace L3
open PySem PySem.Spec PyProof.Rows L2
end L3
namespace L3
open PySem PySem.Spec PyProof.Rows L2
def takeN : List Nat → Env → Option (List T × Env)
  | [], ρ => some ([], ρ)
  | j :: js, ρ => match ρ[j]? with
    | some (some t) => (takeN js (ρ.set j none)).map fun r => (t :: r.1, r.2)
    | _ => none
def gNs : List Nat → TGs
  | [] => gNil
  | j :: js => gCons (gName j) (gNs js)
def setV : List Nat → List V → L2.St → L2.St
  | j :: js, v :: vs, σ => setV js vs (σ.set j (some v))
  | _, _, σ => σ
def clearN : List Nat → Env → Env
  | [], ρ => ρ
  | j :: js, ρ => clearN js (ρ.set j none)
theorem gNs_run : ∀ {js : List Nat} {ws : List V} {σ : L2.St} {H : Hp} {Q : L2.St → Hp → Prop}, ws.length = js.length → Q (setV js ws σ) H → gNs js ws σ H Q
  | [], [], _, _, _, _, q => ⟨rfl, q⟩
  | j :: js, w :: ws, σ, H, Q, h, q => ⟨w, ws, rfl, gNs_run (by simpa using h) q⟩
  | [], _ :: _, _, _, _, h, _ => by simp at h
  | _ :: _, [], _, _, _, h, _ => by simp at h
theorem setV_len : ∀ {js : List Nat} {ws : List V} {σ : L2.St}, (setV js ws σ).length = σ.length
  | [], _, _ => rfl
  | _ :: _, [], _ => rfl
  | j :: js, w :: ws, σ => by
    show (setV js ws (σ.set j (some w))).length = _
    rw [setV_len, List.length_set]
theorem setV_other : ∀ {js : List Nat} {ws : List V} {σ : L2.St} {i : Nat}, i ∉ js → (setV js ws σ)[i]? = σ[i]?
  | [], _, _, _, _ => rfl
  | _ :: _, [], _, _, _ => rfl
  | j :: js, w :: ws, σ, i, h => by
    show (setV js ws (σ.set j (some w)))[i]? = _
    rw [setV_other fun z => h (List.mem_cons_of_mem _ z), List.getElem?_set_ne fun z => h (by rw [z]; exact List.mem_cons_self)]
theorem setV_at : ∀ {js : List Nat} {ws : List V} {σ : L2.St} {k j : Nat}, js.Nodup → ws.length = js.length → js[k]? = some j → j < σ.length → ∃ w, ws[k]? = some w ∧ (setV js ws σ)[j]? = some (some w)
  | [], _, _, _, _, _, _, h, _ => by simp at h
  | _ :: _, [], _, _, _, _, h, _, _ => by simp at h
  | j0 :: js, w :: ws, σ, 0, j, nd, hl, h, hj => by
    have e : j0 = j := by simpa using h
    subst e
    refine ⟨w, rfl, ?_⟩
    show (setV js ws (σ.set j0 (some w)))[j0]? = _
    rw [setV_other (List.nodup_cons.mp nd).1, List.getElem?_set_self hj]
  | j0 :: js, w :: ws, σ, k + 1, j, nd, hl, h, hj => by
    obtain ⟨w', e1, e2⟩ := setV_at (σ := σ.set j0 (some w)) (List.nodup_cons.mp nd).2 (by simpa using hl) (show js[k]? = some j by simpa using h) (by rw [List.length_set]; exact hj)
    exact ⟨w', by simpa using e1, e2⟩
section
variable {K : PySem.W.Frag} {F : Addr → Prop} {H : Hp}
theorem Sl.clearN {tv : List (Option V)} {td : Env} (hl : tv.length = td.length) : ∀ {js : List Nat} {ws : List V} {σ : L2.St} {ρ : Env} {A : List Addr}, ws.length = js.length → (∀ j ∈ js, j < σ.length) → Sl K F H (tv ++ σ) (td ++ ρ) A → ∃ B, Sl K F H (tv ++ setV js ws σ) (td ++ L3.clearN js ρ) B ∧ ∀ a, B.count a ≤ A.count a
  | [], [], σ, ρ, A, _, _, s => ⟨A, s, fun _ => Nat.le_refl _⟩
  | j :: js, w :: ws, σ, ρ, A, h, hj, s => by
    have hi := hj j List.mem_cons_self
    obtain ⟨B, hb, ar, _⟩ := s.around (i := tv.length + j) (by rw [List.length_append]; omega)
    obtain ⟨C, s', z⟩ := ar.gone (some w)
    rw [app_set rfl, app_set hl.symm] at s'
    obtain ⟨C2, s2, z2⟩ := Sl.clearN hl (js := js) (ws := ws) (by simpa using h) (fun x hx => by rw [List.length_set]; exact hj x (List.mem_cons_of_mem _ hx)) s'
    exact ⟨C2, s2, fun a => by have := z2 a; have := z a; have := hb a; omega⟩
  | [], _ :: _, _, _, _, h, _, _ => by simp at h
  | _ :: _, [], _, _, _, h, _, _ => by simp at h
theorem Sl.lift {tv : List (Option V)} {td : Env} {σ : L2.St} {ρ : Env} {A : List Addr} {j : Nat} {t : T} (hl : tv.length = td.length) (s : Sl K F H (tv ++ σ) (td ++ ρ) A) (e : ρ[j]? = some (some t)) : ∃ v A1 B, σ[j]? = some (some v) ∧ Rp K F H v t A1 ∧ Sl K F H (tv ++ σ) (td ++ ρ.set j none) B ∧ ∀ a, A.count a = A1.count a + B.count a := by
  have hlen := s.len
  have hi : j < ρ.length := (List.getElem?_eq_some_iff.mp e).1
  obtain ⟨B1, hb, ar, get⟩ := s.around (i := tv.length + j) (by rw [hlen, List.length_append]; omega)
  obtain ⟨v, A0, e3, x, hc1⟩ := get t (by rw [app_at hl.symm, e])
  rw [app_at rfl] at e3
  obtain ⟨C, s', z⟩ := ar.gone (some v)
  rw [app_set rfl, set_self e3, app_set hl.symm] at s'
  exact ⟨v, A0, C, e3, x, s', fun a => by rw [hc1 a, z a]⟩
theorem Sl.takeN {tv : List (Option V)} {td : Env} {σ : L2.St} (hl : tv.length = td.length) : ∀ {js : List Nat} {ws : List V} {ρ ρ' : Env} {ts : List T} {A : List Addr}, ws.length = js.length → (∀ (k j : Nat), js[k]? = some j → ∃ w, ws[k]? = some w ∧ σ[j]? = some (some w)) → Sl K F H (tv ++ σ) (td ++ ρ) A → L3.takeN js ρ = some (ts, ρ') →
    ∃ A1 B, RpAll K F H ws ts A1 ∧ Sl K F H (tv ++ σ) (td ++ ρ') B ∧ ∀ a, A.count a = A1.count a + B.count a
  | [], [], ρ, ρ', ts, A, _, _, s, e => by
    cases e
    exact ⟨[], A, .nil, s, fun a => by simp⟩
  | j :: js, w :: ws, ρ, ρ', ts, A, h, hk, s, e => by
    unfold L3.takeN at e
    split at e
    · rename_i t e0
      obtain ⟨r, e1, e2⟩ := Option.map_eq_some_iff.mp e
      cases e2
      obtain ⟨v, A1, B, e3, x, s', z⟩ := s.lift hl e0
      obtain ⟨w', e4, e5⟩ := hk 0 j rfl
      have ew : w = w' := by simpa using e4
      subst ew
      rw [e5] at e3
      cases e3
      obtain ⟨A2, B2, ra, s2, z2⟩ := Sl.takeN hl (js := js) (ws := ws) (by simpa using h) (fun k j' e => hk (k + 1) j' (by simpa using e)) s' e1
      exact ⟨A1 ++ A2, B2, .cons x ra, s2, fun a => by rw [z a, z2 a, List.count_append]; omega⟩
    · cases e
  | [], _ :: _, _, _, _, _, h, _, _, _ => by simp at h
  | _ :: _, [], _, _, _, _, h, _, _, _ => by simp at h
end
def turnOT (i : Nat) (p : List PK) (js : List Nat) (mb : MS) (k : Nat) (ρ : Env) : R Env := match ρ[i]? with
  | some (some t0) => (ofO (T.atK p t0)).bind fun tc => match tc with
    | .ol ts => (ofO ts[k]?).bind fun it => match it with
      | .ot parts => guard (decide (parts.length = js.length) && js.all fun j => decide (j < ρ.length))
          ((ofO (putIo js parts ((clearN js ρ).set i none))).bind fun ρ1 => (mb ρ1).bind fun o => match o with
            | .next ρ2 => (ofO (takeN js ρ2)).bind fun r => (ofO (T.putK? p (.ol (ts.set k (.ot r.1))) t0)).bind fun t1 => .ok (r.2.set i (some t1))
            | _ => .bad)
      | _ => .bad
    | _ => .bad
  | _ => .bad
def turnsOT (i : Nat) (p : List PK) (js : List Nat) (mb : MS) : Nat → Nat → Env → R Out
  | 0, k, ρ => match ρ[i]? with
    | some (some t0) => (ofO (T.atK p t0)).bind fun tc => match tc with
      | .ol ts => guard (decide (ts.length = k)) (.ok (.next ρ))
      | _ => .bad
    | _ => .bad
  | n + 1, k, ρ => (turnOT i p js mb k ρ).bind fun ρ' => turnsOT i p js mb n (k + 1) ρ'
def mForOT (i : Nat) (mp : MLK) (js : List Nat) (mb : MS) : MS := fun ρ => (ofO (mp ρ)).bind fun p => match ρ[i]? with
  | some (some t0) => (ofO (T.atK p t0)).bind fun tc => match tc with
    | .ol ts => turnsOT i p js mb ts.length 0 ρ
    | _ => .bad
  | _ => .bad
theorem nos_rp {K : PySem.W.Frag} {F : Addr → Prop} {H : Hp} : ∀ (ws : List V), RpAll K F H ws (ws.map T.no) []
  | [] => .nil
  | w :: ws => .cons (A := []) (.no w) (nos_rp ws)
theorem nos_eq {K : PySem.W.Frag} {F : Addr → Prop} {H : Hp} : ∀ {ws ws' : List V} {A : List Addr}, RpAll K F H ws' (ws.map T.no) A → ws' = ws
  | [], [], _, _ => rfl
  | w :: ws, w' :: ws', A, r => by
    cases r with
    | cons x r =>
      cases x with
      | no => rw [nos_eq r]
  | [], _ :: _, _, r => by cases r
  | _ :: _, [], _, r => by cases r
theorem clearN_len : ∀ {js : List Nat} {ρ : Env}, (clearN js ρ).length = ρ.length
  | [], _ => rfl
  | j :: js, ρ => by
    show (clearN js (ρ.set j none)).length = _
    rw [clearN_len, List.length_set]
theorem clearN_other : ∀ {js : List Nat} {ρ : Env} {i : Nat}, i ∉ js → (clearN js ρ)[i]? = ρ[i]?
  | [], _, _, _ => rfl
  | j :: js, ρ, i, h => by
    show (clearN js (ρ.set j none))[i]? = _
    rw [clearN_other fun z => h (List.mem_cons_of_mem _ z), List.getElem?_set_ne fun z => h (by rw [z]; exact List.mem_cons_self)]
section
variable {K : PySem.W.Frag} {E : Str → Hp → Prop} {io js : List Nat} {i : Nat} {tb : TS} {mb : MS} {c : C0}
theorem turn_run {H : Hp} {tv : List (Option V)} {td : Env} {σ : L2.St} {ρ : Env} {p : List PK} {k : Nat} {a : Addr} {v0 : V} (hl : tv.length = td.length) (nd : (i :: js).Nodup) (hj : ∀ j ∈ js, io.contains j = false) (sb : SimS K E (i :: (js ++ io)) tb mb)
    (st : StR K c H (tv ++ σ) (td ++ ρ)) (ev : σ[i]? = some (some v0)) (lk : LocK H v0 p (.ref a)) {P : Env → Prop} (q : Then (turnOT i p js mb k ρ) P (fun x => ∀ H', KeepC c H' → E x H')) :
    ∃ vs b ws, H a = some (.lst vs) ∧ vs[k]? = some (.ref b) ∧ H b = some (.tup ws) ∧ ws.length = js.length ∧
      ∀ D : Ends, (∀ ρ' σ' H', P ρ' → SameIo io σ σ' → σ'[i]? = some (some v0) → LocK H' v0 p (.ref a) → StR K c H' (tv ++ σ') (td ++ ρ') → D.nx σ' H') → tb D (setV js ws σ) H := by
  unfold turnOT at q
  split at q
  · rename_i t0 e0
    obtain ⟨tc, e1, q⟩ := then_ofO.mp (then_bind.mp q)
    split at q
    · rename_i ts
      obtain ⟨it, e2, q⟩ := then_ofO.mp (then_bind.mp q)
      split at q
      · rename_i parts
        obtain ⟨g, q⟩ := then_guard.mp q
        rw [Bool.and_eq_true, List.all_eq_true] at g
        have g1 := of_decide_eq_true g.1
        have g2 : ∀ j ∈ js, j < ρ.length := fun j hj' => of_decide_eq_true (g.2 j hj')
        obtain ⟨ρ1, e3, q⟩ := then_ofO.mp (then_bind.mp q)
        obtain ⟨A, w⟩ := st
        have hlen : σ.length = ρ.length := by
          have := w.slots.len
          rw [List.length_append, List.length_append] at this
          omega
        obtain ⟨ndi, ndj⟩ := List.nodup_cons.mp nd
        obtain ⟨v0', A0, B0, f1, x0, s0, z0⟩ := w.slots.lift hl e0
        rw [ev] at f1
        cases f1
        obtain ⟨v, Al, Bl, l, xl, z1, pt⟩ := x0.locK e1
        have := lk.uniq l
        subst this
        obtain ⟨tn, C0', q1, q2, q3⟩ := pt (.same (Same.refl H)) (fun _ _ => rfl) (t' := .no (.ref a)) (A2 := []) (.no _)
        cases xl with
        | @ol _ vs _ A1 ha ra =>
          obtain ⟨vk, Ak, Bk, f2, xk, z2, pk⟩ := ra.around e2
          cases xk with
          | @ot b ws _ _ hb rp =>
            have hw : ws.length = js.length := by rw [rp.len, g1]
            refine ⟨vs, b, ws, ha, f2, hb, hw, fun D hD => ?_⟩
            -- the hole
            obtain ⟨Ch, sh, zh⟩ := pk.put (.same (Same.refl H)) (fun _ _ => rfl) (Rp.ot hb (nos_rp ws))
            rw [set_self f2] at sh
            -- the names
            obtain ⟨C1, s1, z3⟩ := Sl.clearN hl (js := js) (ws := ws) hw (fun j hj' => by rw [hlen]; exact g2 j hj') s0
            have e4 : clearN js (ρ.set i none) = (clearN js ρ).set i none := by
              refine List.ext_getElem? fun m => ?_
              by_cases hm : i = m
              · subst hm
                rw [clearN_other ndi]
                by_cases hi : i < ρ.length
                · rw [List.getElem?_set_self hi, List.getElem?_set_self (by rw [clearN_len]; exact hi)]
                · rw [List.getElem?_eq_none (by rw [List.length_set]; omega), List.getElem?_eq_none (by rw [List.length_set, clearN_len]; omega)]
              · rw [List.getElem?_set_ne hm]
                have key : ∀ (js : List Nat) (ρ : Env), (clearN js (ρ.set i none))[m]? = (clearN js ρ)[m]? := by
                  intro js
                  induction js with
                  | nil => intro ρ; exact List.getElem?_set_ne hm
                  | cons j js ih =>
                    intro ρ
                    show (clearN js ((ρ.set i none).set j none))[m]? = (clearN js (ρ.set j none))[m]?
                    by_cases hij : i = j
                    · subst hij
                      rw [List.set_set]
                    · rw [List.set_comm _ _ hij, ih]
                exact key js ρ
            rw [e4] at s1
            have at2 : ∀ k' j, js[k']? = some j → ∃ w', ws[k']? = some w' ∧ (setV js ws σ)[j]? = some (some w') := fun k' j e => setV_at ndj hw e (by rw [hlen]; exact g2 j (List.mem_of_getElem? e))
            obtain ⟨C2, s2, z4⟩ := Sl.putIo hl rp (fun k' j e => at2 k' j e) hw s1 e3
            -- the state in which the suite runs
            have cnt : ∀ y, (a :: Ch ++ (C0' ++ C2)).count y ≤ A.count y := fun y => by
              have a1 := z0 y
              have a2 := z1 y
              have a3 := q3 y
              have a4 := z2 y
              have a5 := zh y
              have a6 := z3 y
              have a7 := z4 y
              rw [List.count_nil] at a3 a5
              rw [List.count_cons] at a2
              rw [List.cons_append, List.count_cons, List.count_append, List.count_append]
              omega
            have sub := fun y => Fok.sub (c := c) cnt y
            have stn : StR K c H ((some (.ref a) :: some v0 :: tv) ++ setV js ws σ) ((some (.ol (ts.set k (.ot (ws.map T.no)))) :: some tn :: td) ++ ρ1) := by
              refine ⟨a :: Ch ++ (C0' ++ C2), fun y => Nat.le_trans (cnt y) (w.uniq y), ?_, fun y hy => w.own y (List.count_pos_iff.mp (Nat.lt_of_lt_of_le (List.count_pos_iff.mpr hy) (cnt y))), w.keep⟩
              exact (Sl.cons (Rp.ol ha sh) (Sl.cons q2 s2)).mono (.sub fun y _ => sub y) fun _ _ => rfl
            refine sb c H _ _ (setV js ws σ) ρ1 (by simp [hl]) stn D ((then_bind.mp q).imp fun o qo => ?_)
            cases o with
            | next ρ2 =>
              intro σ' H' s' st'
              obtain ⟨r, e5, qo⟩ := then_ofO.mp (then_bind.mp qo)
              obtain ⟨t1, e6, qo⟩ := then_ofO.mp (then_bind.mp qo)
              have qo : P (r.2.set i (some t1)) := qo
              obtain ⟨A', w'⟩ := st'
              obtain ⟨B1, B2, eA, y1, s3⟩ := w'.top
              cases s3 with
              | cons y2 s3 =>
              rename_i B3 B4
              obtain ⟨r1, r2⟩ := r
              have ev' : σ'[i]? = some (some v0) := by rw [s'.same i List.mem_cons_self, setV_other ndi, ev]
              have at3 : ∀ k' j, js[k']? = some j → ∃ w', ws[k']? = some w' ∧ σ'[j]? = some (some w') := fun k' j e => by
                obtain ⟨w1, e7, e8⟩ := at2 k' j e
                exact ⟨w1, e7, by rw [s'.same j (List.mem_cons_of_mem _ (List.mem_append_left _ (List.mem_of_getElem? e))), e8]⟩
              obtain ⟨P1, B5, rp', s4, z5⟩ := Sl.takeN hl hw at3 s3 e5
              -- the list once more
              cases y1 with
              | @ol _ vs' _ A2 ha' ra' =>
                have hk : k < ts.length := (List.getElem?_eq_some_iff.mp e2).1
                obtain ⟨vk', Ak', Bk', f3, xk', z6, pk'⟩ := ra'.around (k := k) (List.getElem?_set_self hk)
                cases xk' with
                | @ot b' ws' _ _ hb' rn =>
                  have := nos_eq rn
                  subst this
                  obtain ⟨Cn, sn, zn⟩ := pk'.put (.same (Same.refl H')) (fun _ _ => rfl) (Rp.ot hb' rp')
                  rw [set_self f3, List.set_set] at sn
                  obtain ⟨v2, A5, B6, l2, x2, z7, pt2⟩ := y2.locK (atK_put q1)
                  cases x2 with
                  | no =>
                    obtain ⟨t1', C3, q4, q5, q6⟩ := pt2 (.same (Same.refl H')) (fun _ _ => rfl) (t' := .ol (ts.set k (.ot r1))) (Rp.ol ha' sn)
                    rw [putK_put q1] at q4
                    rw [e6] at q4
                    cases q4
                    have hi' : i < σ'.length := (List.getElem?_eq_some_iff.mp ev').1
                    obtain ⟨B7, hb7, ar, _⟩ := s4.around (i := tv.length + i) (by rw [List.length_append]; omega)
                    obtain ⟨C4, s5, z8⟩ := ar.put (.same (Same.refl H')) (fun _ _ => rfl) q5
                    rw [app_set rfl, set_self ev', app_set hl.symm] at s5
                    have cnt2 : ∀ y, C4.count y ≤ A'.count y := fun y => by
                      have a1 := z8 y
                      have a2 := hb7 y
                      have a3 := q6 y
                      have a4 := z7 y
                      have a5 := zn y
                      have a6 := z6 y
                      have a7 := z5 y
                      rw [eA, List.count_append, List.count_cons, List.count_append]
                      rw [List.count_cons] at a3
                      omega
                    refine hD _ σ' H' qo ⟨s'.len.trans setV_len, fun j hj' => ?_⟩ ev' l2 ⟨C4, fun y => Nat.le_trans (cnt2 y) (w'.uniq y), s5.mono (.sub fun y _ => Fok.sub cnt2 y) fun _ _ => rfl, fun y hy => w'.own y (List.count_pos_iff.mp (Nat.lt_of_lt_of_le (List.count_pos_iff.mpr hy) (cnt2 y))), w'.keep⟩
                    rw [s'.same j (List.mem_cons_of_mem _ (List.mem_append_right _ hj')), setV_other fun z => by
                      have := hj j z
                      rw [List.contains_eq_mem] at this
                      simp [hj'] at this]
            | ret t ρ2 => exact qo.elim
            | brk ρ2 => exact qo.elim
            | cont ρ2 => exact qo.elim
      · exact q.elim
    · exact q.elim
  · exact q.elim
end
theorem StW.atL {K : PySem.W.Frag} {c : C0} {H : Hp} {tv : List (Option V)} {td : Env} {σ : L2.St} {ρ : Env} {A : List Addr} {i : Nat} {p : List PK} {t0 : T} {ts : List T} {v0 v : V} (hl : tv.length = td.length) (w : StW K c H (tv ++ σ) (td ++ ρ) A) (e0 : ρ[i]? = some (some t0)) (e1 : T.atK p t0 = some (.ol ts)) (ev : σ[i]? = some (some v0)) (lv : LocK H v0 p v) : ∃ a vs, v = .ref a ∧ H a = some (.lst vs) ∧ vs.length = ts.length := by
  obtain ⟨v0', A0, B0, f1, x0, s0, z0⟩ := w.slots.lift hl e0
  rw [ev] at f1
  cases f1
  obtain ⟨v', Al, Bl, l, xl, z1, pt⟩ := x0.locK e1
  have := lv.uniq l
  subst this
  cases xl with
  | @ol a vs _ A1 ha ra => exact ⟨a, vs, rfl, ha, ra.len⟩
section
variable {X : Cx} {E : Str → Hp → Prop} {io : List Nat} {pos : Pos}
theorem qs_forOT {tg e : Expr} {body : List Stmt} {te : TE} {i n : Nat} {mp : MLK} {js : List Nat} {tb : TS} {mb : MS} (hc : X.calm = true) (hp : PassesOwn (model X.prog X.w) X.A X.env X.xe) (ho : QLK X i e te mp) (hg : PG X tg (gTup X.K n (gNs js))) (hb : QSs X E (i :: (js ++ io)) body tb mb)
    (hn : n = js.length := by rfl) (nd : (i :: js).Nodup := by decide) (hj : ∀ j ∈ js, io.contains j = false := by decide) (hs : ∀ x, foldedSetIterable e X.env x = pure x := by intro _; rfl) : QS X E io (.For tg e body [] pos) (tFor (iList X.K te) (gTup X.K n (gNs js)) tb) (mForOT i mp js mb) := by
  refine ⟨ps_for hp hc (pi_list ho.pe) hg hb.ps hs, fun c H tv td σ ρ hl st D q => ?_⟩
  unfold mForOT at q
  obtain ⟨p, e1, q⟩ := then_ofO.mp (then_bind.mp q)
  split at q
  · rename_i t0 e0
    obtain ⟨tc, e2, q⟩ := then_ofO.mp (then_bind.mp q)
    split at q
    · rename_i ts
      show te σ H _
      obtain ⟨A, w⟩ := st
      refine ho.sim c H tv td σ ρ A p t0 _ hl w e1 e0 e2 _ fun v0 v ev lv => ?_
      obtain ⟨a, vs, rfl, ha, hlen⟩ := w.atL hl e0 e2 ev lv
      refine ⟨a, rfl, ⟨vs, .of ha⟩, ?_⟩
      refine ⟨fun k m σ' H' => SameIo io σ σ' ∧ σ'[i]? = some (some v0) ∧ LocK H' v0 p (.ref a) ∧ ∃ ρ', StR X.K c H' (tv ++ σ') (td ++ ρ') ∧ Then (turnsOT i p js mb m k ρ') (OutTo X.K c tv td io σ D) (fun x => ∀ H', KeepC c H' → E x H'), ⟨ts.length, .refl, ev, lv, ρ, ⟨A, w⟩, q⟩, ?_⟩
      rintro k m σ1 H1 ⟨s1, ev1, lk1, ρ1, st1, q1⟩
      cases m with
      | zero =>
        unfold turnsOT at q1
        split at q1
        · rename_i t1 e3
          obtain ⟨tc, e4, q1⟩ := then_ofO.mp (then_bind.mp q1)
          split at q1
          · rename_i ts1
            obtain ⟨g, q1⟩ := then_guard.mp q1
            have g := of_decide_eq_true g
            obtain ⟨A1, w1⟩ := st1
            obtain ⟨a', vs', ea, ha', hl'⟩ := w1.atL hl e3 e4 ev1 lk1
            cases ea
            exact .inl ⟨⟨vs', .of ha', by omega⟩, q1 σ1 H1 s1 ⟨A1, w1⟩⟩
          · exact q1.elim
        · exact q1.elim
      | succ m =>
        obtain ⟨vs1, b, ws, h1, h2, h3, h4, h5⟩ := turn_run hl nd hj hb.sim st1 ev1 lk1 (then_bind.mp q1)
        refine .inr ⟨⟨vs1, _, .of h1, h2⟩, fun σ' H' => SameIo io σ σ' ∧ σ'[i]? = some (some v0) ∧ LocK H' v0 p (.ref a) ∧ ∃ ρ', StR X.K c H' (tv ++ σ') (td ++ ρ') ∧ Then (turnsOT i p js mb m (k + 1) ρ') (OutTo X.K c tv td io σ D) (fun x => ∀ H', KeepC c H' → E x H'), fun σ' H' z => ⟨m, Nat.lt_succ_self m, z⟩, fun x H' y => ?_⟩
        obtain ⟨rfl, y⟩ := y
        have ex := y _ (.of h1)
        rw [h2] at ex
        cases ex
        exact ⟨b, ws, rfl, .of h3, by omega, gNs_run h4 (h5 _ fun ρ' σ' H' z s' ev' lk' st' => ⟨s1.trans s', ev', lk', ρ', st', z⟩)⟩
    · exact q.elim
  · exact q.elim
end
end L3
namespace L3
open PySem PySem.Spec PyProof.Rows L2
section
variable {K : PySem.W.Frag} {E : Str → Hp → Prop} {io : List Nat} {i j : Nat} {tb : TS} {mb : MS}
end
section
variable {X : Cx} {E : Str → Hp → Prop} {io : List Nat} {pos : Pos}
end
section
variable {K : PySem.W.Frag} {E : Str → Hp → Prop} {io : List Nat} {i j : Nat} {tb : TS} {mb : MS} {c : C0}
end
section
variable {X : Cx} {E : Str → Hp → Prop} {io : List Nat} {pos : Pos}
end
end L3
namespace L3
open PySem PySem.Spec PyProof.Rows L2
end L3
namespace L3
open PySem PySem.Spec PyProof.Rows L2
section
variable {X : Cx} {E : Str → Hp → Prop} {e : Expr} {te : TE} {m : MP} {pos : Pos}
def mAugM (i : Nat) (m : MP) : MS := fun ρ => match ρ[i]?, m ρ with
  | some (some (.d (.int x))), some (.d (.int y)) => guard (mulOk x y) (.ok (.next (ρ.set i (some (.d (.int (x * y)))))))
  | _, _ => .bad
end
def augMK (i : Nat) (ρ : En) : Option (Option T) → Option T → R Out
  | some (some (.d (.int x))), some (.d (.int y)) => guard (mulOk x y) (.ok (.next (ρ.set i (some (.d (.int (x * y)))))))
  | _, _ => .bad
@[simp] theorem e_mAugM {i : Nat} {m : MP} {ρ : En} : mAugM i m ρ = augMK i ρ ρ[i]? (m ρ) := (rfl)
@[simp] theorem e_augMK {i : Nat} {x y : Int} {ρ : En} : augMK i ρ (some (some (.d (.int x)))) (some (.d (.int y))) = guard (mulOk x y) (.ok (.next (ρ.set i (some (.d (.int (x * y))))))) := (rfl)
section
variable {X : Cx} {tg : Expr}
end
def miF2 (m : MA) : MI := fun ρ => (m ρ).bind fun r => match r.1 with | [.d (.int i), .d (.int j)] => .ok (rangeItems i j, r.2) | _ => .bad
section
variable {X : Cx} {E : Str → Hp → Prop}
end
def rgF2 : List T × En → R (List T × En) := fun r => match r.1 with | [.d (.int i), .d (.int j)] => .ok (rangeItems i j, r.2) | _ => .bad
@[simp] theorem e_miF2 {m : MA} {ρ : En} : miF2 m ρ = (m ρ).bind rgF2 := (rfl)
@[simp] theorem e_rgF2 {i j : Int} {ρ : En} : rgF2 ([.d (.int i), .d (.int j)], ρ) = .ok (rangeItems i j, ρ) := (rfl)
end L3
namespace L3
open PySem PySem.Spec PyProof.Rows L2
section
variable {X : Cx} {E : Str → Hp → Prop} {e hx : Expr} {te th : TE} {ma mb : MEx} {pos p2 : Pos}
def idxD (ds : List PyData) (d : PyData) : Option Nat := ds.findIdx? fun z => PyData.eqv z d
def idxT (u v : T) : Option T := match u, v with
  | .d (.list ds), .d d => if (SeqAt.shaped d && SeqAt.shaped (.list ds)) = true then (idxD ds d).map fun j => .d (.int (j : Nat)) else none
  | _, _ => none
end
end L3
namespace L3
open PySem PySem.Spec PyProof.Rows L2
open PySem.W (EachIs AllAlike Sortable alike dataLe)
end L3
namespace L3
open PySem PySem.Spec PyProof.Rows L2
section
variable {P0 : Program} {w0 : World} {B : Around} {E : Value → Shared → Prop} {z : Shared}
end
section
variable {X : Cx} {E : Str → Hp → Prop} {a b e : Expr} {ta tb : TE} {te : L2.St → Hp → (Int → Int → Hp → Prop) → Prop} {ma mb : MEx} {g g2 : Bool} {p p2 pos pos2 : Pos}
end
end L3
namespace L3
open PySem PySem.Spec PyProof.Rows L2
def holes (us : List V) (ts : List T) : List T := us.map T.no ++ ts.drop us.length
section
variable {K : PySem.W.Frag} {E : Str → Hp → Prop} {io : List Nat} {c : C0}
end
section
variable {X : Cx} {E : Str → Hp → Prop} {io : List Nat} {pos : Pos}
end
end L3
namespace L3
open PySem PySem.Spec PyProof.Rows L2
def ioX (n : Nat) (js : List Nat) : List Nat := (List.range n).filter fun i => !js.contains i
def lookSK (js : List Nat) (ρ : Env) : Out → R Out
  | .next _ => .ok (.next (clearN js ρ))
  | _ => .bad
def mLookS (n : Nat) (js : List Nat) (ms : MS) : MS := fun ρ => guard (decide (ρ.length = n)) ((ms (fzEnv ρ)).bind (lookSK js ρ))
theorem clearN_get : ∀ {js : List Nat} {ρ : Env} {i : Nat} {t : T}, (clearN js ρ)[i]? = some (some t) → ρ[i]? = some (some t) ∧ i ∉ js
  | [], _, _, _, h => ⟨h, by simp⟩
  | j :: js, ρ, i, t, h => by
    obtain ⟨h1, h2⟩ := clearN_get (js := js) (ρ := ρ.set j none) h
    by_cases e : j = i
    · subst e
      rw [List.getElem?_set] at h1
      split at h1
      · split at h1 <;> cases h1
      · rename_i z; exact (z rfl).elim
    · rw [List.getElem?_set_ne e] at h1
      exact ⟨h1, by simp [h2]; exact fun z => e z.symm⟩
section
variable {K : PySem.W.Frag} {F : Addr → Prop} {H : Hp}
theorem Sl.part : ∀ {sl : List (Option V)} {ρ : Env} {A : List Addr}, Sl K F H sl ρ A → ∀ {sl' : List (Option V)} {ρ' : Env}, sl'.length = sl.length → ρ'.length = ρ.length → (∀ (i : Nat) (t : T), ρ'[i]? = some (some t) → ρ[i]? = some (some t) ∧ sl'[i]? = sl[i]?) → ∃ B, Sl K F H sl' ρ' B ∧ ∀ a, B.count a ≤ A.count a
  | _, _, _, .nil, sl', ρ', h1, h2, _ => by
    have e1 : sl' = [] := List.length_eq_zero_iff.mp h1
    have e2 : ρ' = [] := List.length_eq_zero_iff.mp h2
    subst e1 e2
    exact ⟨[], .nil, fun _ => Nat.le_refl _⟩
  | _, _, _, .skip (o := o) (sl := sl) (ρ := ρ) (A := A) r, sl', ρ', h1, h2, h => by
    obtain ⟨o', sl0, rfl⟩ : ∃ a b, sl' = a :: b := List.exists_cons_of_length_eq_add_one h1
    obtain ⟨t', ρ0, rfl⟩ : ∃ a b, ρ' = a :: b := List.exists_cons_of_length_eq_add_one h2
    obtain ⟨B, hB, cB⟩ := Sl.part r (sl' := sl0) (ρ' := ρ0) (by simpa using h1) (by simpa using h2) fun i t e => by simpa using h (i + 1) t (by simpa using e)
    cases t' with
    | none => exact ⟨B, .skip hB, cB⟩
    | some t' =>
      have := (h 0 t' rfl).1
      simp at this
  | _, _, _, .cons (v := v) (t := t) (sl := sl) (ρ := ρ) (A := A) (B := B) x r, sl', ρ', h1, h2, h => by
    obtain ⟨o', sl0, rfl⟩ : ∃ a b, sl' = a :: b := List.exists_cons_of_length_eq_add_one h1
    obtain ⟨t', ρ0, rfl⟩ : ∃ a b, ρ' = a :: b := List.exists_cons_of_length_eq_add_one h2
    obtain ⟨B2, hB, cB⟩ := Sl.part r (sl' := sl0) (ρ' := ρ0) (by simpa using h1) (by simpa using h2) fun i t e => by simpa using h (i + 1) t (by simpa using e)
    cases t' with
    | none => exact ⟨B2, .skip hB, fun a => by have := cB a; rw [List.count_append]; omega⟩
    | some t' =>
      obtain ⟨z1, z2⟩ := h 0 t' rfl
      have e1 : t' = t := by simpa using z1.symm
      have e2 : o' = some v := by simpa using z2
      subst e1 e2
      exact ⟨A ++ B2, .cons x hB, fun a => by have := cB a; rw [List.count_append, List.count_append]; omega⟩
theorem StR.part {c : C0} {sl sl' : List (Option V)} {ρ ρ' : Env} (st : StR K c H sl ρ) (h1 : sl'.length = sl.length) (h2 : ρ'.length = ρ.length) (h : ∀ (i : Nat) (t : T), ρ'[i]? = some (some t) → ρ[i]? = some (some t) ∧ sl'[i]? = sl[i]?) : StR K c H sl' ρ' := by
  obtain ⟨A, w⟩ := st
  obtain ⟨B, hB, cB⟩ := w.slots.part h1 h2 h
  exact ⟨B, fun a => Nat.le_trans (cB a) (w.uniq a), hB.mono (.sub fun y _ => Fok.sub (c := c) cB y) fun _ _ => rfl, fun a ha => w.own a (List.count_pos_iff.mp (Nat.lt_of_lt_of_le (List.count_pos_iff.mpr ha) (cB a))), w.keep⟩
end
theorem sim_lookS {K : PySem.W.Frag} {E : Str → Hp → Prop} {io js : List Nat} {n : Nat} {ts : TS} {m : MS} (hio : ∀ i ∈ io, i ∈ ioX n js) (h : SimS K E (ioX n js) ts m) : SimS K E io ts (mLookS n js m) := by
  intro c H tv td σ ρ hl st D q
  unfold mLookS at q
  obtain ⟨g, q⟩ := then_guard.mp q
  have g := of_decide_eq_true g
  rw [then_bind] at q
  have hlen : σ.length = ρ.length := by
    obtain ⟨A, w⟩ := st
    have := w.slots.len
    rw [List.length_append, List.length_append] at this
    omega
  refine h (lookC H) H tv (td.map fun _ => none) σ (fzEnv ρ) (by simpa using hl) (st.look0 hl) D (q.mono (fun o q1 => ?_) ?_)
  · cases o with
    | next ρ2 =>
      intro σ' H' s' st'
      have s := st'.keep.same
      have q2 : OutTo K c tv td io σ D (.next (clearN js ρ)) := q1
      refine q2 σ' H' ⟨s'.len, fun i hi => s'.same i (hio i hi)⟩ ((st.grow s).part (by rw [List.length_append, List.length_append, s'.len]) (by rw [List.length_append, List.length_append, clearN_len]) fun i t e => ?_)
      by_cases z : i < td.length
      · rw [List.getElem?_append_left z] at e
        rw [List.getElem?_append_left z, List.getElem?_append_left (by omega), List.getElem?_append_left (by omega)]
        exact ⟨e, rfl⟩
      · rw [List.getElem?_append_right (by omega)] at e
        obtain ⟨e1, e2⟩ := clearN_get e
        rw [List.getElem?_append_right (by omega), List.getElem?_append_right (by omega), List.getElem?_append_right (by omega)]
        refine ⟨e1, ?_⟩
        have lt : i - td.length < ρ.length := (List.getElem?_eq_some_iff.mp e1).1
        rw [hl]
        refine s'.same _ (List.mem_filter.mpr ⟨List.mem_range.mpr (by omega), ?_⟩)
        simpa using e2
    | ret t ρ2 => exact q1.elim
    | brk ρ2 => exact q1.elim
    | cont ρ2 => exact q1.elim
  · exact fun x q1 H' k => q1 H' (st.keep.grow k.same)
theorem qs_lookS {X : Cx} {E : Str → Hp → Prop} {io js : List Nat} {n : Nat} {s : Stmt} {ts : TS} {m : MS} (h : QS X E (ioX n js) s ts m) (hio : ∀ i ∈ io, i ∈ ioX n js := by decide) : QS X E io s ts (mLookS n js m) := ⟨h.ps, sim_lookS hio h.sim⟩
end L3
namespace L3
open PySem PySem.Spec PyProof.Rows L2
section
variable {X : Cx}
end
end L3
namespace L3
open PySem PySem.Spec PyProof.Rows L2
section
variable {X : Cx} {pins : List (Addr × Obj)} {σ : L2.St} {H : Hp} {s : Shared}
end
end L3
namespace L3
open PySem PySem.Spec PyProof.Rows L2
section
variable {X : Cx}
end
end L3
namespace L3
open PySem PySem.Spec PyProof.Rows L2
section
variable {K : PySem.W.Frag} {F : Addr → Prop} {H : Hp}
end
section
variable {X : Cx} {E : Str → Hp → Prop} {pos : Pos}
end
end L3
namespace L3
open PySem PySem.Spec PyProof.Rows L2
section
variable {X : Cx}
end
end L3
namespace L3
open PySem PySem.Spec PyProof.Rows L2
section
variable {X : Cx} {E : Str → Hp → Prop} {e : Expr} {te : TE} {ma : MP} {p p2 pos : Pos} {y : Str} {tab : XTab} {C : Addr} {n : String}
end
end L3
namespace L3
open PySem PySem.Spec PyProof.Rows L2
end L3
namespace L3
open PySem PySem.Spec PyProof.Rows L2
instance {x : Str} {n : Int} : Decidable (MulOk x n) := by unfold MulOk; infer_instance
section
variable {K : PySem.W.Frag} {E : Str → Hp → Prop} {ta tb : TE} {ma mb : MEx}
end
section
variable {X : Cx} {E : Str → Hp → Prop} {o e i : Expr} {to te ti : TE} {mo me mi : MEx} {g1 g2 : Bool} {apos pos : Pos}
end
end L3
namespace L3
open PySem PySem.Spec PyProof.Rows L2
def T.own? : T → Bool
  | .ol _ => true
  | .ot _ => true
  | .od _ _ => true
  | _ => false
theorem own_ref {K : PySem.W.Frag} {F : Addr → Prop} {H : Hp} {v : V} {t : T} {A : List Addr} (h : Rp K F H v t A) (e : t.own? = true) : ∃ a, v = .ref a := by
  cases h with
  | ol _ _ => exact ⟨_, rfl⟩
  | ot _ _ => exact ⟨_, rfl⟩
  | od _ _ _ _ => exact ⟨_, rfl⟩
  | _ => cases e
def mTake (i : Nat) (mp : MLK) : MEx := fun ρ => (ofO (mp ρ)).bind fun p => match ρ[i]? with
  | some (some t0) => (ofO (T.atK p t0)).bind fun tc => guard tc.own? ((ofO (T.putK? p .hl t0)).bind fun t1 => .ok (tc, ρ.set i (some t1)))
  | _ => .bad
section
variable {K : PySem.W.Frag} {E : Str → Hp → Prop} {c : C0} {H : Hp} {tv : List (Option V)} {td : Env} {σ : L2.St} {ρ : Env}
theorem StR.takeH {i : Nat} {p : List PK} {t0 tc t1 : T} {v0 v : V} (hl : tv.length = td.length) (st : StR K c H (tv ++ σ) (td ++ ρ)) (e0 : ρ[i]? = some (some t0)) (e2 : T.atK p t0 = some tc) (g : tc.own? = true) (e3 : T.putK? p .hl t0 = some t1) (ev : σ[i]? = some (some v0)) (lv : LocK H v0 p v) :
    StR K c H (some v :: (tv ++ σ)) (some tc :: (td ++ ρ.set i (some t1))) := by
  obtain ⟨A, w⟩ := st
  obtain ⟨v0', v', Al, B, tn, g1, g2, g3, g4, g5, g6⟩ := w.slots.takeK hl e0 e2
  rw [ev] at g1; cases g1
  have := lv.uniq g2
  subst this
  obtain ⟨a, rfl⟩ := own_ref g3 g
  have hi : i < ρ.length := (List.getElem?_eq_some_iff.mp e0).1
  obtain ⟨C, t2, q1, q2, q3⟩ := g6.putK hl (i := i) (by rw [List.getElem?_set_self hi]) (atK_put g5) (.same (Same.refl H)) (fun _ _ => rfl) (Rp.hl a)
  rw [putK_put g5, e3] at q1
  cases q1
  rw [List.set_set] at q2
  refine ⟨Al ++ C, w.remake (fun b => ?_) (.cons g3 q2)⟩
  have h1 := g4 b
  have h2 := q3 b
  rw [List.count_nil] at h2
  rw [List.count_append]
  omega
theorem sim_take {te : TE} {i : Nat} {mp : MLK} (h : SimLK K i te mp) : SimE K E true te (mTake i mp) := by
  intro c H tv td σ ρ hl st Q q
  unfold mTake at q
  obtain ⟨p, e1, q⟩ := then_ofO.mp (then_bind.mp q)
  split at q
  · rename_i t0 e0
    obtain ⟨tc, e2, q⟩ := then_ofO.mp (then_bind.mp q)
    obtain ⟨g, q⟩ := then_guard.mp q
    obtain ⟨t1, e3, q⟩ := then_ofO.mp (then_bind.mp q)
    have st0 := st
    obtain ⟨A, w⟩ := st
    refine h c H tv td σ ρ A p t0 tc hl w e1 e0 e2 _ fun v0 v ev lv => ?_
    exact q v H (fun _ => Same.refl H) (st0.takeH hl e0 e2 g e3 ev lv)
  · exact q.elim
end
theorem qe_take {X : Cx} {E : Str → Hp → Prop} {i : Nat} {e : Expr} {te : TE} {mp : MLK} (h : QLK X i e te mp) : QE X E true e te (mTake i mp) := ⟨h.pe, sim_take h.sim⟩
section
variable {K : PySem.W.Frag} {E : Str → Hp → Prop} {ta tb : TE} {ma mb : MEx}
end
section
variable {X : Cx} {E : Str → Hp → Prop} {a b : Expr} {ta tb : TE} {ma mb : MEx} {pos : Pos} {g1 g2 : Bool}
end
def lend (j : Nat) (mb : MS) (t : T) (ρ : Env) : R (T × Env) := guard (decide (j < ρ.length)) ((ofO (putIo [j] [t] (clearN [j] ρ))).bind fun ρ1 => (mb ρ1).bind fun o => match o with
  | .next ρ2 => (ofO (takeN [j] ρ2)).bind fun r => match r.1 with
    | [t'] => .ok (t', r.2)
    | _ => .bad
  | _ => .bad)
section
variable {K : PySem.W.Frag} {E : Str → Hp → Prop} {io : List Nat} {j : Nat} {tb : TS} {mb : MS} {c : C0}
theorem lend_run {H : Hp} {tv : List (Option V)} {td : Env} {σ : L2.St} {ρ : Env} {m : Nat} {v : V} {t : T} (hl : tv.length = td.length) (hm : m < tv.length) (sb : SimS K E (j :: io) tb mb)
    (hv : tv[m]? = some (some v)) (ht : td[m]? = some (some t)) (st : StR K c H (tv ++ σ) (td ++ ρ)) {P : T × Env → Prop} (q : Then (lend j mb t ρ) P (fun x => ∀ H', KeepC c H' → E x H')) {D : Ends}
    (hD : ∀ t' ρ' σ' H', P (t', ρ') → SameIo io (σ.set j (some v)) σ' → StR K c H' (tv ++ σ') (td.set m (some t') ++ ρ') → D.nx σ' H') : tb D (σ.set j (some v)) H := by
  unfold lend at q
  obtain ⟨g, q⟩ := then_guard.mp q
  have g := of_decide_eq_true g
  obtain ⟨ρ1, e3, q⟩ := then_ofO.mp (then_bind.mp q)
  obtain ⟨A, w⟩ := st
  have hlen : σ.length = ρ.length := by
    have := w.slots.len
    rw [List.length_append, List.length_append] at this
    omega
  have mtd : m < td.length := by omega
  -- the thing comes out of the temporaries
  obtain ⟨B1, hb1, ar1, get1⟩ := w.slots.around (i := m) (by rw [List.length_append]; omega)
  obtain ⟨v', A0, f1, x0, z0⟩ := get1 t (by rw [List.getElem?_append_left mtd]; exact ht)
  rw [List.getElem?_append_left hm, hv] at f1
  cases f1
  obtain ⟨B0, s0, z1⟩ := ar1.gone (some v)
  rw [List.set_append_left _ _ hm, List.set_append_left _ _ mtd, set_self hv] at s0
  have hl' : tv.length = (td.set m none).length := by rw [List.length_set]; exact hl
  obtain ⟨C1, s1, z3⟩ := Sl.clearN hl' (js := [j]) (ws := [v]) rfl (fun x hx => by
    have : x = j := by simpa using hx
    rw [this, hlen]; exact g) s0
  have ndj : [j].Nodup := by simp
  have at2 : ∀ (k' j' : Nat), [j][k']? = some j' → ∃ w', [v][k']? = some w' ∧ (setV [j] [v] σ)[j']? = some (some w') := fun k' j' e => setV_at ndj rfl e (by
    have : j' = j := by simpa using List.mem_of_getElem? e
    rw [this, hlen]; exact g)
  obtain ⟨C2, s2, z4⟩ := Sl.putIo hl' (RpAll.cons x0 .nil) at2 rfl s1 e3
  have cnt : ∀ y, C2.count y ≤ A.count y := fun y => by
    have a1 := z0 y
    have a2 := z1 y
    have a3 := z3 y
    have a4 := z4 y
    rw [List.append_nil] at a4
    omega
  have stn : StR K c H (tv ++ setV [j] [v] σ) (td.set m none ++ ρ1) := ⟨C2, w.remake cnt s2⟩
  refine sb c H _ _ (setV [j] [v] σ) ρ1 hl' stn D ((then_bind.mp q).imp fun o qo => ?_)
  cases o with
  | next ρ2 =>
    intro σ' H' s' st'
    obtain ⟨r, e5, qo⟩ := then_ofO.mp (then_bind.mp qo)
    obtain ⟨r1, r2⟩ := r
    have at3 : ∀ (k' j' : Nat), [j][k']? = some j' → ∃ w', [v][k']? = some w' ∧ σ'[j']? = some (some w') := fun k' j' e => by
      obtain ⟨w1, e7, e8⟩ := at2 k' j' e
      have ej : j' = j := by simpa using List.mem_of_getElem? e
      exact ⟨w1, e7, by rw [s'.same j' (by rw [ej]; exact List.mem_cons_self), e8]⟩
    obtain ⟨A', w'⟩ := st'
    obtain ⟨P1, B5, rp', s4, z5⟩ := Sl.takeN hl' rfl at3 w'.slots e5
    cases rp' with
    | @cons _ _ t' rest A6 A7 x6 rn =>
      cases rn with
      | nil =>
        have qo : P (t', r2) := qo
        obtain ⟨B7, hb7, ar7, _⟩ := s4.around (i := m) (by rw [List.length_append]; omega)
        obtain ⟨C3, s5, z6⟩ := ar7.put (.same (Same.refl H')) (fun _ _ => rfl) x6
        rw [List.set_append_left _ _ hm, List.set_append_left _ _ (by rw [List.length_set]; exact mtd), set_self hv, List.set_set] at s5
        refine hD t' r2 σ' H' qo ⟨s'.len, fun x hx => s'.same x (List.mem_cons_of_mem _ hx)⟩ ⟨C3, w'.remake (fun y => ?_) s5⟩
        have a1 := z5 y
        have a2 := z6 y
        have a3 := hb7 y
        rw [List.append_nil] at a1
        omega
  | ret t ρ2 => exact qo.elim
  | brk ρ2 => exact qo.elim
  | cont ρ2 => exact qo.elim
end
def lendIx (j : Nat) (mb : MS) : List Nat → List T → Env → R (List T × Env)
  | [], ps, ρ => .ok (ps, ρ)
  | n :: r, ps, ρ => (ofO ps[n]?).bind fun t => (lend j mb t ρ).bind fun x => lendIx j mb r (ps.set n x.1) x.2
section
variable {K : PySem.W.Frag} {E : Str → Hp → Prop} {io : List Nat} {j : Nat} {tb : TS} {mb : MS} {c : C0}
theorem loop_lend {H : Hp} {tv : List (Option V)} {td : Env} {σ : L2.St} {ρ : Env} {al : Addr} {ws pv : List V} {pt : List T} {idx : List Nat} (hl : tv.length = td.length) (hp : pv.length = pt.length) (hw : ws.length = idx.length) (hx : ∀ (k n : Nat), idx[k]? = some n → n < pv.length ∧ ws[k]? = pv[n]?) (hj : io.contains j = false) (sb : SimS K E (j :: io) tb mb)
    (st : StR K c H (some (.ref al) :: (pv.map some ++ (tv ++ σ))) (some (.ol (ws.map .no)) :: (pt.map some ++ (td ++ ρ)))) {D : Ends}
    (q : Then (lendIx j mb idx pt ρ) (fun r => ∀ σ' H', r.1.length = pv.length → SameIo io σ σ' → StR K c H' (pv.map some ++ (tv ++ σ')) (r.1.map some ++ (td ++ r.2)) → D.nx σ' H') (fun x => ∀ H', KeepC c H' → E x H')) :
    (∃ xs, SqL K H al xs) ∧ ∃ W : Nat → Nat → L2.St → Hp → Prop, (∃ m, W 0 m σ H) ∧ ∀ i m σ H, W i m σ H → ((Itl K al).stop i H ∧ D.nx σ H) ∨ ((Itl K al).go i H ∧ ∃ N : L2.St → Hp → Prop, (∀ σ' H', N σ' H' → ∃ m', m' < m ∧ W (i + 1) m' σ' H') ∧ ∀ x H', (Itl K al).yld i H x H' → gName j x σ H' fun σ2 H2 => tb { D with nx := N, ct := N, bk := D.nx } σ2 H2) := by
  have cell : ∀ {H : Hp} {sl : List (Option V)} {ρ : Env}, StR K c H (some (.ref al) :: sl) (some (.ol (ws.map .no)) :: ρ) → H al = some (.lst ws) := by
    intro H sl ρ st
    obtain ⟨A, w⟩ := st
    obtain ⟨A1, B1, _, x1, _⟩ := w.top
    cases x1 with
    | ol ha ra => rw [nos_eq ra] at ha; exact ha
  refine ⟨⟨ws, .of (cell st)⟩, fun k m σ' H' => m + k = idx.length ∧ ∃ ps ρ', ps.length = pv.length ∧ SameIo io σ σ' ∧ StR K c H' (some (.ref al) :: (pv.map some ++ (tv ++ σ'))) (some (.ol (ws.map .no)) :: (ps.map some ++ (td ++ ρ'))) ∧
    Then (lendIx j mb (idx.drop k) ps ρ') (fun r => ∀ σ' H', r.1.length = pv.length → SameIo io σ σ' → StR K c H' (pv.map some ++ (tv ++ σ')) (r.1.map some ++ (td ++ r.2)) → D.nx σ' H') (fun x => ∀ H', KeepC c H' → E x H'), ⟨idx.length, by omega, pt, ρ, hp.symm, .refl, st, q⟩, ?_⟩
  rintro k m σ1 H1 ⟨hm, ps, ρ1, hps, s1, st1, q1⟩
  have hc := cell st1
  cases m with
  | zero =>
    rw [List.drop_eq_nil_of_le (by omega)] at q1
    have q1 : ∀ σ' H', ps.length = pv.length → SameIo io σ σ' → StR K c H' (pv.map some ++ (tv ++ σ')) (ps.map some ++ (td ++ ρ1)) → D.nx σ' H' := q1
    exact .inl ⟨⟨ws, .of hc, by omega⟩, q1 σ1 H1 hps s1 st1.drop⟩
  | succ m =>
    have hk : k < idx.length := by omega
    have ek : idx[k]? = some idx[k] := List.getElem?_eq_getElem hk
    rw [List.drop_eq_getElem_cons hk] at q1
    generalize idx[k] = n at *
    obtain ⟨hn, ew⟩ := hx k n ek
    obtain ⟨t, e1, q1⟩ := then_ofO.mp (then_bind.mp (show Then ((ofO ps[n]?).bind _) _ _ from q1))
    have q1 := then_bind.mp q1
    have ev : pv[n]? = some pv[n] := List.getElem?_eq_getElem hn
    generalize pv[n] = v at *
    rw [ev] at ew
    refine .inr ⟨⟨ws, v, .of hc, ew⟩, fun σ' H' => ∃ ps' ρ', ps'.length = pv.length ∧ SameIo io σ σ' ∧ StR K c H' (some (.ref al) :: (pv.map some ++ (tv ++ σ'))) (some (.ol (ws.map .no)) :: (ps'.map some ++ (td ++ ρ'))) ∧
      Then (lendIx j mb (idx.drop (k + 1)) ps' ρ') (fun r => ∀ σ' H', r.1.length = pv.length → SameIo io σ σ' → StR K c H' (pv.map some ++ (tv ++ σ')) (r.1.map some ++ (td ++ r.2)) → D.nx σ' H') (fun x => ∀ H', KeepC c H' → E x H'), fun σ' H' z => ?_, fun x H' y => ?_⟩
    · obtain ⟨ps', ρ', z1, z2, z3, z4⟩ := z
      exact ⟨m, by omega, by omega, ps', ρ', z1, z2, z3, z4⟩
    · obtain ⟨rfl, y⟩ := y
      have ex := y _ (.of hc)
      rw [ew] at ex
      cases ex
      refine lend_run (m := n + 1) (v := v) (t := t) (tv := some (.ref al) :: (pv.map some ++ tv)) (td := some (.ol (ws.map .no)) :: (ps.map some ++ td)) (ρ := ρ1) (by simp [hl, hps]) (by simp; omega) sb ?_ ?_ (by simpa [List.append_assoc] using st1) q1 fun t' ρ' σ' H' z s' st' => ?_
      · rw [List.getElem?_cons_succ, List.getElem?_append_left (by simpa using hn), List.getElem?_map, ev]
        rfl
      · rw [List.getElem?_cons_succ, List.getElem?_append_left (by simp; omega), List.getElem?_map, e1]
        rfl
      · refine ⟨ps.set n t', ρ', by rw [List.length_set]; exact hps, ⟨s'.len.trans (by rw [List.length_set]; exact s1.len), fun x hx' => ?_⟩, ?_, z⟩
        · have ne : j ≠ x := fun e => by
            subst e
            rw [List.contains_eq_mem] at hj
            simp [hx'] at hj
          rw [s'.same x hx', List.getElem?_set_ne ne, s1.same x hx']
        · rw [List.set_cons_succ, List.set_append_left _ _ (by simp; omega), ← List.map_set] at st'
          simpa [List.append_assoc] using st'
end
end L3
namespace L3
open PySem PySem.Spec PyProof.Rows L2
section
variable {K : PySem.W.Frag} {c : C0} {H : Hp} {tv : List (Option V)} {td : Env} {σ : L2.St} {ρ : Env}
theorem StR.pushL {sl : List (Option V)} {ρl : Env} {p : Addr} {ws : List V} (st : StR K c H sl ρl) (hp : H p = none) : StR K c (upd H p (.lst ws)) (some (.ref p) :: sl) (some (.ol (ws.map .no)) :: ρl) := by
  obtain ⟨A, w⟩ := st
  have sm := same_upd (o := .lst ws) hp
  have np : p ∉ A := w.not_mem_of_none hp
  have m0 : Mono (Fok c A) (Fok c (p :: A)) H H := Fok.fresh hp
  have s2 := (w.slots.mono m0 fun _ _ => rfl).mono (.same sm) fun a ha => upd_ne (fun z => np (by rw [← z]; exact ha))
  refine ⟨[p] ++ A, fun a => ?_, .cons (A := [p]) (.ol (A := []) upd_same (nos_rp ws)) s2, fun a ha => ?_, w.keep.grow sm⟩
  · rw [List.count_append, List.count_singleton]
    have h2 := w.uniq a
    by_cases e : p = a
    · subst e
      rw [List.count_eq_zero.mpr np]
      simp
    · have e' : (p == a) = false := by simpa using e
      simp [e']; omega
  · rcases List.mem_append.mp ha with z | z
    · have e : a = p := by simpa using z
      subst e
      exact .inr (w.keep.there _ hp)
    · exact w.own a z
theorem Sl.ofAll {F : Addr → Prop} {sl : List (Option V)} {ρl : Env} {B : List Addr} (s : Sl K F H sl ρl B) : ∀ {vs : List V} {ts : List T} {A : List Addr}, RpAll K F H vs ts A → Sl K F H (vs.map some ++ sl) (ts.map some ++ ρl) (A ++ B)
  | _, _, _, .nil => s
  | _, _, _, .cons (A := A1) (B := B1) x r => by
    rw [List.append_assoc]
    exact .cons x (Sl.ofAll s r)
theorem RpAll.splitT {F : Addr → Prop} : ∀ {vs us : List V} {ts : List T} {A : List Addr}, RpAll K F H (vs ++ us) ts A → ∃ A1 A2, RpAll K F H vs (ts.take vs.length) A1 ∧ RpAll K F H us (ts.drop vs.length) A2 ∧ ∀ a, A.count a = A1.count a + A2.count a
  | [], us, ts, A, h => ⟨[], A, .nil, h, fun a => by simp⟩
  | v :: vs, us, _, _, .cons (A := A0) (B := B0) x r => by
    obtain ⟨A1, A2, h1, h2, h3⟩ := RpAll.splitT (vs := vs) r
    exact ⟨A0 ++ A1, A2, .cons x h1, h2, fun a => by rw [List.count_append, List.count_append, h3 a]; omega⟩
end
section
variable {K : PySem.W.Frag} {E : Str → Hp → Prop} {io : List Nat} {i j : Nat} {tb : TS} {mb : MS}
end
section
variable {X : Cx} {E : Str → Hp → Prop} {io : List Nat} {pos : Pos}
end
def mForAd (i1 i2 j : Nat) (mb : MS) : MS := fun ρ => match ρ[i1]?, ρ[i2]? with
  | some (some (.ol ts)), some (some t2) => guard (decide (ts.length + 1 ≤ sLine)) ((lendIx j mb (List.range (ts.length + 1)) (ts ++ [t2]) ((ρ.set i1 none).set i2 none)).bind fun r => match r.1.drop ts.length with
    | [t2'] => .ok (.next ((r.2.set i1 (some (.ol (r.1.take ts.length)))).set i2 (some t2')))
    | _ => .bad)
  | _, _ => .bad
section
variable {K : PySem.W.Frag} {E : Str → Hp → Prop} {io : List Nat} {i1 i2 j : Nat} {tb : TS} {mb : MS}
theorem sim_forAd (ne : i1 ≠ i2) (hj : (i1 :: i2 :: io).contains j = false) (sb : SimS K E (j :: i1 :: i2 :: io) tb mb) : SimS K E io (tFor (iList K (tOp (rAdd K) (tVar i1) (tLst (tCons (tVar i2) tNil)))) (gName j) tb) (mForAd i1 i2 j mb) := by
  intro c H tv td σ ρ hl st D q
  unfold mForAd at q
  split at q
  · rename_i ts t2 e1 e2
    obtain ⟨g, q⟩ := then_guard.mp q
    have g := of_decide_eq_true g
    obtain ⟨A, w⟩ := st
    have hlen := w.slots.len
    rw [List.length_append, List.length_append] at hlen
    obtain ⟨v1, A1, B1, ev1, x1, s1, z1⟩ := w.slots.lift hl e1
    obtain ⟨v2, A2, B2, ev2, x2, s2, z2⟩ := s1.lift hl (by rw [List.getElem?_set_ne ne]; exact e2)
    cases x1 with
    | @ol a1 vs _ A3 ha1 ra =>
      refine ⟨.ref a1, ev1, ?_⟩
      refine ⟨v2, ev2, sz1000 (by simp), fun pl hpl => ?_⟩
      have sm1 := same_upd (o := .lst [v2]) hpl
      refine .inr (.inr (.inr (.inr ⟨a1, pl, vs, [v2], rfl, rfl, sm1 _ _ ha1, upd_same, by rw [ra.len, ← sLine_eq]; exact g, fun al hal => ⟨al, rfl, ?_⟩⟩)))
      have cnt : ∀ y, (A3 ++ (A2 ++ ([a1] ++ B2))).count y ≤ A.count y := fun y => by
        have h1 := z1 y
        have h2 := z2 y
        rw [List.count_cons] at h1
        simp only [List.count_append, List.count_cons, List.count_nil]
        omega
      have st1 : StR K c H (vs.map some ++ (some v2 :: ((some (.ref a1) :: tv) ++ σ))) (ts.map some ++ (some t2 :: ((some (.ol (vs.map .no)) :: td) ++ (ρ.set i1 none).set i2 none))) := by
        refine ⟨A3 ++ (A2 ++ ([a1] ++ B2)), w.remake cnt ?_⟩
        exact Sl.ofAll (.cons x2 (.cons (A := [a1]) (.ol (A := []) ha1 (nos_rp vs)) s2)) ra
      have st2 := (st1.grow sm1).pushL (p := al) (ws := vs ++ [v2]) hal
      refine loop_lend (tv := some (.ref a1) :: tv) (td := some (.ol (vs.map .no)) :: td) (pv := vs ++ [v2]) (pt := ts ++ [t2]) (idx := List.range (ts.length + 1)) (ws := vs ++ [v2]) (io := i1 :: i2 :: io) (by simp [hl]) (by simp [ra.len]) (by simp [ra.len]) (fun k n e => ?_) hj sb (by simpa [List.append_assoc] using st2) ((then_bind.mp q).imp fun r qr => ?_)
      · obtain ⟨h1, h2⟩ := List.getElem?_eq_some_iff.mp e
        rw [List.getElem_range] at h2
        subst h2
        rw [List.length_range] at h1
        exact ⟨by simp [ra.len]; omega, rfl⟩
      · split at qr
        · rename_i t2' ed
          intro σ' H' hle s' st'
          obtain ⟨A', w'⟩ := st'
          obtain ⟨C1, C2, eA, rr, s3⟩ := w'.slots.front (vs := vs ++ [v2]) hle.symm
          obtain ⟨C3, C4, r1, r2, z4⟩ := rr.splitT
          rw [ra.len] at r1 r2
          rw [ed] at r2
          cases r2 with
          | @cons _ _ _ _ C5 C6 y2 rn =>
            cases rn
            cases s3 with
            | @cons _ _ _ _ C7 C8 y1 s4 =>
              cases y1 with
              | @ol _ us _ C9 ha' rv =>
                have := nos_eq rv
                subst this
                have s4 : Sl K (Fok c A') H' (tv ++ σ') (td ++ r.2) C8 := s4
                have hv1 : σ'[i1]? = some (some (.ref a1)) := by rw [s'.same i1 List.mem_cons_self, ev1]
                have hv2 : σ'[i2]? = some (some v2) := by rw [s'.same i2 (List.mem_cons_of_mem _ List.mem_cons_self), ev2]
                have l1 : i1 < σ'.length := (List.getElem?_eq_some_iff.mp hv1).1
                have l2 : i2 < σ'.length := (List.getElem?_eq_some_iff.mp hv2).1
                obtain ⟨B7, hb7, ar7, _⟩ := s4.around (i := tv.length + i1) (by rw [List.length_append]; omega)
                obtain ⟨D1, s5, z5⟩ := ar7.put (.same (Same.refl H')) (fun _ _ => rfl) (Rp.ol ha' r1)
                rw [app_set rfl, set_self hv1, app_set hl.symm] at s5
                obtain ⟨B8, hb8, ar8, _⟩ := s5.around (i := tv.length + i2) (by rw [List.length_append]; omega)
                obtain ⟨D2, s6, z6⟩ := ar8.put (.same (Same.refl H')) (fun _ _ => rfl) y2
                rw [app_set rfl, set_self hv2, app_set hl.symm] at s6
                refine qr σ' H' ⟨s'.len, fun x hx => s'.same x (List.mem_cons_of_mem _ (List.mem_cons_of_mem _ hx))⟩ ⟨D2, w'.remake (fun y => ?_) s6⟩
                have a1 := hb7 y
                have a2 := z5 y
                have a3 := hb8 y
                have a4 := z6 y
                have a5 := z4 y
                rw [List.count_cons] at a2
                rw [List.append_nil] at a5
                rw [eA]
                simp only [List.count_append, List.count_cons]
                omega
        · exact qr.elim
  · exact q.elim
end
section
variable {X : Cx} {E : Str → Hp → Prop} {io : List Nat} {pos p1 p2 lpos apos : Pos}
theorem qs_forAd (i1 i2 : Nat) {tg : Expr} {x1 x2 : Str} {body : List Stmt} {j : Nat} {tb : TS} {mb : MS} (hc : X.calm = true) (hp : PassesOwn (model X.prog X.w) X.A X.env X.xe) (h1 : PE X (.Name x1 p1) (tVar i1)) (h2 : PE X (.Name x2 p2) (tVar i2)) (hg : PG X tg (gName j)) (hb : QSs X E (j :: i1 :: i2 :: io) body tb mb)
    (ne : i1 ≠ i2 := by decide) (hj : (i1 :: i2 :: io).contains j = false := by decide) (hs1 : starEach [.Name x2 p2] X.env = (false, eval (.Name x2 p2) X.env) :: starEach [] X.env := by rfl)
    (hs : ∀ x, foldedSetIterable (.BinOp (.Name x1 p1) .Add (.List [.Name x2 p2] lpos) apos) X.env x = pure x := by intro _; rfl) : QS X E io (.For tg (.BinOp (.Name x1 p1) .Add (.List [.Name x2 p2] lpos) apos) body [] pos) (tFor (iList X.K (tOp (rAdd X.K) (tVar i1) (tLst (tCons (tVar i2) tNil)))) (gName j) tb) (mForAd i1 i2 j mb) :=
  ⟨ps_for hp hc (pi_list (pe_op op_addA h1 (pe_lst (pa_cons h2 pa_nil hs1)))) hg hb.ps hs, sim_forAd ne hj hb.sim⟩
end
end L3
namespace L3
open PySem PySem.Spec PyProof.Rows L2
mutual
def T.calmT : T → Bool
  | .d x => calm x
  | .ol ts => T.calmA ts
  | .ot ts => T.calmA ts
  | _ => false
def T.calmA : List T → Bool
  | [] => true
  | t :: r => t.calmT && T.calmA r
end
section
variable {K : PySem.W.Frag} {F F' : Addr → Prop} {H : Hp}
mutual
theorem Rp.calmT : ∀ {v : V} {t : T} {A : List Addr}, Rp K F H v t A → t.calmT = true → Rp K F' H v t A
  | _, _, _, .d x, h => .d (x.calm (by simpa [T.calmT] using h))
  | _, _, _, .ol e r, h => .ol e (RpAll.calmT r (by simpa [T.calmT] using h))
  | _, _, _, .ot e r, h => .ot e (RpAll.calmT r (by simpa [T.calmT] using h))
  | _, _, _, .od _ _ _ _, h => by simp [T.calmT] at h
  | _, _, _, .fd _ _ _ _, h => by simp [T.calmT] at h
  | _, _, _, .fk _, h => by simp [T.calmT] at h
  | _, _, _, .dt _ _ _ _ _ _, h => by simp [T.calmT] at h
  | _, _, _, .no _, h => by simp [T.calmT] at h
  | _, _, _, .hl _, h => by simp [T.calmT] at h
  | _, _, _, .rd _ _, h => by simp [T.calmT] at h
  | _, _, _, .ob _ _ _ _, h => by simp [T.calmT] at h
  | _, _, _, .ex _ _ _, h => by simp [T.calmT] at h
theorem RpAll.calmT : ∀ {vs : List V} {ts : List T} {A : List Addr}, RpAll K F H vs ts A → T.calmA ts = true → RpAll K F' H vs ts A
  | _, _, _, .nil, _ => .nil
  | _, _, _, .cons x r, h => by
    simp only [T.calmA, Bool.and_eq_true] at h
    exact .cons (Rp.calmT x h.1) (RpAll.calmT r h.2)
end
end
def mLookO (m : MEx) : MEx := fun ρ => (m (fzEnv ρ)).bind fun r => guard r.1.calmT (.ok (r.1, ρ))
theorem sim_lookO {K : PySem.W.Frag} {E : Str → Hp → Prop} {g : Bool} {te : TE} {m : MEx} (h : SimE K E g te m) : SimE K E g te (mLookO m) := by
  intro c H tv td σ ρ hl st Q q
  unfold mLookO at q
  rw [then_bind] at q
  refine h (lookC H) H tv (td.map fun _ => none) σ (fzEnv ρ) (by simpa using hl) (st.look0 hl) Q (q.mono (fun r q1 => ?_) ?_)
  · intro v H' sm st'
    obtain ⟨hc, q2⟩ := then_guard.mp q1
    have s := st'.keep.same
    obtain ⟨A, w⟩ := st
    obtain ⟨A', w'⟩ := st'
    obtain ⟨A1, B1, eA, x1, _⟩ := w'.top
    have fresh : ∀ a ∈ A1, H a = none := fun a ha => by
      rcases w'.own a (by rw [eA]; exact List.mem_append_left _ ha) with z | z
      · simp [lookC] at z
      · exact z
    have un : ∀ a, A1.count a ≤ 1 := fun a => by
      have := w'.uniq a
      rw [eA, List.count_append] at this
      omega
    have m0 : Mono (Fok c A) (Fok c (A1 ++ A)) H H := .sub fun a ha ⟨x, y⟩ => ⟨x, fun z => by
      rcases List.mem_append.mp z with z | z
      · exact ha (fresh a z)
      · exact y z⟩
    have s1 := (w.slots.mono m0 fun _ _ => rfl).mono (.same s) fun a ha => by
      obtain ⟨u, e, _⟩ := w.slots.own a ha
      rw [e, s _ _ e]
    refine q2 v H' sm ⟨A1 ++ A, fun a => ?_, .cons (x1.calmT hc) s1, fun a ha => ?_, w.keep.grow s⟩
    · rw [List.count_append]
      by_cases ha : a ∈ A1
      · have : A.count a = 0 := List.count_eq_zero.mpr (w.not_mem_of_none (fresh a ha))
        have := un a
        omega
      · rw [List.count_eq_zero.mpr ha]
        have := w.uniq a
        omega
    · rcases List.mem_append.mp ha with z | z
      · exact .inr (w.keep.there a (fresh a z))
      · exact w.own a z
  · exact fun x q1 H' k => q1 H' (st.keep.grow k.same)
theorem qe_lookO {X : Cx} {E : Str → Hp → Prop} {g : Bool} {e : Expr} {te : TE} {m : MEx} (h : QE X E g e te m) : QE X E g e te (mLookO m) := ⟨h.pe, sim_lookO h.sim⟩
section
variable {X : Cx} {E : Str → Hp → Prop} {e : Expr} {te : TE} {m : MEx} {pos kpos : Pos} {g : Bool}
end
section
variable {X : Cx} {E : Str → Hp → Prop} {es : List Expr} {t : TA} {r : MA} {g : Bool} {x : Str} {p : Pos}
end
def mTupRet (i1 i2 il : Nat) (me me2 : MEx) : MS := fun ρ => match ρ[i1]?, ρ[i2]? with
  | some (some _), some (some _) => guard (decide (il < ρ.length)) ((me ρ).bind fun x => (me2 (x.2.set il none)).bind fun y => match y.2[i1]?, y.2[i2]? with
    | some (some t1), some (some t2) => .ok (.ret (.ol [.ot [t1, t2, x.1], y.1]) ((y.2.set i1 none).set i2 none))
    | _, _ => .bad)
  | _, _ => .bad
section
variable {K : PySem.W.Frag} {E : Str → Hp → Prop} {io : List Nat} {i1 i2 il : Nat} {te te2 : TE} {me me2 : MEx} {g1 g2 : Bool}
theorem sim_tupRet (n12 : i1 ≠ i2) (n1 : i1 ≠ il) (n2 : i2 ≠ il) (hio : inIo io il = false) (h1 : SimE K E g1 te me) (h2 : SimE K E g2 te2 me2) :
    SimS K E io (tSeq (tAsg (tTup (tCons (tVar i1) (tCons (tVar i2) (tCons te tNil)))) (gName il)) (tRet (tLst (tCons (tVar il) (tCons te2 tNil))))) (mTupRet i1 i2 il me me2) := by
  intro c H tv td σ ρ hl st D q
  unfold mTupRet at q
  split at q
  · rename_i u1 u2 e1 e2
    obtain ⟨g, q⟩ := then_guard.mp q
    have g := of_decide_eq_true g
    rw [then_bind] at q
    have hlen := st.len
    rw [List.length_append, List.length_append] at hlen
    have gs : il < σ.length := by omega
    obtain ⟨v1, ev1⟩ : ∃ v, σ[i1]? = some (some v) := by
      obtain ⟨A, w⟩ := st
      obtain ⟨v, _, _, ev, _⟩ := w.slots.lift hl e1
      exact ⟨v, ev⟩
    obtain ⟨v2, ev2⟩ : ∃ v, σ[i2]? = some (some v) := by
      obtain ⟨A, w⟩ := st
      obtain ⟨v, _, _, ev, _⟩ := w.slots.lift hl e2
      exact ⟨v, ev⟩
    refine ⟨v1, ev1, ⟨v2, ev2, h1 c H tv td σ ρ hl st _ (q.imp ?_)⟩⟩
    intro x q1 w3 H1 sm1 st1
    refine ⟨sz1000 (by simp), fun p hp => ?_⟩
    rw [then_bind] at q1
    -- the tuple is there
    have sm2 := same_upd (o := .tup [v1, v2, w3]) hp
    have st2 : StR K c (upd H1 p (.tup [v1, v2, w3])) (some (.ref p) :: some w3 :: (tv ++ σ.set il (some (.ref p)))) (some (.ot [.no v1, .no v2, .no w3]) :: some x.1 :: (td ++ x.2.set il none)) := by
      obtain ⟨A, w⟩ := st1.grow sm2
      obtain ⟨B1, hb, ar, _⟩ := w.slots.around (i := (tv.length + 1) + il) (by simp; omega)
      obtain ⟨C, s, z⟩ := ar.gone (some (.ref p))
      have ee : ((some w3 :: tv) ++ σ).set ((some w3 :: tv).length + il) (some (V.ref p)) = (some w3 :: tv) ++ σ.set il (some (.ref p)) := app_set rfl
      have ef : ((some x.1 :: td) ++ x.2).set ((some w3 :: tv).length + il) none = (some x.1 :: td) ++ x.2.set il none := app_set (by simp [hl])
      have s' : Sl K (Fok c A) (upd H1 p (.tup [v1, v2, w3])) ((some w3 :: tv) ++ σ.set il (some (.ref p))) ((some x.1 :: td) ++ x.2.set il none) C := by
        rw [← ee, ← ef]
        exact s
      exact ⟨C, w.remake (fun y => by have := z y; have := hb y; omega) (.cons (A := []) (.ot upd_same (nos_rp [v1, v2, w3])) s')⟩
    show tLst (tCons (tVar il) (tCons te2 tNil)) (σ.set il (some (.ref p))) _ _
    refine ⟨.ref p, List.getElem?_set_self gs, h2 c _ (some (.ref p) :: some w3 :: tv) (some (.ot [.no v1, .no v2, .no w3]) :: some x.1 :: td) (σ.set il (some (.ref p))) (x.2.set il none) (by simp [hl]) (by simpa using st2) _ (q1.imp ?_)⟩
    intro y q2 u H3 sm3 st3
    refine ⟨sz1000 (by simp), fun q' hq => ?_⟩
    split at q2
    · rename_i t1 t2 f1 f2
      have hs1 : (σ.set il (some (.ref p)))[i1]? = some (some v1) := by rw [List.getElem?_set_ne n1.symm]; exact ev1
      have hs2 : (σ.set il (some (.ref p)))[i2]? = some (some v2) := by rw [List.getElem?_set_ne n2.symm]; exact ev2
      obtain ⟨A, w⟩ := st3
      have w' : StW K c H3 ((some u :: some (.ref p) :: some w3 :: tv) ++ σ.set il (some (.ref p))) ((some y.1 :: some (.ot [.no v1, .no v2, .no w3]) :: some x.1 :: td) ++ y.2) A := by simpa using w
      obtain ⟨a1, A1, B1, g1', x1, s1, z1⟩ := w'.slots.lift (by simp [hl]) f1
      rw [hs1] at g1'
      cases g1'
      obtain ⟨a2, A2, B2, g2', x2, s2, z2⟩ := s1.lift (by simp [hl]) (by rw [List.getElem?_set_ne n12]; exact f2)
      rw [hs2] at g2'
      cases g2'
      cases s2 with
      | @cons _ _ _ _ A3 B3 xu s3 =>
        cases s3 with
        | @cons _ _ _ _ A4 B4 xp s4 =>
          cases s4 with
          | @cons _ _ _ _ A5 B5 xw s5 =>
            cases xp with
            | @ot _ vs _ _ hp3 rn =>
              have := nos_eq (ws := [v1, v2, w3]) rn
              subst this
              have sm := same_upd (o := .lst [.ref p, u]) hq
              have np : q' ∉ A := w.not_mem_of_none hq
              have cnt : ∀ b, ((A1 ++ (A2 ++ (A5 ++ []))) ++ (A3 ++ []) ++ B5).count b ≤ A.count b := fun b => by
                have h1 := z1 b
                have h2 := z2 b
                simp only [List.count_append, List.count_nil] at h2 ⊢
                omega
              have mem : ∀ b ∈ (A1 ++ (A2 ++ (A5 ++ []))) ++ (A3 ++ []) ++ B5, b ∈ A := fun b hb => List.count_pos_iff.mp (Nat.lt_of_lt_of_le (List.count_pos_iff.mpr hb) (cnt b))
              have m0 : Mono (Fok c A) (Fok c (q' :: ((A1 ++ (A2 ++ (A5 ++ []))) ++ (A3 ++ []) ++ B5))) H3 H3 := .sub fun a ha ⟨x, y⟩ => ⟨x, fun z => by
                rcases List.mem_cons.mp z with e | e
                · exact ha (by rw [e]; exact hq)
                · exact y (mem a e)⟩
              have eq1 : ∀ b ∈ A, (upd H3 q' (.lst [.ref p, u])) b = H3 b := fun b hb => upd_ne (fun z => np (by rw [← z]; exact hb))
              have rr : RpAll K (Fok c A) H3 [.ref p, u] [.ot [t1, t2, x.1], y.1] ((A1 ++ (A2 ++ (A5 ++ []))) ++ (A3 ++ [])) := .cons (.ot hp3 (.cons x1 (.cons x2 (.cons xw .nil)))) (.cons xu .nil)
              have r2 := (rr.mono m0 fun _ _ => rfl).mono (.same sm) fun b hb => eq1 b (mem b (List.mem_append_left _ hb))
              have s6 := (s5.mono m0 fun _ _ => rfl).mono (.same sm) fun b hb => eq1 b (mem b (List.mem_append_right _ hb))
              refine q2 (.ref q') (σ.set il (some (.ref p))) _ ⟨List.length_set, fun j hj => ?_⟩ ⟨q' :: ((A1 ++ (A2 ++ (A5 ++ []))) ++ (A3 ++ []) ++ B5), fun b => ?_, .cons (A := q' :: ((A1 ++ (A2 ++ (A5 ++ []))) ++ (A3 ++ []))) (.ol upd_same r2) s6, fun b hb => ?_, w.keep.grow sm⟩
              · refine List.getElem?_set_ne fun e => ?_
                subst e
                simp [inIo, hj] at hio
              · rw [List.count_cons]
                have h1 := cnt b
                have h2 := w.uniq b
                by_cases e : q' = b
                · subst e
                  rw [List.count_eq_zero.mpr np] at h1
                  rw [Nat.le_zero.mp h1]
                  simp
                · rw [if_neg (by simpa using e)]
                  omega
              · rcases List.mem_cons.mp hb with z | z
                · subst z
                  exact .inr (w.keep.there _ hq)
                · exact w.own b (mem b z)
    · exact q2.elim
  · exact q.elim
end
section
variable {X : Cx} {E : Str → Hp → Prop} {io : List Nat} {e e2 : Expr} {te te2 : TE} {me me2 : MEx} {g1 g2 : Bool}
theorem qss_tupRet (i1 i2 il : Nat) {n1 n2 nl : Str} {kt : Nat} {pos rpos lpos tpos p1 p2 p3 p4 : Pos} (hN : X.N.Nodup) (h1 : PE X (.Name n1 p1) (tVar i1)) (h2 : PE X (.Name n2 p2) (tVar i2)) (hr : PE X (.Name nl p4) (tVar il)) (he : QE X E g1 e te me) (he2 : QE X E g2 e2 te2 me2)
    (n12 : i1 ≠ i2 := by decide) (n1l : i1 ≠ il := by decide) (n2l : i2 ≠ il := by decide) (hi : X.N[il]? = some nl := by rfl) (hx : L2.Loc X.env.scope nl := by first | exact Or.inl rfl | exact Or.inr rfl)
    (hs : swapsWith (.Tuple [.Name n1 p1, .Name n2 p2, e] kt tpos) (some (.Name nl p3)) pos.line X.env = pure false := by rfl) (hio : inIo io il = false := by rfl)
    (hf : X.fn nl = true ∨ X.env.scope.names.lookup nl = some .local := by first | exact .inl rfl | exact .inr rfl | assumption)
    (s1 : starEach [.Name n1 p1, .Name n2 p2, e] X.env = (false, eval (.Name n1 p1) X.env) :: starEach [.Name n2 p2, e] X.env := by rfl) (s2 : starEach [.Name n2 p2, e] X.env = (false, eval (.Name n2 p2) X.env) :: starEach [e] X.env := by rfl)
    (s3 : starEach [e] X.env = (false, eval e X.env) :: starEach [] X.env := by rfl) (s4 : starEach [.Name nl p4, e2] X.env = (false, eval (.Name nl p4) X.env) :: starEach [e2] X.env := by rfl) (s5 : starEach [e2] X.env = (false, eval e2 X.env) :: starEach [] X.env := by rfl) :
    QSs X E io [.Assign [.Name nl p3] (.Tuple [.Name n1 p1, .Name n2 p2, e] kt tpos) pos, .Return (some (.List [.Name nl p4, e2] lpos)) rpos] (tSeq (tAsg (tTup (tCons (tVar i1) (tCons (tVar i2) (tCons te tNil)))) (gName il)) (tRet (tLst (tCons (tVar il) (tCons te2 tNil))))) (mTupRet i1 i2 il me me2) :=
  ⟨pss_cons (ps_set hN hi hx (pe_tup (pa_cons h1 (pa_cons h2 (pa_cons he.pe pa_nil s3) s2) s1)) hs hf) (pss_one (ps_ret (pe_lst (pa_cons hr (pa_cons he2.pe pa_nil s5) s4)))), sim_tupRet n12 n1l n2l hio he.sim he2.sim⟩
end
end L3
namespace L3
open PySem PySem.Spec PyProof.Rows L2
def lookAK (js : List Nat) (i : Nat) (ρ : Env) : Out → R Out
  | .next ρ1 => match ρ1[i]? with
    | some (some t) => guard t.calmT (.ok (.next ((clearN js ρ).set i (some t))))
    | _ => .bad
  | _ => .bad
def mLookA (n : Nat) (js : List Nat) (i : Nat) (ms : MS) : MS := fun ρ => guard (decide (ρ.length = n) && decide (i < n)) ((ms (fzEnv ρ)).bind (lookAK js i ρ))
theorem sim_lookA {K : PySem.W.Frag} {E : Str → Hp → Prop} {io js : List Nat} {n i : Nat} {ts : TS} {m : MS} (hio : ∀ i ∈ io, i ∈ ioX n js) (h : SimS K E (ioX n js) ts m) : SimS K E io ts (mLookA n js i m) := by
  intro c H tv td σ ρ hl st D q
  unfold mLookA at q
  obtain ⟨g, q⟩ := then_guard.mp q
  rw [Bool.and_eq_true] at g
  have g1 := of_decide_eq_true g.1
  have g2 := of_decide_eq_true g.2
  rw [then_bind] at q
  have hlen : σ.length = ρ.length := by
    obtain ⟨A, w⟩ := st
    have := w.slots.len
    rw [List.length_append, List.length_append] at this
    omega
  refine h (lookC H) H tv (td.map fun _ => none) σ (fzEnv ρ) (by simpa using hl) (st.look0 hl) D (q.mono (fun o q1 => ?_) ?_)
  · cases o with
    | next ρ2 =>
      intro σ' H' s' st'
      have s := st'.keep.same
      have q1 : Then (match ρ2[i]? with | some (some t) => guard t.calmT (R.ok (Out.next ((clearN js ρ).set i (some t)))) | _ => .bad) (OutTo K c tv td io σ D) (fun x => ∀ H', KeepC c H' → E x H') := q1
      split at q1
      rotate_left
      · exact q1.elim
      rename_i t e0
      obtain ⟨hc, q1⟩ := then_guard.mp q1
      have q2 : OutTo K c tv td io σ D (.next ((clearN js ρ).set i (some t))) := q1
      obtain ⟨A, w⟩ := st
      obtain ⟨A', w'⟩ := st'
      obtain ⟨v, A1, B1, ev, x1, _, hA⟩ := w'.slots.lift (by simpa using hl) e0
      have fresh : ∀ a ∈ A1, H a = none := fun a ha => by
        rcases w'.own a (List.count_pos_iff.mp (by have := hA a; have := List.count_pos_iff.mpr ha; omega)) with z | z
        · simp [lookC] at z
        · exact z
      have un : ∀ a, A1.count a ≤ 1 := fun a => by
        have := w'.uniq a
        have := hA a
        omega
      have m0 : Mono (Fok c A) (Fok c (A1 ++ A)) H H := .sub fun a ha ⟨x, y⟩ => ⟨x, fun z => by
        rcases List.mem_append.mp z with z | z
        · exact ha (fresh a z)
        · exact y z⟩
      have s1 := (w.slots.mono m0 fun _ _ => rfl).mono (.same s) fun a ha => by
        obtain ⟨u, e, _⟩ := w.slots.own a ha
        rw [e, s _ _ e]
      obtain ⟨B, s2, cB⟩ := s1.part (sl' := tv ++ σ') (ρ' := td ++ clearN js ρ) (by rw [List.length_append, List.length_append, s'.len]) (by rw [List.length_append, List.length_append, clearN_len]) fun i t e => by
        by_cases z : i < td.length
        · rw [List.getElem?_append_left z] at e
          rw [List.getElem?_append_left z, List.getElem?_append_left (by omega), List.getElem?_append_left (by omega)]
          exact ⟨e, rfl⟩
        · rw [List.getElem?_append_right (by omega)] at e
          obtain ⟨e1, e2⟩ := clearN_get e
          rw [List.getElem?_append_right (by omega), List.getElem?_append_right (by omega), List.getElem?_append_right (by omega)]
          refine ⟨e1, ?_⟩
          have lt : i - td.length < ρ.length := (List.getElem?_eq_some_iff.mp e1).1
          rw [hl]
          refine s'.same _ (List.mem_filter.mpr ⟨List.mem_range.mpr (by omega), ?_⟩)
          simpa using e2
      have hi : i < σ'.length := (List.getElem?_eq_some_iff.mp ev).1
      obtain ⟨B2, hb2, ar, _⟩ := s2.around (i := tv.length + i) (by rw [List.length_append]; omega)
      obtain ⟨C, s3, z3⟩ := ar.put (.same (Same.refl H')) (fun _ _ => rfl) (x1.calmT hc)
      rw [app_set rfl, set_self ev, app_set hl.symm] at s3
      have cnt : ∀ a, C.count a ≤ (A1 ++ A).count a := fun a => by
        have h1 := z3 a
        have h2 := hb2 a
        have h3 := cB a
        rw [List.count_append]
        omega
      have tot : ∀ a, (A1 ++ A).count a ≤ 1 := fun a => by
        rw [List.count_append]
        by_cases ha : a ∈ A1
        · have : A.count a = 0 := List.count_eq_zero.mpr (w.not_mem_of_none (fresh a ha))
          have := un a
          omega
        · rw [List.count_eq_zero.mpr ha]
          have := w.uniq a
          omega
      refine q2 σ' H' ⟨s'.len, fun i hi => s'.same i (hio i hi)⟩ ⟨C, fun a => Nat.le_trans (cnt a) (tot a), s3.mono (.sub fun y _ => Fok.sub (c := c) cnt y) fun _ _ => rfl, fun a ha => ?_, w.keep.grow s⟩
      have : a ∈ A1 ++ A := List.count_pos_iff.mp (Nat.lt_of_lt_of_le (List.count_pos_iff.mpr ha) (cnt a))
      rcases List.mem_append.mp this with z | z
      · exact .inr (w.keep.there a (fresh a z))
      · exact w.own a z
    | ret t ρ2 => exact q1.elim
    | brk ρ2 => exact q1.elim
    | cont ρ2 => exact q1.elim
  · exact fun x q1 H' k => q1 H' (st.keep.grow k.same)
theorem qs_lookA {X : Cx} {E : Str → Hp → Prop} {io js : List Nat} {n : Nat} (i : Nat) {s : Stmt} {ts : TS} {m : MS} (h : QS X E (ioX n js) s ts m) (hio : ∀ i ∈ io, i ∈ ioX n js := by decide) : QS X E io s ts (mLookA n js i m) := ⟨h.ps, sim_lookA hio h.sim⟩
end L3
namespace Sr
open PySem PySem.Spec PyProof.Rows L2 L3
@[irreducible] noncomputable def m_chain_parts_2 : List T → R (T × List T) := mFn [] 4 (
    mSeq (mAsg (mBin opRep (mFz (mLst (mCons (mLift (pC (.int 0))) (mNil)))) (mLift (pBin opAdd (pCallB opLen (pCons (pBin opIdx (pVar 0) (pC (.int 0))) (pNil))) (pCallB opLen (pCons (pBin opIdx (pVar 0) (pC (.int 1))) (pNil)))))) (mgName 2)) <|
    mSeq (mFor (miL (mVar 1)) (mgTup 2 (mgCons (mgName 4) (mgCons (mgName 5) (mgNil)))) (mAugIx 2 (lHere) (pVar 4) (fun i j => i + j) (pVar 5))) <|
    mSeq (mThenFz 3 (mAsg (mLc (miL (mVar 2)) (mgName 5) (mtYes) (mTup (mCons (mVar 5) (mCons (mLift (pC (.int 1))) (mNil)))) [5]) (mgName 3))) <|
    mRet (mTup (mCons (mSl opSlL (pVar 3) (oNone) (oSome (pCallB opLen (pCons (pBin opIdx (pVar 0) (pC (.int 0))) (pNil))))) (mCons (mSl opSlL (pVar 3) (oSome (pCallB opLen (pCons (pBin opIdx (pVar 0) (pC (.int 0))) (pNil)))) (oNone)) (mNil)))))
@[irreducible] noncomputable def m_with_demands_2 : List T → R (T × List T) := mFn [] 4 (
    mSeq (mAsg (mLc (miL (mFz (mBin opAdd (mFz (mCallB opListOf (mCons (mLift (pBin opIdx (pVar 0) (pC (.int 2)))) (mNil)))) (mFz (mCallB opListOf (mCons (mVar 1) (mNil))))))) (mgTup 3 (mgCons (mgName 3) (mgCons (mgName 4) (mgCons (mgName 5) (mgNil))))) (mtYes) (mTup (mCons (mCallB opListOf (mCons (mVar 3) (mNil))) (mCons (mCallB opListOf (mCons (mVar 4) (mNil))) (mCons (mMove 5) (mNil))))) [3, 4, 5]) (mgName 2)) <|
    mRet (mTup (mCons (mCallB opListOf (mCons (mLift (pBin opIdx (pVar 0) (pC (.int 0)))) (mNil))) (mCons (mCallB opListOf (mCons (mLift (pBin opIdx (pVar 0) (pC (.int 1)))) (mNil))) (mCons (mMove 2) (mNil))))))
@[irreducible] noncomputable def m__law_due_9 : List T → R (T × List T) := mFn [] 7 (
    mSeq (mAsg (mLc (miL (mFz (mBin opAdd (mLift (pBin opIdx (pVar 0) (pC (.int 0)))) (mLift (pBin opIdx (pVar 0) (pC (.int 1))))))) (mgName 9) (mtYes) (mLift (pC (.int 0))) [9]) (mgName 4)) <|
    mSeq (mFor (miL (mVar 1)) (mgTup 2 (mgCons (mgName 7) (mgCons (mgName 8) (mgNil)))) (mAsg (mLift (pBin opAdd (pBin opIdx (pVar 4) (pVar 7)) (pVar 8))) (mgItem 4 (lHere) (pVar 7)))) <|
    mSeq (mAsg (mLift (pCallB opLen (pCons (pBin opIdx (pVar 0) (pC (.int 0))) (pNil)))) (mgName 5)) <|
    mSeq (mAsg (mTup (mCons (mFz (mLc (miL (mFz (mSl opSlL (pVar 4) (oNone) (oSome (pVar 5))))) (mgName 10) (mtYes) (mTup (mCons (mVar 10) (mCons (mLift (pC (.int 1))) (mNil)))) [10])) (mCons (mFz (mLc (miL (mFz (mSl opSlL (pVar 4) (oSome (pVar 5)) (oNone)))) (mgName 10) (mtYes) (mTup (mCons (mVar 10) (mCons (mLift (pC (.int 1))) (mNil)))) [10])) (mCons (mTup (mCons (mLift (pBin opSub (pC (.int 0)) (pBin opIdx (pVar 2) (pC (.int 0))))) (mCons (mLift (pBin opIdx (pVar 2) (pC (.int 1)))) (mNil)))) (mNil))))) (mgName 6)) <|
    mRet (mFz (mLst (mCons (mVar 6) (mCons (mTup (mCons (mFz (mLc (miL (mFz (mSl opSlL (pVar 4) (oNone) (oSome (pVar 5))))) (mgName 10) (mtYes) (mTup (mCons (mLift (pBin opSub (pC (.int 0)) (pVar 10))) (mCons (mLift (pC (.int 1))) (mNil)))) [10])) (mCons (mFz (mLc (miL (mFz (mSl opSlL (pVar 4) (oSome (pVar 5)) (oNone)))) (mgName 10) (mtYes) (mTup (mCons (mLift (pBin opSub (pC (.int 0)) (pVar 10))) (mCons (mLift (pC (.int 1))) (mNil)))) [10])) (mCons (mVar 3) (mNil))))) (mNil))))))
@[irreducible] noncomputable def m_turned_about_2 : List T → R (T × List T) := mFn [] 1 (
    mRet (mLc (miL (mVar 0)) (mgName 1) (mtYes) (mCallF false false 2 m_times [none, none] (mbCons (mLift (pC (.tuple [(.int (-1)), (.int 1)]))) (mbCons (mVar 1) (mbNil)))) [1]))
@[irreducible] noncomputable def m_gap_demands_2 : List T → R (T × List T) := mFn [] 3 (
    mSeq (mAsg (mCallF false false 2 m_chain_parts_2 [none, none] (mbCons (mVar 0) (mbCons (mVar 1) (mbNil)))) (mgTup 2 (mgCons (mgName 5) (mgCons (mgName 6) (mgNil))))) <|
    mTupRet 5 6 4 (mCallF false false 2 m_times [none, none] (mbCons (mLift (pC (.tuple [(.int (-1)), (.int 1)]))) (mbCons (mVar 2) (mbNil)))) (mLookO (mTup (mCons (mCallF false false 1 m_turned_about_2 [none] (mbCons (mVar 5) (mbNil))) (mCons (mCallF false false 1 m_turned_about_2 [none] (mbCons (mVar 6) (mbNil))) (mCons (mMove 3) (mNil)))))))
@[irreducible] noncomputable def m__law_good_10 : List T → R (T × List T) := mFn [] 13 (
    mSeq (mAsg (mFz (mLst (mCons (mCallF false false 1 m__law_copy [none] (mbCons (mVar 0) (mbNil))) (mCons (mFz (mCallB opListOf (mCons (mVar 1) (mNil)))) (mNil))))) (mgName 4)) <|
    mSeq (mAsg (mCallF false false 4 m__law_due_9 [none, none, none, none] (mbCons (mVar 0) (mbCons (mVar 1) (mbCons (mVar 2) (mbCons (mVar 3) (mbNil)))))) (mgName 5)) <|
    mSeq (mAsg (mCallF false false 4 m_gap_demands_2 [none, none, none, none] (mbCons (mLift (pBin opIdx (pVar 4) (pC (.int 0)))) (mbCons (mLift (pBin opIdx (pVar 4) (pC (.int 1)))) (mbCons (mVar 2) (mbCons (mVar 3) (mbNil)))))) (mgName 6)) <|
    mSeq (mIfS (mLookT (mOr (mNot (mTest (mLift (pIsa "list" (pVar 6))))) (mOr (mTest (mLift (pBin opNe (pVar 6) (pVar 5)))) (mTest (mBin opNe (mVar 4) (mFz (mLst (mCons (mVar 0) (mCons (mVar 1) (mNil)))))))))) (mRet (mLift (pC (.bool false)))) (mNext)) <|
    mSeq (mLookS 17 [7, 16] (mFor (miL (mVar 6)) (mgName 7) (mSeq (mIfS (mOr (mNot (mTest (mLift (pIsa "tuple" (pVar 7))))) (mOr (mNot (mTest (mLift (pIsa "list" (pBin opIdx (pVar 7) (pC (.int 0))))))) (mNot (mTest (mLift (pIsa "list" (pBin opIdx (pVar 7) (pC (.int 1))))))))) (mRet (mLift (pC (.bool false)))) (mNext)) <|
    mIfS (mTest (mBin opNe (mFz (mLc (miL (mFz (mBin opAdd (mFz (mBin opAdd (mLift (pBin opIdx (pVar 7) (pC (.int 0)))) (mLift (pBin opIdx (pVar 7) (pC (.int 1)))))) (mFz (mLst (mCons (mLift (pBin opIdx (pVar 7) (pC (.int 2)))) (mNil))))))) (mgName 16) (mNot (mTest (mCallF false false 1 m__law_is_fraction_2 [none] (mbCons (mVar 16) (mbNil))))) (mVar 16) [16])) (mFz (mLst (mNil))))) (mRet (mLift (pC (.bool false)))) (mNext)))) <|
    mSeq (mAsg (mLookO (mCallF false false 2 m_with_demands_2 [none, none] (mbCons (mLift (pBin opIdx (pVar 4) (pC (.int 0)))) (mbCons (mVar 6) (mbNil))))) (mgName 8)) <|
    mSeq (mIfS (mLookT (mOr (mNot (mTest (mLift (pIsa "tuple" (pVar 8))))) (mOr (mLookT (mTest (mBin opNe (mVar 8) (mTup (mCons (mLift (pBin opIdx (pVar 0) (pC (.int 0)))) (mCons (mLift (pBin opIdx (pVar 0) (pC (.int 1)))) (mCons (mFz (mBin opAdd (mLift (pBin opIdx (pVar 0) (pC (.int 2)))) (mVar 5))) (mNil)))))))) (mTest (mBin opNe (mVar 4) (mFz (mLst (mCons (mVar 0) (mCons (mVar 1) (mNil)))))))))) (mRet (mLift (pC (.bool false)))) (mNext)) <|
    mSeq (mAsg (mLst (mCons (mTake 6 (kIx (kIx (kHere) (pC (.int 0))) (pC (.int 0)))) (mCons (mTake 6 (kIx (kIx (kHere) (pC (.int 0))) (pC (.int 1)))) (mCons (mTake 6 (kIx (kIx (kHere) (pC (.int 1))) (pC (.int 0)))) (mCons (mTake 6 (kIx (kIx (kHere) (pC (.int 1))) (pC (.int 1)))) (mNil)))))) (mgName 9)) <|
    mSeq (mThenFz 10 (mLookA 17 [10, 11] 10 (mAsg (mLc (miL (mVar 9)) (mgName 11) (mtYes) (mLift (pCallB opLen (pCons (pVar 11) (pNil)))) [11]) (mgName 10)))) <|
    mSeq (mForAd 9 6 11 (mDrop (mMeth 11 (lHere) opAppend (mCons (mTup (mCons (mLift (pC (.int 7))) (mCons (mLift (pC (.int 1))) (mNil)))) (mNil))))) <|
    mSeq (mIfS (mLookT (mTest (mBin opNe (mFz (mLc (miL (mVar 9)) (mgName 11) (mtYes) (mLift (pCallB opLen (pCons (pVar 11) (pNil)))) [11])) (mFz (mLc (miL (mVar 10)) (mgName 15) (mtYes) (mLift (pBin opAdd (pVar 15) (pC (.int 1)))) [15]))))) (mRet (mLift (pC (.bool false)))) (mNext)) <|
    mSeq (mIfS (mLookT (mTest (mBin opNe (mVar 8) (mTup (mCons (mLift (pBin opIdx (pVar 0) (pC (.int 0)))) (mCons (mLift (pBin opIdx (pVar 0) (pC (.int 1)))) (mCons (mFz (mBin opAdd (mLift (pBin opIdx (pVar 0) (pC (.int 2)))) (mVar 5))) (mNil)))))))) (mRet (mLift (pC (.bool false)))) (mNext)) <|
    mSeq (mDrop (mMeth 8 (lIx (lHere) (pC (.int 0))) opAppend (mCons (mTup (mCons (mLift (pC (.int 0))) (mCons (mLift (pC (.int 1))) (mNil)))) (mNil)))) <|
    mSeq (mDrop (mMeth 8 (lIx (lHere) (pC (.int 1))) opAppend (mCons (mTup (mCons (mLift (pC (.int 0))) (mCons (mLift (pC (.int 1))) (mNil)))) (mNil)))) <|
    mSeq (mForOT 8 (kIx (kHere) (pC (.int 2))) [12, 13, 14] (mSeq (mDrop (mMeth 12 (lHere) opAppend (mCons (mTup (mCons (mLift (pC (.int 9))) (mCons (mLift (pC (.int 1))) (mNil)))) (mNil)))) <|
    mDrop (mMeth 13 (lHere) opAppend (mCons (mTup (mCons (mLift (pC (.int 9))) (mCons (mLift (pC (.int 1))) (mNil)))) (mNil))))) <|
    mRet (mAndV (mBin opEq (mVar 4) (mFz (mLst (mCons (mVar 0) (mCons (mVar 1) (mNil)))))) (mBin opEq (mFz (mCallF false false 4 m_gap_demands_2 [none, none, none, none] (mbCons (mLift (pBin opIdx (pVar 4) (pC (.int 0)))) (mbCons (mLift (pBin opIdx (pVar 4) (pC (.int 1)))) (mbCons (mVar 2) (mbCons (mVar 3) (mbNil))))))) (mVar 5))))
@[irreducible] noncomputable def m_law_56 : List T → R (T × List T) := mFn [] 4 (
    mSeq (mAsg (mCallF false false 4 m__law_plan_3 [none, none, none, none] (mbCons (mRd 0) (mbCons (mLift (pC (.int 0))) (mbCons (mLift (pC (.int 3))) (mbCons (mLift (pC (.int 3))) (mbNil)))))) (mgName 1)) <|
    mSeq (mAsg (mLift (pBin opAdd (pCallB opLen (pCons (pBin opIdx (pVar 1) (pC (.int 0))) (pNil))) (pCallB opLen (pCons (pBin opIdx (pVar 1) (pC (.int 1))) (pNil))))) (mgName 2)) <|
    mSeq (mFor (miR2 (mCons (mLift (pC (.int 19))) (mCons (mLift (pCallB opMax2 (pCons (pC (.int 20)) (pCons (pCallB opMin2 (pCons (pCallB opLen (pCons (pVar 0) (pNil))) (pCons (pC (.int 31)) (pNil)))) (pNil))))) (mNil)))) (mgName 3) (mSeq (mAsg (mCallF false false 2 m__law_pool_2 [none, none] (mbCons (mRd 0) (mbCons (mVar 3) (mbNil)))) (mgName 4)) <|
    mIfS (mNot (mTest (mCallF false false 4 m__law_good_10 [none, none, none, none] (mbCons (mVar 1) (mbCons (mCallF false false 2 m__law_chain [some 4, none] (mbIo 4 (mbCons (mVar 2) (mbNil)))) (mbCons (mCallF false false 1 m__law_fraction_4 [some 4] (mbIo 4 (mbNil))) (mbCons (mCallF false false 1 m__law_fraction_4 [some 4] (mbIo 4 (mbNil))) (mbNil)))))))) (mRet (mLift (pC (.bool false)))) (mNext))) <|
    mRet (mBin opEq (mFz (mCallF false false 2 m_with_demands_2 [none, none] (mbCons (mCallF false false 1 m__law_copy [none] (mbCons (mVar 1) (mbNil))) (mbCons (mFz (mLst (mNil))) (mbNil))))) (mVar 1)))
end Sr
namespace Sr
open PySem PySem.Spec PyProof.Rows L2 L3
def topS (i : Nat) : Stmt := PySem.Challenge.pw_shimright_k34_gap_demands.main.body.getD i (.Pass ⟨0, 0, 0, 0⟩)
abbrev s_divisor : Stmt := topS 4
abbrev N_divisor : List Str := ["one", "other"]
theorem sc_divisor : FnScope N_divisor ["one", "other"] (defScope s_divisor) := ⟨rfl, rfl, rfl, by decide +kernel, rfl, by decide +kernel, by decide +kernel⟩
abbrev s_chain_parts : Stmt := topS 9
abbrev N_chain_parts : List Str := ["plan", "chain", "found", "parts", "k", "many"]
theorem sc_chain_parts : FnScope N_chain_parts ["plan", "chain"] (defScope s_chain_parts) := ⟨rfl, rfl, rfl, by decide +kernel, rfl, by decide +kernel, by decide +kernel⟩
abbrev s_with_demands : Stmt := topS 12
abbrev N_with_demands : List Str := ["plan", "demands", "kept", "a", "b", "c"]
theorem sc_with_demands : FnScope N_with_demands ["plan", "demands"] (defScope s_with_demands) := ⟨rfl, rfl, rfl, by decide +kernel, rfl, by decide +kernel, by decide +kernel⟩
abbrev s__law_cell_at : Stmt := topS 14
abbrev N__law_cell_at : List Str := ["script", "k"]
theorem sc__law_cell_at : FnScope N__law_cell_at ["script", "k"] (defScope s__law_cell_at) := ⟨rfl, rfl, rfl, by decide +kernel, rfl, by decide +kernel, by decide +kernel⟩
abbrev s__law_take : Stmt := topS 16
abbrev N__law_take : List Str := ["pool", "many", "rest"]
theorem sc__law_take : FnScope N__law_take ["pool", "many"] (defScope s__law_take) := ⟨rfl, rfl, rfl, by decide +kernel, rfl, by decide +kernel, by decide +kernel⟩
abbrev s__law_f : Stmt := topS 17
abbrev N__law_f : List Str := ["top", "bottom", "one", "other"]
theorem sc__law_f : FnScope N__law_f ["top", "bottom"] (defScope s__law_f) := ⟨rfl, rfl, rfl, by decide +kernel, rfl, by decide +kernel, by decide +kernel⟩
abbrev s__law_copy : Stmt := topS 27
abbrev N__law_copy : List Str := ["plan", "a", "b", "c"]
theorem sc__law_copy : FnScope N__law_copy ["plan"] (defScope s__law_copy) := ⟨rfl, rfl, rfl, by decide +kernel, rfl, by decide +kernel, by decide +kernel⟩
abbrev s__law_due : Stmt := topS 30
abbrev N__law_due : List Str := ["plan", "chain", "least", "greatest", "parts", "many", "low", "k", "often", "bounds", "part"]
theorem sc__law_due : FnScope N__law_due ["plan", "chain", "least", "greatest"] (defScope s__law_due) := ⟨rfl, rfl, rfl, by decide +kernel, rfl, by decide +kernel, by decide +kernel⟩
abbrev s_fraction : Stmt := topS 5
abbrev N_fraction : List Str := ["top", "bottom", "many"]
theorem sc_fraction : FnScope N_fraction ["top", "bottom"] (defScope s_fraction) := ⟨rfl, rfl, rfl, by decide +kernel, rfl, by decide +kernel, by decide +kernel⟩
abbrev s__law_pool : Stmt := topS 15
abbrev N__law_pool : List Str := ["script", "k", "cell"]
theorem sc__law_pool : FnScope N__law_pool ["script", "k"] (defScope s__law_pool) := ⟨rfl, rfl, rfl, by decide +kernel, rfl, by decide +kernel, by decide +kernel⟩
abbrev s__law_plus : Stmt := topS 18
abbrev N__law_plus : List Str := ["q", "r"]
theorem sc__law_plus : FnScope N__law_plus ["q", "r"] (defScope s__law_plus) := ⟨rfl, rfl, rfl, by decide +kernel, rfl, by decide +kernel, by decide +kernel⟩
abbrev s__law_fraction : Stmt := topS 22
abbrev N__law_fraction : List Str := ["pool", "kind"]
theorem sc__law_fraction : FnScope N__law_fraction ["pool"] (defScope s__law_fraction) := ⟨rfl, rfl, rfl, by decide +kernel, rfl, by decide +kernel, by decide +kernel⟩
abbrev s__law_many_times : Stmt := topS 24
abbrev N__law_many_times : List Str := ["pool", "kind"]
theorem sc__law_many_times : FnScope N__law_many_times ["pool"] (defScope s__law_many_times) := ⟨rfl, rfl, rfl, by decide +kernel, rfl, by decide +kernel, by decide +kernel⟩
abbrev s__law_is_fraction : Stmt := topS 28
abbrev N__law_is_fraction : List Str := ["q", "one"]
theorem sc__law_is_fraction : FnScope N__law_is_fraction ["q"] (defScope s__law_is_fraction) := ⟨rfl, rfl, rfl, by decide +kernel, rfl, by decide +kernel, by decide +kernel⟩
abbrev s__law_chain : Stmt := topS 29
abbrev N__law_chain : List Str := ["pool", "many", "found", "k", "often"]
theorem sc__law_chain : FnScope N__law_chain ["pool", "many"] (defScope s__law_chain) := ⟨rfl, rfl, rfl, by decide +kernel, rfl, by decide +kernel, by decide +kernel⟩
abbrev s_times : Stmt := topS 6
abbrev N_times : List Str := ["q", "r"]
theorem sc_times : FnScope N_times ["q", "r"] (defScope s_times) := ⟨rfl, rfl, rfl, by decide +kernel, rfl, by decide +kernel, by decide +kernel⟩
abbrev s__law_bounds : Stmt := topS 23
abbrev N__law_bounds : List Str := ["pool", "low", "wide"]
theorem sc__law_bounds : FnScope N__law_bounds ["pool"] (defScope s__law_bounds) := ⟨rfl, rfl, rfl, by decide +kernel, rfl, by decide +kernel, by decide +kernel⟩
abbrev s__law_demand : Stmt := topS 25
abbrev N__law_demand : List Str := ["pool", "sizes", "shims", "a", "b", "c", "k"]
theorem sc__law_demand : FnScope N__law_demand ["pool", "sizes", "shims"] (defScope s__law_demand) := ⟨rfl, rfl, rfl, by decide +kernel, rfl, by decide +kernel, by decide +kernel⟩
abbrev s_turned_about : Stmt := topS 10
abbrev N_turned_about : List Str := ["parts", "part"]
theorem sc_turned_about : FnScope N_turned_about ["parts"] (defScope s_turned_about) := ⟨rfl, rfl, rfl, by decide +kernel, rfl, by decide +kernel, by decide +kernel⟩
abbrev s__law_plan : Stmt := topS 26
abbrev N__law_plan : List Str := ["script", "first", "many", "most", "pool", "sizes", "shims", "demands", "plan", "k"]
theorem sc__law_plan : FnScope N__law_plan ["script", "first", "many", "most"] (defScope s__law_plan) := ⟨rfl, rfl, rfl, by decide +kernel, rfl, by decide +kernel, by decide +kernel⟩
abbrev s_gap_demands : Stmt := topS 11
abbrev N_gap_demands : List Str := ["plan", "chain", "least", "greatest", "low", "sizes", "shims"]
theorem sc_gap_demands : FnScope N_gap_demands ["plan", "chain", "least", "greatest"] (defScope s_gap_demands) := ⟨rfl, rfl, rfl, by decide +kernel, rfl, by decide +kernel, by decide +kernel⟩
abbrev s__law_good : Stmt := topS 31
abbrev N__law_good : List Str := ["plan", "chain", "least", "greatest", "handed", "due", "found", "demand", "more", "lists", "sizes", "some", "a", "b", "c", "size", "q"]
theorem sc__law_good : FnScope N__law_good ["plan", "chain", "least", "greatest"] (defScope s__law_good) := ⟨rfl, rfl, rfl, by decide +kernel, rfl, by decide +kernel, by decide +kernel⟩
abbrev s_law : Stmt := topS 32
abbrev N_law : List Str := ["script", "plan", "many", "k", "pool"]
theorem sc_law : FnScope N_law ["script"] (defScope s_law) := ⟨rfl, rfl, rfl, by decide +kernel, rfl, by decide +kernel, by decide +kernel⟩
structure Tx (K : PySem.W.Frag) (mg : Str → Option Value) where
  f_divisor : Addr
  d_divisor : FuncData
  F_divisor : Fun K "divisor" "divisor" s_divisor f_divisor d_divisor
  b_divisor : Binds K d_divisor ["one", "other"] []
  g_divisor : mg "divisor" = some (.ref f_divisor)
  f_chain_parts : Addr
  d_chain_parts : FuncData
  F_chain_parts : Fun K "chain_parts" "chain_parts" s_chain_parts f_chain_parts d_chain_parts
  b_chain_parts : Binds K d_chain_parts ["plan", "chain"] []
  g_chain_parts : mg "chain_parts" = some (.ref f_chain_parts)
  f_with_demands : Addr
  d_with_demands : FuncData
  F_with_demands : Fun K "with_demands" "with_demands" s_with_demands f_with_demands d_with_demands
  b_with_demands : Binds K d_with_demands ["plan", "demands"] []
  g_with_demands : mg "with_demands" = some (.ref f_with_demands)
  f__law_cell_at : Addr
  d__law_cell_at : FuncData
  F__law_cell_at : Fun K "_law_cell_at" "_law_cell_at" s__law_cell_at f__law_cell_at d__law_cell_at
  b__law_cell_at : Binds K d__law_cell_at ["script", "k"] []
  g__law_cell_at : mg "_law_cell_at" = some (.ref f__law_cell_at)
  f__law_take : Addr
  d__law_take : FuncData
  F__law_take : Fun K "_law_take" "_law_take" s__law_take f__law_take d__law_take
  b__law_take : Binds K d__law_take ["pool", "many"] []
  g__law_take : mg "_law_take" = some (.ref f__law_take)
  f__law_f : Addr
  d__law_f : FuncData
  F__law_f : Fun K "_law_f" "_law_f" s__law_f f__law_f d__law_f
  b__law_f : Binds K d__law_f ["top", "bottom"] []
  g__law_f : mg "_law_f" = some (.ref f__law_f)
  f__law_copy : Addr
  d__law_copy : FuncData
  F__law_copy : Fun K "_law_copy" "_law_copy" s__law_copy f__law_copy d__law_copy
  b__law_copy : Binds K d__law_copy ["plan"] []
  g__law_copy : mg "_law_copy" = some (.ref f__law_copy)
  f__law_due : Addr
  d__law_due : FuncData
  F__law_due : Fun K "_law_due" "_law_due" s__law_due f__law_due d__law_due
  b__law_due : Binds K d__law_due ["plan", "chain", "least", "greatest"] []
  g__law_due : mg "_law_due" = some (.ref f__law_due)
  f_fraction : Addr
  d_fraction : FuncData
  F_fraction : Fun K "fraction" "fraction" s_fraction f_fraction d_fraction
  b_fraction : Binds K d_fraction ["top", "bottom"] []
  g_fraction : mg "fraction" = some (.ref f_fraction)
  f__law_pool : Addr
  d__law_pool : FuncData
  F__law_pool : Fun K "_law_pool" "_law_pool" s__law_pool f__law_pool d__law_pool
  b__law_pool : Binds K d__law_pool ["script", "k"] []
  g__law_pool : mg "_law_pool" = some (.ref f__law_pool)
  f__law_plus : Addr
  d__law_plus : FuncData
  F__law_plus : Fun K "_law_plus" "_law_plus" s__law_plus f__law_plus d__law_plus
  b__law_plus : Binds K d__law_plus ["q", "r"] []
  g__law_plus : mg "_law_plus" = some (.ref f__law_plus)
  f__law_fraction : Addr
  d__law_fraction : FuncData
  F__law_fraction : Fun K "_law_fraction" "_law_fraction" s__law_fraction f__law_fraction d__law_fraction
  b__law_fraction : Binds K d__law_fraction ["pool"] []
  g__law_fraction : mg "_law_fraction" = some (.ref f__law_fraction)
  f__law_many_times : Addr
  d__law_many_times : FuncData
  F__law_many_times : Fun K "_law_many_times" "_law_many_times" s__law_many_times f__law_many_times d__law_many_times
  b__law_many_times : Binds K d__law_many_times ["pool"] []
  g__law_many_times : mg "_law_many_times" = some (.ref f__law_many_times)
  f__law_is_fraction : Addr
  d__law_is_fraction : FuncData
  F__law_is_fraction : Fun K "_law_is_fraction" "_law_is_fraction" s__law_is_fraction f__law_is_fraction d__law_is_fraction
  b__law_is_fraction : Binds K d__law_is_fraction ["q"] []
  g__law_is_fraction : mg "_law_is_fraction" = some (.ref f__law_is_fraction)
  f__law_chain : Addr
  d__law_chain : FuncData
  F__law_chain : Fun K "_law_chain" "_law_chain" s__law_chain f__law_chain d__law_chain
  b__law_chain : Binds K d__law_chain ["pool", "many"] []
  g__law_chain : mg "_law_chain" = some (.ref f__law_chain)
  f_times : Addr
  d_times : FuncData
  F_times : Fun K "times" "times" s_times f_times d_times
  b_times : Binds K d_times ["q", "r"] []
  g_times : mg "times" = some (.ref f_times)
  f__law_bounds : Addr
  d__law_bounds : FuncData
  F__law_bounds : Fun K "_law_bounds" "_law_bounds" s__law_bounds f__law_bounds d__law_bounds
  b__law_bounds : Binds K d__law_bounds ["pool"] []
  g__law_bounds : mg "_law_bounds" = some (.ref f__law_bounds)
  f__law_demand : Addr
  d__law_demand : FuncData
  F__law_demand : Fun K "_law_demand" "_law_demand" s__law_demand f__law_demand d__law_demand
  b__law_demand : Binds K d__law_demand ["pool", "sizes", "shims"] []
  g__law_demand : mg "_law_demand" = some (.ref f__law_demand)
  f_turned_about : Addr
  d_turned_about : FuncData
  F_turned_about : Fun K "turned_about" "turned_about" s_turned_about f_turned_about d_turned_about
  b_turned_about : Binds K d_turned_about ["parts"] []
  g_turned_about : mg "turned_about" = some (.ref f_turned_about)
  f__law_plan : Addr
  d__law_plan : FuncData
  F__law_plan : Fun K "_law_plan" "_law_plan" s__law_plan f__law_plan d__law_plan
  b__law_plan : Binds K d__law_plan ["script", "first", "many", "most"] []
  g__law_plan : mg "_law_plan" = some (.ref f__law_plan)
  f_gap_demands : Addr
  d_gap_demands : FuncData
  F_gap_demands : Fun K "gap_demands" "gap_demands" s_gap_demands f_gap_demands d_gap_demands
  b_gap_demands : Binds K d_gap_demands ["plan", "chain", "least", "greatest"] []
  g_gap_demands : mg "gap_demands" = some (.ref f_gap_demands)
  f__law_good : Addr
  d__law_good : FuncData
  F__law_good : Fun K "_law_good" "_law_good" s__law_good f__law_good d__law_good
  b__law_good : Binds K d__law_good ["plan", "chain", "least", "greatest"] []
  g__law_good : mg "_law_good" = some (.ref f__law_good)
  f_law : Addr
  d_law : FuncData
  F_law : Fun K "law" "law" s_law f_law d_law
  b_law : Binds K d_law ["script"] []
  g_law : mg "law" = some (.ref f_law)
  z_abs : mg "abs" = none
  z_bool : mg "bool" = none
  z_int : mg "int" = none
  z_isinstance : mg "isinstance" = none
  z_len : mg "len" = none
  z_list : mg "list" = none
  z_max : mg "max" = none
  z_min : mg "min" = none
  z_range : mg "range" = none
  z_tuple : mg "tuple" = none
  ku_LESS : Value
  kv_LESS : V
  km_LESS : mg "LESS" = some ku_LESS
  kr_LESS : RelV kv_LESS ku_LESS
  kf_LESS : ∀ F H, Fz K F H kv_LESS (.tuple [(.int (-1)), (.int 1)])
section
variable {P : Program} {w : World} {K : PySem.W.Frag} {mg : Str → Option Value} {base : Heap}
theorem ok_divisor (T : Tx K mg) : FnOk P w K mg base CX0 1 T.f_divisor T.d_divisor ["one", "other"] (spT K false (fun _ => none) 2 [] m_divisor) := by
  unfold m_divisor
  refine fnT (N := N_divisor) (ps := ["one", "other"]) (k := 0) T.F_divisor sc_divisor (by decide) (by decide) fun cdv A outer s H E hr => ?_
  exact ⟨_, qss_cons (qs_while PassesOwn.never (qt_pcmp (op_neA hr.units) opNe_v (qp_var 1) (qp_int) (nomark _)) (qss_one (qs_par (i := 0) (j := 1) rfl sc_divisor.nd (qa_cons (qe_var 1) (qa_cons (QP.lift (qp_op op_modA opMod_v (qp_var 0) (qp_var 1))) (qa_nil)))))) <|
    qss_one (qs_ret (QP.lift (qp_callB call_absA opAbs_v T.z_abs bt_abs (qpa_cons (qp_var 0) (qpa_nil)))))⟩
theorem ok_chain_parts (T : Tx K mg) : FnOk P w K mg base CX0 1 T.f_chain_parts T.d_chain_parts ["plan", "chain"] (spT K false (fun _ => none) 2 [] m_chain_parts_2) := by
  unfold m_chain_parts_2
  refine fnT (N := N_chain_parts) (ps := ["plan", "chain"]) (k := 0) T.F_chain_parts sc_chain_parts (by decide) (by decide) fun cdv A outer s H E hr => ?_
  exact ⟨_, qss_cons (qs_set (i := 2) sc_chain_parts.nd (qe_op op_rep opRep_v opRep_nox (QE.fz (qe_lst (qa_cons (QP.lift (qp_int)) (qa_nil)))) (QP.lift (qp_op op_addA opAdd_v (qp_callB call_lenA opLen_v T.z_len bt_len (qpa_cons (qp_ix (qp_var 0) (qp_int)) (qpa_nil))) (qp_callB call_lenA opLen_v T.z_len bt_len (qpa_cons (qp_ix (qp_var 0) (qp_int)) (qpa_nil))))))) <|
    qss_cons (qs_for rfl PassesOwn.never (qi_list (qe_var 1)) (qg_tup rfl (qgs_cons (qg_name (i := 4) sc_chain_parts.nd) (qgs_cons (qg_name (i := 5) sc_chain_parts.nd) (qgs_nil)))) (qss_one (qs_augIx (i := 2) (ql_name 2) (qp_var 4) (qp_var 5) ip_add))) <|
    qss_cons (qs_thenFz 3 (qs_setLcC (i := 3) (own := [("many", 5)]) (vs := [5]) rfl rfl sc_chain_parts.nd rfl rfl (sw_true rfl rfl rfl (by decide +kernel)) (qi_list (qe_var 2)) (blkOk_by (N := N_chain_parts) (sc := defScope s_chain_parts) (by decide +kernel)) (fun _ _ _ _ _ => ⟨_, qg_name (i := 5) sc_chain_parts.nd⟩) (fun _ _ _ _ _ => ⟨_, qts_nil⟩) (fun _ _ _ _ _ => ⟨_, qe_tup (qa_cons (qe_var 5) (qa_cons (QP.lift (qp_int)) (qa_nil)))⟩) s H)) <|
    qss_one (qs_ret (qe_tup (qa_cons (qe_slL (qp_var 3) (qo_none) (qo_some (qp_callB call_lenA opLen_v T.z_len bt_len (qpa_cons (qp_ix (qp_var 0) (qp_int)) (qpa_nil))))) (qa_cons (qe_slL (qp_var 3) (qo_some (qp_callB call_lenA opLen_v T.z_len bt_len (qpa_cons (qp_ix (qp_var 0) (qp_int)) (qpa_nil)))) (qo_none)) (qa_nil)))))⟩
theorem ok_with_demands (T : Tx K mg) : FnOk P w K mg base CX0 1 T.f_with_demands T.d_with_demands ["plan", "demands"] (spT K false (fun _ => none) 2 [] m_with_demands_2) := by
  unfold m_with_demands_2
  refine fnT (N := N_with_demands) (ps := ["plan", "demands"]) (k := 0) T.F_with_demands sc_with_demands (by decide) (by decide) fun cdv A outer s H E hr => ?_
  exact ⟨_, qss_cons (qs_setLcC (i := 2) (own := [("a", 3), ("b", 4), ("c", 5)]) (vs := [3, 4, 5]) rfl rfl sc_with_demands.nd rfl rfl (sw_true rfl rfl rfl (by decide +kernel)) (qi_list (QE.fz (qe_op op_addA opAdd_v opAdd_nox (QE.fz (qe_callTy call_listOf opListOf_v opListOf_nox T.z_list bt_list (qa_cons (QP.lift (qp_ix (qp_var 0) (qp_int))) (qa_nil)))) (QE.fz (qe_callTy call_listOf opListOf_v opListOf_nox T.z_list bt_list (qa_cons (qe_var 1) (qa_nil))))))) (blkOk_by (N := N_with_demands) (sc := defScope s_with_demands) (by decide +kernel)) (fun _ _ _ _ _ => ⟨_, qg_tup rfl (qgs_cons (qg_name (i := 3) sc_with_demands.nd) (qgs_cons (qg_name (i := 4) sc_with_demands.nd) (qgs_cons (qg_name (i := 5) sc_with_demands.nd) (qgs_nil))))⟩) (fun _ _ _ _ _ => ⟨_, qts_nil⟩) (fun _ _ _ _ _ => ⟨_, qe_tup (qa_cons (qe_callTy call_listOf opListOf_v opListOf_nox T.z_list bt_list (qa_cons (qe_var 3) (qa_nil))) (qa_cons (qe_callTy call_listOf opListOf_v opListOf_nox T.z_list bt_list (qa_cons (qe_var 4) (qa_nil))) (qa_cons (qe_move 5) (qa_nil))))⟩) s H) <|
    qss_one (qs_ret (qe_tup (qa_cons (qe_callTy call_listOf opListOf_v opListOf_nox T.z_list bt_list (qa_cons (QP.lift (qp_ix (qp_var 0) (qp_int))) (qa_nil))) (qa_cons (qe_callTy call_listOf opListOf_v opListOf_nox T.z_list bt_list (qa_cons (QP.lift (qp_ix (qp_var 0) (qp_int))) (qa_nil))) (qa_cons (qe_move 2) (qa_nil))))))⟩
theorem ok__law_cell_at (T : Tx K mg) : FnOk P w K mg base CX0 1 T.f__law_cell_at T.d__law_cell_at ["script", "k"] (spT K false (fun _ => none) 2 [] m__law_cell_at) := by
  unfold m__law_cell_at
  refine fnT (N := N__law_cell_at) (ps := ["script", "k"]) (k := 0) T.F__law_cell_at sc__law_cell_at (by decide) (by decide) fun cdv A outer s H E hr => ?_
  exact ⟨_, qss_cons (qs_if (qt_pcmp op_ltA opLt_v (qp_var 1) (qp_callB call_lenA opLen_v T.z_len bt_len (qpa_cons (qp_var 0) (qpa_nil))) (nomark _)) (qss_one (qs_ret (QP.lift (qp_ix (qp_var 0) (qp_var 1))))) (qss_nil)) <|
    qss_one (qs_ret (QP.lift (qp_int)))⟩
theorem ok__law_take (T : Tx K mg) : FnOk P w K mg base CX0 1 T.f__law_take T.d__law_take ["pool", "many"] (spT K false (fun _ => none) 2 [0] m__law_take_2) := by
  unfold m__law_take_2
  refine fnT (N := N__law_take) (ps := ["pool", "many"]) (k := 0) T.F__law_take sc__law_take (by decide) (by decide) fun cdv A outer s H E hr => ?_
  exact ⟨_, qss_cons (qs_set (i := 2) sc__law_take.nd (QP.lift (qp_key (u1 hr) (qp_var 0) (qp_str)))) <|
    qss_cons (qs_if (qt_not (qt_truth (qp_key (u1 hr) (qp_var 0) (qp_str)))) (qss_cons (qs_keySet (i := 0) (u1 hr) (qk_name 0) (qp_str) (QP.lift (qp_op op_fdivA opFdiv_v (qp_var 2) (qp_var 1)))) <|
    qss_one (qs_ret (QP.lift (qp_op op_modA opMod_v (qp_var 2) (qp_var 1))))) (qss_nil)) <|
    qss_cons (qs_keySet (i := 0) (u1 hr) (qk_name 0) (qp_str) (QP.lift (qp_op op_addA opAdd_v (qp_key (u1 hr) (qp_var 0) (qp_str)) (qp_int)))) <|
    qss_cons (qs_set (i := 2) sc__law_take.nd (QP.lift (qp_op op_addA opAdd_v (qp_op op_modA opMod_v (qp_var 2) (qp_int)) (qp_op op_mulA opMulI_v (qp_int) (qp_key (u1 hr) (qp_var 0) (qp_str)))))) <|
    qss_cons (qs_set (i := 2) sc__law_take.nd (QP.lift (qp_op op_modA opMod_v (qp_op op_mulA opMulI_v (qp_var 2) (qp_op op_addA opAdd_v (qp_var 2) (qp_int))) (qp_int)))) <|
    qss_cons (qs_set (i := 2) sc__law_take.nd (QP.lift (qp_op op_modA opMod_v (qp_op op_mulA opMulI_v (qp_var 2) (qp_var 2)) (qp_int)))) <|
    qss_cons (qs_keySet (i := 0) (u1 hr) (qk_name 0) (qp_str) (qe_var 2)) <|
    qss_one (qs_ret (QP.lift (qp_op op_modA opMod_v (qp_op op_fdivA opFdiv_v (qp_var 2) (qp_int)) (qp_var 1))))⟩
theorem ok__law_f (T : Tx K mg) : FnOk P w K mg base CX0 1 T.f__law_f T.d__law_f ["top", "bottom"] (spT K false (fun _ => none) 2 [] m__law_f) := by
  unfold m__law_f
  refine fnT (N := N__law_f) (ps := ["top", "bottom"]) (k := 0) T.F__law_f sc__law_f (by decide) (by decide) fun cdv A outer s H E hr => ?_
  exact ⟨_, qss_cons (qs_set (i := 2) sc__law_f.nd (QP.lift (qp_callB call_absA opAbs_v T.z_abs bt_abs (qpa_cons (qp_var 0) (qpa_nil))))) <|
    qss_cons (qs_set (i := 3) sc__law_f.nd (QP.lift (qp_callB call_absA opAbs_v T.z_abs bt_abs (qpa_cons (qp_var 1) (qpa_nil))))) <|
    qss_cons (qs_while PassesOwn.never (qt_pcmp op_gtA opGt_v (qp_var 3) (qp_int) (nomark _)) (qss_one (qs_par (i := 2) (j := 3) rfl sc__law_f.nd (qa_cons (qe_var 3) (qa_cons (QP.lift (qp_op op_modA opMod_v (qp_var 2) (qp_var 3))) (qa_nil)))))) <|
    qss_cons (qs_if (qt_pcmp op_ltA opLt_v (qp_var 1) (qp_int) (nomark _)) (qss_one (qs_set (i := 2) sc__law_f.nd (QP.lift (qp_op op_subA opSub_v (qp_int) (qp_var 2))))) (qss_nil)) <|
    qss_one (qs_ret (qe_tup (qa_cons (QP.lift (qp_op op_fdivA opFdiv_v (qp_var 0) (qp_var 2))) (qa_cons (QP.lift (qp_op op_fdivA opFdiv_v (qp_var 1) (qp_var 2))) (qa_nil)))))⟩
theorem ok__law_copy (T : Tx K mg) : FnOk P w K mg base CX0 1 T.f__law_copy T.d__law_copy ["plan"] (spT K false (fun _ => none) 1 [] m__law_copy) := by
  unfold m__law_copy
  refine fnT (N := N__law_copy) (ps := ["plan"]) (k := 0) T.F__law_copy sc__law_copy (by decide) (by decide) fun cdv A outer s H E hr => ?_
  exact ⟨_, qss_one (qs_ret (qe_tup (qa_cons (QE.fz (qe_callTy call_listOf opListOf_v opListOf_nox T.z_list bt_list (qa_cons (QP.lift (qp_ix (qp_var 0) (qp_int))) (qa_nil)))) (qa_cons (QE.fz (qe_callTy call_listOf opListOf_v opListOf_nox T.z_list bt_list (qa_cons (QP.lift (qp_ix (qp_var 0) (qp_int))) (qa_nil)))) (qa_cons (QE.fz (qe_lcC (own := [("a", 1), ("b", 2), ("c", 3)]) (vs := [1, 2, 3]) rfl rfl sc__law_copy.nd  (qi_list (QP.lift (qp_ix (qp_var 0) (qp_int)))) (blkOk_by (N := N__law_copy) (sc := defScope s__law_copy) (by decide +kernel)) (fun _ _ _ _ _ => ⟨_, qg_tup rfl (qgs_cons (qg_name (i := 1) sc__law_copy.nd) (qgs_cons (qg_name (i := 2) sc__law_copy.nd) (qgs_cons (qg_name (i := 3) sc__law_copy.nd) (qgs_nil))))⟩) (fun _ _ _ _ _ => ⟨_, qts_nil⟩) (fun _ _ _ _ _ => ⟨_, qe_tup (qa_cons (QE.fz (qe_callTy call_listOf opListOf_v opListOf_nox T.z_list bt_list (qa_cons (qe_var 1) (qa_nil)))) (qa_cons (QE.fz (qe_callTy call_listOf opListOf_v opListOf_nox T.z_list bt_list (qa_cons (qe_var 2) (qa_nil)))) (qa_cons (qe_var 3) (qa_nil))))⟩) s H)) (qa_nil))))))⟩
theorem ok__law_due (T : Tx K mg) : FnOk P w K mg base CX0 1 T.f__law_due T.d__law_due ["plan", "chain", "least", "greatest"] (spT K false (fun _ => none) 4 [] m__law_due_9) := by
  unfold m__law_due_9
  refine fnT (N := N__law_due) (ps := ["plan", "chain", "least", "greatest"]) (k := 0) T.F__law_due sc__law_due (by decide) (by decide) fun cdv A outer s H E hr => ?_
  exact ⟨_, qss_cons (qs_setLcC (i := 4) (own := [("bounds", 9)]) (vs := [9]) rfl rfl sc__law_due.nd rfl rfl (sw_true rfl rfl rfl (by decide +kernel)) (qi_list (QE.fz (qe_op op_addA opAdd_v opAdd_nox (QP.lift (qp_ix (qp_var 0) (qp_int))) (QP.lift (qp_ix (qp_var 0) (qp_int)))))) (blkOk_by (N := N__law_due) (sc := defScope s__law_due) (by decide +kernel)) (fun _ _ _ _ _ => ⟨_, qg_name (i := 9) sc__law_due.nd⟩) (fun _ _ _ _ _ => ⟨_, qts_nil⟩) (fun _ _ _ _ _ => ⟨_, QP.lift (qp_int)⟩) s H) <|
    qss_cons (qs_for rfl PassesOwn.never (qi_list (qe_var 1)) (qg_tup rfl (qgs_cons (qg_name (i := 7) sc__law_due.nd) (qgs_cons (qg_name (i := 8) sc__law_due.nd) (qgs_nil)))) (qss_one (qs_asg (QP.lift (qp_op op_addA opAdd_v (qp_ix (qp_var 4) (qp_var 7)) (qp_var 8))) (qg_item (ql_name 4) (qp_var 7))))) <|
    qss_cons (qs_set (i := 5) sc__law_due.nd (QP.lift (qp_callB call_lenA opLen_v T.z_len bt_len (qpa_cons (qp_ix (qp_var 0) (qp_int)) (qpa_nil))))) <|
    qss_cons (qs_set (i := 6) sc__law_due.nd (qe_tup (qa_cons (QE.fz (qe_lcC (own := [("part", 10)]) (vs := [10]) rfl rfl sc__law_due.nd  (qi_list (QE.fz (qe_slL (qp_var 4) (qo_none) (qo_some (qp_var 5))))) (blkOk_by (N := N__law_due) (sc := defScope s__law_due) (by decide +kernel)) (fun _ _ _ _ _ => ⟨_, qg_name (i := 10) sc__law_due.nd⟩) (fun _ _ _ _ _ => ⟨_, qts_nil⟩) (fun _ _ _ _ _ => ⟨_, qe_tup (qa_cons (qe_var 10) (qa_cons (QP.lift (qp_int)) (qa_nil)))⟩) s H)) (qa_cons (QE.fz (qe_lcC (own := [("part", 10)]) (vs := [10]) rfl rfl sc__law_due.nd  (qi_list (QE.fz (qe_slL (qp_var 4) (qo_some (qp_var 5)) (qo_none)))) (blkOk_by (N := N__law_due) (sc := defScope s__law_due) (by decide +kernel)) (fun _ _ _ _ _ => ⟨_, qg_name (i := 10) sc__law_due.nd⟩) (fun _ _ _ _ _ => ⟨_, qts_nil⟩) (fun _ _ _ _ _ => ⟨_, qe_tup (qa_cons (qe_var 10) (qa_cons (QP.lift (qp_int)) (qa_nil)))⟩) s H)) (qa_cons (qe_tup (qa_cons (QP.lift (qp_op op_subA opSub_v (qp_int) (qp_ix (qp_var 2) (qp_int)))) (qa_cons (QP.lift (qp_ix (qp_var 2) (qp_int))) (qa_nil)))) (qa_nil)))))) <|
    qss_one (qs_ret (QE.fz (qe_lst (qa_cons (qe_var 6) (qa_cons (qe_tup (qa_cons (QE.fz (qe_lcC (own := [("part", 10)]) (vs := [10]) rfl rfl sc__law_due.nd  (qi_list (QE.fz (qe_slL (qp_var 4) (qo_none) (qo_some (qp_var 5))))) (blkOk_by (N := N__law_due) (sc := defScope s__law_due) (by decide +kernel)) (fun _ _ _ _ _ => ⟨_, qg_name (i := 10) sc__law_due.nd⟩) (fun _ _ _ _ _ => ⟨_, qts_nil⟩) (fun _ _ _ _ _ => ⟨_, qe_tup (qa_cons (QP.lift (qp_op op_subA opSub_v (qp_int) (qp_var 10))) (qa_cons (QP.lift (qp_int)) (qa_nil)))⟩) s H)) (qa_cons (QE.fz (qe_lcC (own := [("part", 10)]) (vs := [10]) rfl rfl sc__law_due.nd  (qi_list (QE.fz (qe_slL (qp_var 4) (qo_some (qp_var 5)) (qo_none)))) (blkOk_by (N := N__law_due) (sc := defScope s__law_due) (by decide +kernel)) (fun _ _ _ _ _ => ⟨_, qg_name (i := 10) sc__law_due.nd⟩) (fun _ _ _ _ _ => ⟨_, qts_nil⟩) (fun _ _ _ _ _ => ⟨_, qe_tup (qa_cons (QP.lift (qp_op op_subA opSub_v (qp_int) (qp_var 10))) (qa_cons (QP.lift (qp_int)) (qa_nil)))⟩) s H)) (qa_cons (qe_var 3) (qa_nil))))) (qa_nil))))))⟩
theorem ok_fraction (T : Tx K mg) : FnOk P w K mg base CX0 2 T.f_fraction T.d_fraction ["top", "bottom"] (spT K false (fun _ => none) 2 [] m_fraction) := by
  unfold m_fraction
  refine fnT (N := N_fraction) (ps := ["top", "bottom"]) (k := 1) T.F_fraction sc_fraction (by decide) (by decide) fun cdv A outer s H E hr => ?_
  exact ⟨_, qss_cons (qs_if (qt_pcmp (op_eqA hr.units) opEq_v (qp_var 1) (qp_int) (nomark _)) (qss_one (qs_never)) (qss_nil)) <|
    qss_cons (qs_set (i := 2) sc_fraction.nd (qe_call (ok_divisor T) hr T.g_divisor T.F_divisor.kp T.b_divisor pass0 (qb_cons (qe_var 0) (qb_cons (qe_var 1) (qb_nil))))) <|
    qss_cons (qs_if (qt_pcmp op_ltA opLt_v (qp_var 1) (qp_int) (nomark _)) (qss_one (qs_set (i := 2) sc_fraction.nd (QP.lift (qp_op op_subA opSub_v (qp_int) (qp_var 2))))) (qss_nil)) <|
    qss_one (qs_ret (qe_tup (qa_cons (QP.lift (qp_op op_fdivA opFdiv_v (qp_var 0) (qp_var 2))) (qa_cons (QP.lift (qp_op op_fdivA opFdiv_v (qp_var 1) (qp_var 2))) (qa_nil)))))⟩
theorem ok__law_pool (T : Tx K mg) : FnOk P w K mg base CX0 2 T.f__law_pool T.d__law_pool ["script", "k"] (spT K false (fun _ => none) 2 [] m__law_pool_2) := by
  unfold m__law_pool_2
  refine fnT (N := N__law_pool) (ps := ["script", "k"]) (k := 1) T.F__law_pool sc__law_pool (by decide) (by decide) fun cdv A outer s H E hr => ?_
  exact ⟨_, qss_cons (qs_set (i := 2) sc__law_pool.nd (qe_call (ok__law_cell_at T) hr T.g__law_cell_at T.F__law_cell_at.kp T.b__law_cell_at pass0 (qb_cons (qe_rd 0) (qb_cons (qe_var 1) (qb_nil))))) <|
    qss_one (qs_ret (qe_disp (qd_cons (qe_var 2) (qd_cons (QP.lift (qp_cmp op_ltA opLt_v (qp_var 2) (qp_op op_powA opPow_v (qp_int) (qp_int)) (nomark _))) (qd_cons (QP.lift (qp_op op_addA opAdd_v (qp_int) (qp_op op_mulA opMulI_v (qp_int) (qp_var 1)))) (qd_nil))))))⟩
theorem ok__law_plus (T : Tx K mg) : FnOk P w K mg base CX0 2 T.f__law_plus T.d__law_plus ["q", "r"] (spT K false (fun _ => none) 2 [] m__law_plus_3) := by
  unfold m__law_plus_3
  refine fnT (N := N__law_plus) (ps := ["q", "r"]) (k := 1) T.F__law_plus sc__law_plus (by decide) (by decide) fun cdv A outer s H E hr => ?_
  exact ⟨_, qss_one (qs_ret (qe_call (ok__law_f T) hr T.g__law_f T.F__law_f.kp T.b__law_f pass0 (qb_cons (QP.lift (qp_op op_addA opAdd_v (qp_op op_mulA opMulI_v (qp_ix (qp_var 0) (qp_int)) (qp_ix (qp_var 1) (qp_int))) (qp_op op_mulA opMulI_v (qp_ix (qp_var 1) (qp_int)) (qp_ix (qp_var 0) (qp_int))))) (qb_cons (QP.lift (qp_op op_mulA opMulI_v (qp_ix (qp_var 0) (qp_int)) (qp_ix (qp_var 1) (qp_int)))) (qb_nil)))))⟩
theorem ok__law_fraction (T : Tx K mg) : FnOk P w K mg base CX0 2 T.f__law_fraction T.d__law_fraction ["pool"] (spT K false (fun _ => none) 1 [0] m__law_fraction_4) := by
  unfold m__law_fraction_4
  refine fnT (N := N__law_fraction) (ps := ["pool"]) (k := 1) T.F__law_fraction sc__law_fraction (by decide) (by decide) fun cdv A outer s H E hr => ?_
  exact ⟨_, qss_cons (qs_set (i := 1) sc__law_fraction.nd (qe_call (ok__law_take T) hr T.g__law_take T.F__law_take.kp T.b__law_take pass0 (qb_io 0 (qb_cons (QP.lift (qp_int)) (qb_nil))))) <|
    qss_cons (qs_if (qt_pcmp op_ltA opLt_v (qp_var 1) (qp_int) (nomark _)) (qss_one (qs_ret (qe_tup (qa_cons (qe_op op_subA opSub_v opI2_nox (qe_call (ok__law_take T) hr T.g__law_take T.F__law_take.kp T.b__law_take pass0 (qb_io 0 (qb_cons (QP.lift (qp_int)) (qb_nil)))) (QP.lift (qp_int))) (qa_cons (QP.lift (qp_int)) (qa_nil)))))) (qss_nil)) <|
    qss_cons (qs_if (qt_pcmp op_ltA opLt_v (qp_var 1) (qp_int) (nomark _)) (qss_one (qs_ret (qe_call (ok__law_f T) hr T.g__law_f T.F__law_f.kp T.b__law_f pass0 (qb_cons (qe_op op_subA opSub_v opI2_nox (qe_call (ok__law_take T) hr T.g__law_take T.F__law_take.kp T.b__law_take pass0 (qb_io 0 (qb_cons (QP.lift (qp_int)) (qb_nil)))) (QP.lift (qp_int))) (qb_cons (qe_op op_addA opAdd_v opAdd_nox (QP.lift (qp_int)) (qe_call (ok__law_take T) hr T.g__law_take T.F__law_take.kp T.b__law_take pass0 (qb_io 0 (qb_cons (QP.lift (qp_int)) (qb_nil))))) (qb_nil)))))) (qss_nil)) <|
    qss_one (qs_ret (qe_call (ok__law_f T) hr T.g__law_f T.F__law_f.kp T.b__law_f pass0 (qb_cons (qe_op op_subA opSub_v opI2_nox (qe_call (ok__law_take T) hr T.g__law_take T.F__law_take.kp T.b__law_take pass0 (qb_io 0 (qb_cons (QP.lift (qp_int)) (qb_nil)))) (QP.lift (qp_int))) (qb_cons (qe_op op_addA opAdd_v opAdd_nox (QP.lift (qp_int)) (qe_call (ok__law_take T) hr T.g__law_take T.F__law_take.kp T.b__law_take pass0 (qb_io 0 (qb_cons (QP.lift (qp_int)) (qb_nil))))) (qb_nil)))))⟩
theorem ok__law_many_times (T : Tx K mg) : FnOk P w K mg base CX0 2 T.f__law_many_times T.d__law_many_times ["pool"] (spT K false (fun _ => none) 1 [0] m__law_many_times) := by
  unfold m__law_many_times
  refine fnT (N := N__law_many_times) (ps := ["pool"]) (k := 1) T.F__law_many_times sc__law_many_times (by decide) (by decide) fun cdv A outer s H E hr => ?_
  exact ⟨_, qss_cons (qs_set (i := 1) sc__law_many_times.nd (qe_call (ok__law_take T) hr T.g__law_take T.F__law_take.kp T.b__law_take pass0 (qb_io 0 (qb_cons (QP.lift (qp_int)) (qb_nil))))) <|
    qss_cons (qs_if (qt_pcmp op_ltA opLt_v (qp_var 1) (qp_int) (nomark _)) (qss_one (qs_ret (qe_tup (qa_cons (QP.lift (qp_int)) (qa_cons (QP.lift (qp_int)) (qa_nil)))))) (qss_nil)) <|
    qss_cons (qs_if (qt_pcmp op_ltA opLt_v (qp_var 1) (qp_int) (nomark _)) (qss_one (qs_ret (qe_tup (qa_cons (qe_ix (qe_lst (qa_cons (QP.lift (qp_int)) (qa_cons (QP.lift (qp_neg (qp_int))) (qa_cons (QP.lift (qp_int)) (qa_cons (QP.lift (qp_neg (qp_int))) (qa_nil)))))) (QP.lift (qp_op op_subA opSub_v (qp_var 1) (qp_int)))) (qa_cons (QP.lift (qp_int)) (qa_nil)))))) (qss_nil)) <|
    qss_one (qs_ret (qe_call (ok__law_f T) hr T.g__law_f T.F__law_f.kp T.b__law_f pass0 (qb_cons (qe_op op_subA opSub_v opI2_nox (qe_call (ok__law_take T) hr T.g__law_take T.F__law_take.kp T.b__law_take pass0 (qb_io 0 (qb_cons (QP.lift (qp_int)) (qb_nil)))) (QP.lift (qp_int))) (qb_cons (qe_op op_addA opAdd_v opAdd_nox (QP.lift (qp_int)) (qe_call (ok__law_take T) hr T.g__law_take T.F__law_take.kp T.b__law_take pass0 (qb_io 0 (qb_cons (QP.lift (qp_int)) (qb_nil))))) (qb_nil)))))⟩
theorem ok__law_is_fraction (T : Tx K mg) : FnOk P w K mg base CX0 2 T.f__law_is_fraction T.d__law_is_fraction ["q"] (spT K false (fun _ => none) 1 [] m__law_is_fraction_2) := by
  unfold m__law_is_fraction_2
  refine fnT (N := N__law_is_fraction) (ps := ["q"]) (k := 1) T.F__law_is_fraction sc__law_is_fraction (by decide) (by decide) fun cdv A outer s H E hr => ?_
  exact ⟨_, qss_cons (qs_if (QW.qt (qw_or (qt_not (qt_val (QP.lift (qp_isi (n := "tuple") (qp_var 0) T.z_isinstance T.z_tuple bt_tuple)))) (qw_or1 (qt_pcmp (op_neA hr.units) opNe_v (qp_callB call_lenA opLen_v T.z_len bt_len (qpa_cons (qp_var 0) (qpa_nil))) (qp_int) (nomark _))))) (qss_one (qs_ret (QP.lift (qp_bl)))) (qss_nil)) <|
    qss_cons (qs_if (qt_cmp (op_neA hr.units) opNe_v opNe_nox (QE.fz (qe_lcC (own := [("one", 1)]) (vs := [1]) rfl rfl sc__law_is_fraction.nd  (qi_tup (qe_var 0)) (blkOk_by (N := N__law_is_fraction) (sc := defScope s__law_is_fraction) (by decide +kernel)) (fun _ _ _ _ _ => ⟨_, qg_name (i := 1) sc__law_is_fraction.nd⟩) (fun _ _ _ _ _ => ⟨_, qts_one (QW.qt (qw_or (qt_not (qt_val (QP.lift (qp_isi (n := "int") (qp_var 1) T.z_isinstance T.z_int bt_int)))) (qw_or1 (qt_val (QP.lift (qp_isi (n := "bool") (qp_var 1) T.z_isinstance T.z_bool bt_bool))))))⟩) (fun _ _ _ _ _ => ⟨_, qe_var 1⟩) s H)) (QE.fz (qe_lst (qa_nil))) (nomark _)) (qss_one (qs_ret (QP.lift (qp_bl)))) (qss_nil)) <|
    qss_one (qs_ret (qe_and (QP.lift (qp_cmp op_gtA opGt_v (qp_ix (qp_var 0) (qp_int)) (qp_int) (nomark _))) (qe_one (qe_cmp (op_eqA hr.units) opEq_v opEq_nox (qe_call (ok__law_f T) hr T.g__law_f T.F__law_f.kp T.b__law_f pass0 (qb_cons (QP.lift (qp_ix (qp_var 0) (qp_int))) (qb_cons (QP.lift (qp_ix (qp_var 0) (qp_int))) (qb_nil)))) (qe_var 0) (nomark _)))))⟩
theorem ok__law_chain (T : Tx K mg) : FnOk P w K mg base CX0 2 T.f__law_chain T.d__law_chain ["pool", "many"] (spT K false (fun _ => none) 2 [0] m__law_chain) := by
  unfold m__law_chain
  refine fnT (N := N__law_chain) (ps := ["pool", "many"]) (k := 1) T.F__law_chain sc__law_chain (by decide) (by decide) fun cdv A outer s H E hr => ?_
  exact ⟨_, qss_cons (qs_set (i := 2) sc__law_chain.nd (qe_lst (qa_nil))) <|
    qss_cons (qs_for rfl PassesOwn.never (qi_range1 T.z_range (qa_cons (qe_call (ok__law_take T) hr T.g__law_take T.F__law_take.kp T.b__law_take pass0 (qb_io 0 (qb_cons (QP.lift (qp_int)) (qb_nil)))) (qa_nil))) (qg_name (i := 3) sc__law_chain.nd) (qss_cons (qs_set (i := 4) sc__law_chain.nd (qe_ix (qe_lst (qa_cons (qe_op op_subA opSub_v opI2_nox (qe_call (ok__law_take T) hr T.g__law_take T.F__law_take.kp T.b__law_take pass0 (qb_io 0 (qb_cons (QP.lift (qp_int)) (qb_nil)))) (QP.lift (qp_int))) (qa_cons (QP.lift (qp_int)) (qa_cons (QP.lift (qp_neg (qp_int))) (qa_cons (qe_op op_subA opSub_v opI2_nox (qe_call (ok__law_take T) hr T.g__law_take T.F__law_take.kp T.b__law_take pass0 (qb_io 0 (qb_cons (QP.lift (qp_op op_powA opPow_v (qp_int) (qp_int))) (qb_nil)))) (QP.lift (qp_op op_mulA opMulI_v (qp_int) (qp_op op_powA opPow_v (qp_int) (qp_int))))) (qa_nil)))))) (qe_call (ok__law_take T) hr T.g__law_take T.F__law_take.kp T.b__law_take pass0 (qb_io 0 (qb_cons (QP.lift (qp_int)) (qb_nil)))))) <|
    qss_one (qs_expr (qe_meth (i := 2) PySem.F.slot_list_append PySem.F.type_list_append mt_append append_v (ql_name 2) (qa_cons (qe_tup (qa_cons (qe_call (ok__law_take T) hr T.g__law_take T.F__law_take.kp T.b__law_take pass0 (qb_io 0 (qb_cons (qe_var 1) (qb_nil)))) (qa_cons (qe_var 4) (qa_nil)))) (qa_nil)) (.inr fun _ _ => lHere_nil))))) <|
    qss_one (qs_ret (qe_var 2))⟩
theorem ok_times (T : Tx K mg) : FnOk P w K mg base CX0 3 T.f_times T.d_times ["q", "r"] (spT K false (fun _ => none) 2 [] m_times) := by
  unfold m_times
  refine fnT (N := N_times) (ps := ["q", "r"]) (k := 2) T.F_times sc_times (by decide) (by decide) fun cdv A outer s H E hr => ?_
  exact ⟨_, qss_one (qs_ret (qe_call (ok_fraction T) hr T.g_fraction T.F_fraction.kp T.b_fraction pass0 (qb_cons (QP.lift (qp_op op_mulA opMulI_v (qp_ix (qp_var 0) (qp_int)) (qp_ix (qp_var 1) (qp_int)))) (qb_cons (QP.lift (qp_op op_mulA opMulI_v (qp_ix (qp_var 0) (qp_int)) (qp_ix (qp_var 1) (qp_int)))) (qb_nil)))))⟩
theorem ok__law_bounds (T : Tx K mg) : FnOk P w K mg base CX0 3 T.f__law_bounds T.d__law_bounds ["pool"] (spT K false (fun _ => none) 1 [0] m__law_bounds_2) := by
  unfold m__law_bounds_2
  refine fnT (N := N__law_bounds) (ps := ["pool"]) (k := 2) T.F__law_bounds sc__law_bounds (by decide) (by decide) fun cdv A outer s H E hr => ?_
  exact ⟨_, qss_cons (qs_set (i := 1) sc__law_bounds.nd (qe_call (ok__law_fraction T) hr T.g__law_fraction T.F__law_fraction.kp T.b__law_fraction pass0 (qb_io 0 (qb_nil)))) <|
    qss_cons (qs_set (i := 2) sc__law_bounds.nd (qe_call (ok__law_fraction T) hr T.g__law_fraction T.F__law_fraction.kp T.b__law_fraction pass0 (qb_io 0 (qb_nil)))) <|
    qss_cons (qs_if (qt_pcmp op_ltA opLt_v (qp_ix (qp_var 2) (qp_int)) (qp_int) (nomark _)) (qss_one (qs_set (i := 2) sc__law_bounds.nd (qe_tup (qa_cons (QP.lift (qp_op op_subA opSub_v (qp_int) (qp_ix (qp_var 2) (qp_int)))) (qa_cons (QP.lift (qp_ix (qp_var 2) (qp_int))) (qa_nil)))))) (qss_nil)) <|
    qss_one (qs_ret (qe_tup (qa_cons (qe_var 1) (qa_cons (qe_call (ok__law_plus T) hr T.g__law_plus T.F__law_plus.kp T.b__law_plus pass0 (qb_cons (qe_var 1) (qb_cons (qe_var 2) (qb_nil)))) (qa_nil)))))⟩
theorem ok__law_demand (T : Tx K mg) : FnOk P w K mg base CX0 3 T.f__law_demand T.d__law_demand ["pool", "sizes", "shims"] (spT K false (fun _ => none) 3 [0] m__law_demand) := by
  unfold m__law_demand
  refine fnT (N := N__law_demand) (ps := ["pool", "sizes", "shims"]) (k := 2) T.F__law_demand sc__law_demand (by decide) (by decide) fun cdv A outer s H E hr => ?_
  exact ⟨_, qss_cons (qs_thenFz 3 (qs_setLcC (i := 3) (own := [("k", 6)]) (vs := [6]) rfl rfl sc__law_demand.nd rfl rfl (sw_true rfl rfl rfl (by decide +kernel)) (qi_range1 T.z_range (qa_cons (qe_var 1) (qa_nil))) (blkOk_by (N := N__law_demand) (sc := defScope s__law_demand) (by decide +kernel)) (fun _ _ _ _ _ => ⟨_, qg_name (i := 6) sc__law_demand.nd⟩) (fun _ _ _ _ _ => ⟨_, qts_nil⟩) (fun _ _ _ _ _ => ⟨_, qe_call (ok__law_many_times T) hr T.g__law_many_times T.F__law_many_times.kp T.b__law_many_times pass0 (qb_io 0 (qb_nil))⟩) s H)) <|
    qss_cons (qs_thenFz 4 (qs_setLcC (i := 4) (own := [("k", 6)]) (vs := [6]) rfl rfl sc__law_demand.nd rfl rfl (sw_true rfl rfl rfl (by decide +kernel)) (qi_range1 T.z_range (qa_cons (qe_var 2) (qa_nil))) (blkOk_by (N := N__law_demand) (sc := defScope s__law_demand) (by decide +kernel)) (fun _ _ _ _ _ => ⟨_, qg_name (i := 6) sc__law_demand.nd⟩) (fun _ _ _ _ _ => ⟨_, qts_nil⟩) (fun _ _ _ _ _ => ⟨_, qe_call (ok__law_many_times T) hr T.g__law_many_times T.F__law_many_times.kp T.b__law_many_times pass0 (qb_io 0 (qb_nil))⟩) s H)) <|
    qss_cons (qs_set (i := 5) sc__law_demand.nd (qe_call (ok__law_fraction T) hr T.g__law_fraction T.F__law_fraction.kp T.b__law_fraction pass0 (qb_io 0 (qb_nil)))) <|
    qss_cons (qs_if (qt_cmp (op_eqA hr.units) opEq_v opEq_nox (qe_call (ok__law_take T) (hr.mono (by decide)) T.g__law_take T.F__law_take.kp T.b__law_take pass0 (qb_io 0 (qb_cons (QP.lift (qp_int)) (qb_nil)))) (QP.lift (qp_int)) (nomark _)) (qss_one (qs_set (i := 5) sc__law_demand.nd (qe_call (ok__law_plus T) hr T.g__law_plus T.F__law_plus.kp T.b__law_plus pass0 (qb_cons (qe_var 5) (qb_cons (qe_tup (qa_cons (qe_call (ok__law_take T) (hr.mono (by decide)) T.g__law_take T.F__law_take.kp T.b__law_take pass0 (qb_io 0 (qb_cons (QP.lift (qp_int)) (qb_nil)))) (qa_cons (QP.lift (qp_int)) (qa_nil)))) (qb_nil)))))) (qss_nil)) <|
    qss_one (qs_ret (qe_tup (qa_cons (qe_var 3) (qa_cons (qe_var 4) (qa_cons (qe_var 5) (qa_nil))))))⟩
theorem ok_turned_about (T : Tx K mg) : FnOk P w K mg base CX0 4 T.f_turned_about T.d_turned_about ["parts"] (spT K false (fun _ => none) 1 [] m_turned_about_2) := by
  unfold m_turned_about_2
  refine fnT (N := N_turned_about) (ps := ["parts"]) (k := 3) T.F_turned_about sc_turned_about (by decide) (by decide) fun cdv A outer s H E hr => ?_
  exact ⟨_, qss_one (qs_ret (qe_lcC (own := [("part", 1)]) (vs := [1]) rfl rfl sc_turned_about.nd  (qi_list (qe_var 0)) (blkOk_by (N := N_turned_about) (sc := defScope s_turned_about) (by decide +kernel)) (fun _ _ _ _ _ => ⟨_, qg_name (i := 1) sc_turned_about.nd⟩) (fun _ _ _ _ _ => ⟨_, qts_nil⟩) (fun _ _ _ _ _ => ⟨_, qe_call (ok_times T) hr T.g_times T.F_times.kp T.b_times pass0 (qb_cons (QP.lift (qp_glob T.km_LESS T.kr_LESS T.kf_LESS)) (qb_cons (qe_var 1) (qb_nil)))⟩) s H))⟩
theorem ok__law_plan (T : Tx K mg) : FnOk P w K mg base CX0 4 T.f__law_plan T.d__law_plan ["script", "first", "many", "most"] (spT K false (fun _ => none) 4 [] m__law_plan_3) := by
  unfold m__law_plan_3
  refine fnT (N := N__law_plan) (ps := ["script", "first", "many", "most"]) (k := 3) T.F__law_plan sc__law_plan (by decide) (by decide) fun cdv A outer s H E hr => ?_
  exact ⟨_, qss_cons (qs_set (i := 4) sc__law_plan.nd (qe_call (ok__law_pool T) (hr.mono (by decide)) T.g__law_pool T.F__law_pool.kp T.b__law_pool pass0 (qb_cons (qe_rd 0) (qb_cons (qe_var 1) (qb_nil))))) <|
    qss_cons (qs_set (i := 5) sc__law_plan.nd (qe_op op_addA opAdd_v opAdd_nox (QP.lift (qp_int)) (qe_call (ok__law_take T) (hr.mono (by decide)) T.g__law_take T.F__law_take.kp T.b__law_take pass0 (qb_io 4 (qb_cons (qe_var 2) (qb_nil)))))) <|
    qss_cons (qs_set (i := 6) sc__law_plan.nd (qe_ix (qe_lst (qa_cons (qe_call (ok__law_take T) (hr.mono (by decide)) T.g__law_take T.F__law_take.kp T.b__law_take pass0 (qb_io 4 (qb_cons (QP.lift (qp_op op_addA opAdd_v (qp_var 3) (qp_int))) (qb_nil)))) (qa_cons (QP.lift (qp_int)) (qa_cons (QP.lift (qp_int)) (qa_nil))))) (qe_call (ok__law_take T) (hr.mono (by decide)) T.g__law_take T.F__law_take.kp T.b__law_take pass0 (qb_io 4 (qb_cons (QP.lift (qp_int)) (qb_nil)))))) <|
    qss_cons (qs_set (i := 7) sc__law_plan.nd (qe_ix (qe_lst (qa_cons (qe_call (ok__law_take T) (hr.mono (by decide)) T.g__law_take T.F__law_take.kp T.b__law_take pass0 (qb_io 4 (qb_cons (QP.lift (qp_int)) (qb_nil)))) (qa_cons (qe_op op_addA opAdd_v opAdd_nox (QP.lift (qp_int)) (qe_call (ok__law_take T) (hr.mono (by decide)) T.g__law_take T.F__law_take.kp T.b__law_take pass0 (qb_io 4 (qb_cons (QP.lift (qp_int)) (qb_nil))))) (qa_nil)))) (qe_call (ok__law_take T) (hr.mono (by decide)) T.g__law_take T.F__law_take.kp T.b__law_take pass0 (qb_io 4 (qb_cons (QP.lift (qp_int)) (qb_nil)))))) <|
    qss_cons (qs_set (i := 8) sc__law_plan.nd (qe_lst (qa_cons (qe_lst (qa_nil)) (qa_cons (qe_lst (qa_nil)) (qa_cons (qe_lst (qa_nil)) (qa_nil)))))) <|
    qss_cons (qs_for rfl PassesOwn.never (qi_range1 T.z_range (qa_cons (qe_var 5) (qa_nil))) (qg_name (i := 9) sc__law_plan.nd) (qss_one (qs_expr (qe_methH (i := 8) PySem.F.slot_list_append PySem.F.type_list_append mt_append append_v (ql_ix (ql_name 8) (qp_int)) (qa_cons (qe_call (fn_drop (ok__law_bounds T)) hr T.g__law_bounds T.F__law_bounds.kp T.b__law_bounds pass0 (qb_cons (qe_call (ok__law_pool T) (hr.mono (by decide)) T.g__law_pool T.F__law_pool.kp T.b__law_pool pass0 (qb_cons (qe_rd 0) (qb_cons (QP.lift (qp_op op_addA opAdd_v (qp_op op_addA opAdd_v (qp_var 1) (qp_int)) (qp_var 9))) (qb_nil)))) (qb_nil))) (qa_nil)))))) <|
    qss_cons (qs_for rfl PassesOwn.never (qi_range1 T.z_range (qa_cons (qe_var 6) (qa_nil))) (qg_name (i := 9) sc__law_plan.nd) (qss_one (qs_expr (qe_methH (i := 8) PySem.F.slot_list_append PySem.F.type_list_append mt_append append_v (ql_ix (ql_name 8) (qp_int)) (qa_cons (qe_call (fn_drop (ok__law_bounds T)) hr T.g__law_bounds T.F__law_bounds.kp T.b__law_bounds pass0 (qb_cons (qe_call (ok__law_pool T) (hr.mono (by decide)) T.g__law_pool T.F__law_pool.kp T.b__law_pool pass0 (qb_cons (qe_rd 0) (qb_cons (QP.lift (qp_op op_addA opAdd_v (qp_op op_addA opAdd_v (qp_var 1) (qp_int)) (qp_var 9))) (qb_nil)))) (qb_nil))) (qa_nil)))))) <|
    qss_cons (qs_for rfl PassesOwn.never (qi_range1 T.z_range (qa_cons (qe_var 7) (qa_nil))) (qg_name (i := 9) sc__law_plan.nd) (qss_one (qs_expr (qe_methH (i := 8) PySem.F.slot_list_append PySem.F.type_list_append mt_append append_v (ql_ix (ql_name 8) (qp_int)) (qa_cons (qe_call (fn_drop (ok__law_demand T)) hr T.g__law_demand T.F__law_demand.kp T.b__law_demand pass0 (qb_cons (qe_call (ok__law_pool T) (hr.mono (by decide)) T.g__law_pool T.F__law_pool.kp T.b__law_pool pass0 (qb_cons (qe_rd 0) (qb_cons (QP.lift (qp_op op_addA opAdd_v (qp_op op_addA opAdd_v (qp_var 1) (qp_int)) (qp_var 9))) (qb_nil)))) (qb_cons (qe_var 5) (qb_cons (qe_var 6) (qb_nil))))) (qa_nil)))))) <|
    qss_one (qs_ret (qe_tup (qa_cons (qe_preFz 8 (QP.lift (qp_ix (qp_var 8) (qp_int)))) (qa_cons (qe_preFz 8 (QP.lift (qp_ix (qp_var 8) (qp_int)))) (qa_cons (qe_preFz 8 (QP.lift (qp_ix (qp_var 8) (qp_int)))) (qa_nil))))))⟩
theorem ok_gap_demands (T : Tx K mg) : FnOk P w K mg base CX0 5 T.f_gap_demands T.d_gap_demands ["plan", "chain", "least", "greatest"] (spT K false (fun _ => none) 4 [] m_gap_demands_2) := by
  unfold m_gap_demands_2
  refine fnT (N := N_gap_demands) (ps := ["plan", "chain", "least", "greatest"]) (k := 4) T.F_gap_demands sc_gap_demands (by decide) (by decide) fun cdv A outer s H E hr => ?_
  exact ⟨_, qss_cons (qs_asg (qe_call (ok_chain_parts T) (hr.mono (by decide)) T.g_chain_parts T.F_chain_parts.kp T.b_chain_parts pass0 (qb_cons (qe_var 0) (qb_cons (qe_var 1) (qb_nil)))) (qg_tup rfl (qgs_cons (qg_name (i := 5) sc_gap_demands.nd) (qgs_cons (qg_name (i := 6) sc_gap_demands.nd) (qgs_nil))))) <|
    qss_tupRet 5 6 4 sc_gap_demands.nd (qk_name 5).pe (qk_name 6).pe (qk_name 4).pe (qe_call (ok_times T) (hr.mono (by decide)) T.g_times T.F_times.kp T.b_times pass0 (qb_cons (QP.lift (qp_glob T.km_LESS T.kr_LESS T.kf_LESS)) (qb_cons (qe_var 2) (qb_nil)))) (qe_lookO (qe_tup (qa_cons (qe_call (ok_turned_about T) hr T.g_turned_about T.F_turned_about.kp T.b_turned_about pass0 (qb_cons (qe_var 5) (qb_nil))) (qa_cons (qe_call (ok_turned_about T) hr T.g_turned_about T.F_turned_about.kp T.b_turned_about pass0 (qb_cons (qe_var 6) (qb_nil))) (qa_cons (qe_move 3) (qa_nil))))))⟩
theorem ok__law_good (T : Tx K mg) : FnOk P w K mg base CX0 6 T.f__law_good T.d__law_good ["plan", "chain", "least", "greatest"] (spT K false (fun _ => none) 4 [] m__law_good_10) := by
  unfold m__law_good_10
  refine fnT (N := N__law_good) (ps := ["plan", "chain", "least", "greatest"]) (k := 5) T.F__law_good sc__law_good (by decide) (by decide) fun cdv A outer s H E hr => ?_
  exact ⟨_, qss_cons (qs_set (i := 4) sc__law_good.nd (QE.fz (qe_lst (qa_cons (qe_call (ok__law_copy T) (hr.mono (by decide)) T.g__law_copy T.F__law_copy.kp T.b__law_copy pass0 (qb_cons (qe_var 0) (qb_nil))) (qa_cons (QE.fz (qe_callTy call_listOf opListOf_v opListOf_nox T.z_list bt_list (qa_cons (qe_var 1) (qa_nil)))) (qa_nil)))))) <|
    qss_cons (qs_set (i := 5) sc__law_good.nd (qe_call (ok__law_due T) (hr.mono (by decide)) T.g__law_due T.F__law_due.kp T.b__law_due pass0 (qb_cons (qe_var 0) (qb_cons (qe_var 1) (qb_cons (qe_var 2) (qb_cons (qe_var 3) (qb_nil))))))) <|
    qss_cons (qs_set (i := 6) sc__law_good.nd (qe_call (ok_gap_demands T) hr T.g_gap_demands T.F_gap_demands.kp T.b_gap_demands pass0 (qb_cons (QP.lift (qp_ix (qp_var 4) (qp_int))) (qb_cons (QP.lift (qp_ix (qp_var 4) (qp_int))) (qb_cons (qe_var 2) (qb_cons (qe_var 3) (qb_nil))))))) <|
    qss_cons (qs_if (qt_look (QW.qt (qw_or (qt_not (qt_val (QP.lift (qp_isi (n := "list") (qp_var 6) T.z_isinstance T.z_list bt_list)))) (qw_or (qt_pcmp (op_neA hr.units) opNe_v (qp_var 6) (qp_var 5) (nomark _)) (qw_or1 (qt_cmp (op_neA hr.units) opNe_v opNe_nox (qe_var 4) (QE.fz (qe_lst (qa_cons (qe_var 0) (qa_cons (qe_var 1) (qa_nil))))) (nomark _))))))) (qss_one (qs_ret (QP.lift (qp_bl)))) (qss_nil)) <|
    qss_cons (qs_lookS (n := 17) (js := [7, 16]) (qs_for rfl PassesOwn.never (qi_list (qe_var 6)) (qg_name (i := 7) sc__law_good.nd) (qss_cons (qs_if (QW.qt (qw_or (qt_not (qt_val (QP.lift (qp_isi (n := "tuple") (qp_var 7) T.z_isinstance T.z_tuple bt_tuple)))) (qw_or (qt_not (qt_val (QP.lift (qp_isi (n := "list") (qp_ix (qp_var 7) (qp_int)) T.z_isinstance T.z_list bt_list)))) (qw_or1 (qt_not (qt_val (QP.lift (qp_isi (n := "list") (qp_ix (qp_var 7) (qp_int)) T.z_isinstance T.z_list bt_list)))))))) (qss_one (qs_ret (QP.lift (qp_bl)))) (qss_nil)) <|
    qss_one (qs_if (qt_cmp (op_neA hr.units) opNe_v opNe_nox (QE.fz (qe_lcC (own := [("q", 16)]) (vs := [16]) rfl rfl sc__law_good.nd  (qi_list (QE.fz (qe_op op_addA opAdd_v opAdd_nox (QE.fz (qe_op op_addA opAdd_v opAdd_nox (QP.lift (qp_ix (qp_var 7) (qp_int))) (QP.lift (qp_ix (qp_var 7) (qp_int))))) (QE.fz (qe_lst (qa_cons (QP.lift (qp_ix (qp_var 7) (qp_int))) (qa_nil))))))) (blkOk_by (N := N__law_good) (sc := defScope s__law_good) (by decide +kernel)) (fun _ _ _ _ _ => ⟨_, qg_name (i := 16) sc__law_good.nd⟩) (fun _ _ _ _ _ => ⟨_, qts_one (qt_not (qt_val (qe_call (ok__law_is_fraction T) (hr.mono (by decide)) T.g__law_is_fraction T.F__law_is_fraction.kp T.b__law_is_fraction pass0 (qb_cons (qe_var 16) (qb_nil)))))⟩) (fun _ _ _ _ _ => ⟨_, qe_var 16⟩) s H)) (QE.fz (qe_lst (qa_nil))) (nomark _)) (qss_one (qs_ret (QP.lift (qp_bl)))) (qss_nil))))) <|
    qss_cons (qs_set (i := 8) sc__law_good.nd (qe_lookO (qe_call (ok_with_demands T) (hr.mono (by decide)) T.g_with_demands T.F_with_demands.kp T.b_with_demands pass0 (qb_cons (QP.lift (qp_ix (qp_var 4) (qp_int))) (qb_cons (qe_var 6) (qb_nil)))))) <|
    qss_cons (qs_if (qt_look (QW.qt (qw_or (qt_not (qt_val (QP.lift (qp_isi (n := "tuple") (qp_var 8) T.z_isinstance T.z_tuple bt_tuple)))) (qw_or (qt_look (qt_cmp (op_neA hr.units) opNe_v opNe_nox (qe_var 8) (qe_tup (qa_cons (QP.lift (qp_ix (qp_var 0) (qp_int))) (qa_cons (QP.lift (qp_ix (qp_var 0) (qp_int))) (qa_cons (QE.fz (qe_op op_addA opAdd_v opAdd_nox (QP.lift (qp_ix (qp_var 0) (qp_int))) (qe_var 5))) (qa_nil))))) (nomark _))) (qw_or1 (qt_cmp (op_neA hr.units) opNe_v opNe_nox (qe_var 4) (QE.fz (qe_lst (qa_cons (qe_var 0) (qa_cons (qe_var 1) (qa_nil))))) (nomark _))))))) (qss_one (qs_ret (QP.lift (qp_bl)))) (qss_nil)) <|
    qss_cons (qs_set (i := 9) sc__law_good.nd (qe_lst (qa_cons (qe_take (i := 6) (qk_ix (qk_ix (qk_name 6) (qp_int)) (qp_int))) (qa_cons (qe_take (i := 6) (qk_ix (qk_ix (qk_name 6) (qp_int)) (qp_int))) (qa_cons (qe_take (i := 6) (qk_ix (qk_ix (qk_name 6) (qp_int)) (qp_int))) (qa_cons (qe_take (i := 6) (qk_ix (qk_ix (qk_name 6) (qp_int)) (qp_int))) (qa_nil))))))) <|
    qss_cons (qs_thenFz 10 (qs_lookA (n := 17) (js := [10, 11]) 10 (qs_setLcC (i := 10) (own := [("some", 11)]) (vs := [11]) rfl rfl sc__law_good.nd rfl rfl (sw_true rfl rfl rfl (by decide +kernel)) (qi_list (qe_var 9)) (blkOk_by (N := N__law_good) (sc := defScope s__law_good) (by decide +kernel)) (fun _ _ _ _ _ => ⟨_, qg_name (i := 11) sc__law_good.nd⟩) (fun _ _ _ _ _ => ⟨_, qts_nil⟩) (fun _ _ _ _ _ => ⟨_, QP.lift (qp_callB call_lenA opLen_v T.z_len bt_len (qpa_cons (qp_var 11) (qpa_nil)))⟩) s H))) <|
    qss_cons (qs_forAd 9 6 (j := 11) rfl PassesOwn.never (qk_name 9).pe (qk_name 6).pe (QG.pg (pr := fun _ => false) (qg_name (i := 11) sc__law_good.nd)) (qss_one (qs_expr (qe_meth (i := 11) PySem.F.slot_list_append PySem.F.type_list_append mt_append append_v (ql_name 11) (qa_cons (qe_tup (qa_cons (QP.lift (qp_int)) (qa_cons (QP.lift (qp_int)) (qa_nil)))) (qa_nil)) (.inr fun _ _ => lHere_nil))))) <|
    qss_cons (qs_if (qt_look (qt_cmp (op_neA hr.units) opNe_v opNe_nox (QE.fz (qe_lcC (own := [("some", 11)]) (vs := [11]) rfl rfl sc__law_good.nd  (qi_list (qe_var 9)) (blkOk_by (N := N__law_good) (sc := defScope s__law_good) (by decide +kernel)) (fun _ _ _ _ _ => ⟨_, qg_name (i := 11) sc__law_good.nd⟩) (fun _ _ _ _ _ => ⟨_, qts_nil⟩) (fun _ _ _ _ _ => ⟨_, QP.lift (qp_callB call_lenA opLen_v T.z_len bt_len (qpa_cons (qp_var 11) (qpa_nil)))⟩) s H)) (QE.fz (qe_lcC (own := [("size", 15)]) (vs := [15]) rfl rfl sc__law_good.nd  (qi_list (qe_var 10)) (blkOk_by (N := N__law_good) (sc := defScope s__law_good) (by decide +kernel)) (fun _ _ _ _ _ => ⟨_, qg_name (i := 15) sc__law_good.nd⟩) (fun _ _ _ _ _ => ⟨_, qts_nil⟩) (fun _ _ _ _ _ => ⟨_, QP.lift (qp_op op_addA opAdd_v (qp_var 15) (qp_int))⟩) s H)) (nomark _))) (qss_one (qs_ret (QP.lift (qp_bl)))) (qss_nil)) <|
    qss_cons (qs_if (qt_look (qt_cmp (op_neA hr.units) opNe_v opNe_nox (qe_var 8) (qe_tup (qa_cons (QP.lift (qp_ix (qp_var 0) (qp_int))) (qa_cons (QP.lift (qp_ix (qp_var 0) (qp_int))) (qa_cons (QE.fz (qe_op op_addA opAdd_v opAdd_nox (QP.lift (qp_ix (qp_var 0) (qp_int))) (qe_var 5))) (qa_nil))))) (nomark _))) (qss_one (qs_ret (QP.lift (qp_bl)))) (qss_nil)) <|
    qss_cons (qs_expr (qe_meth (i := 8) PySem.F.slot_list_append PySem.F.type_list_append mt_append append_v (ql_ix (ql_name 8) (qp_int)) (qa_cons (qe_tup (qa_cons (QP.lift (qp_int)) (qa_cons (QP.lift (qp_int)) (qa_nil)))) (qa_nil)) (.inl rfl))) <|
    qss_cons (qs_expr (qe_meth (i := 8) PySem.F.slot_list_append PySem.F.type_list_append mt_append append_v (ql_ix (ql_name 8) (qp_int)) (qa_cons (qe_tup (qa_cons (QP.lift (qp_int)) (qa_cons (QP.lift (qp_int)) (qa_nil)))) (qa_nil)) (.inl rfl))) <|
    qss_cons (qs_forOT (n := 3) (js := [12, 13, 14]) rfl PassesOwn.never (qk_ix (qk_name 8) (qp_int)) (QG.pg (pr := fun _ => false) (qg_tup rfl (qgs_cons (qg_name (i := 12) sc__law_good.nd) (qgs_cons (qg_name (i := 13) sc__law_good.nd) (qgs_cons (qg_name (i := 14) sc__law_good.nd) (qgs_nil)))))) (qss_cons (qs_expr (qe_meth (i := 12) PySem.F.slot_list_append PySem.F.type_list_append mt_append append_v (ql_name 12) (qa_cons (qe_tup (qa_cons (QP.lift (qp_int)) (qa_cons (QP.lift (qp_int)) (qa_nil)))) (qa_nil)) (.inr fun _ _ => lHere_nil))) <|
    qss_one (qs_expr (qe_meth (i := 13) PySem.F.slot_list_append PySem.F.type_list_append mt_append append_v (ql_name 13) (qa_cons (qe_tup (qa_cons (QP.lift (qp_int)) (qa_cons (QP.lift (qp_int)) (qa_nil)))) (qa_nil)) (.inr fun _ _ => lHere_nil))))) <|
    qss_one (qs_ret (qe_and (qe_cmp (op_eqA hr.units) opEq_v opEq_nox (qe_var 4) (QE.fz (qe_lst (qa_cons (qe_var 0) (qa_cons (qe_var 1) (qa_nil))))) (nomark _)) (qe_one (qe_cmp (op_eqA hr.units) opEq_v opEq_nox (QE.fz (qe_call (ok_gap_demands T) hr T.g_gap_demands T.F_gap_demands.kp T.b_gap_demands pass0 (qb_cons (QP.lift (qp_ix (qp_var 4) (qp_int))) (qb_cons (QP.lift (qp_ix (qp_var 4) (qp_int))) (qb_cons (qe_var 2) (qb_cons (qe_var 3) (qb_nil))))))) (qe_var 5) (nomark _)))))⟩
theorem ok_law (T : Tx K mg) : FnOk P w K mg base CX0 7 T.f_law T.d_law ["script"] (spT K false (fun _ => none) 1 [] m_law_56) := by
  unfold m_law_56
  refine fnT (N := N_law) (ps := ["script"]) (k := 6) T.F_law sc_law (by decide) (by decide) fun cdv A outer s H E hr => ?_
  exact ⟨_, qss_cons (qs_set (i := 1) sc_law.nd (qe_call (ok__law_plan T) (hr.mono (by decide)) T.g__law_plan T.F__law_plan.kp T.b__law_plan pass0 (qb_cons (qe_rd 0) (qb_cons (QP.lift (qp_int)) (qb_cons (QP.lift (qp_int)) (qb_cons (QP.lift (qp_int)) (qb_nil))))))) <|
    qss_cons (qs_set (i := 2) sc_law.nd (QP.lift (qp_op op_addA opAdd_v (qp_callB call_lenA opLen_v T.z_len bt_len (qpa_cons (qp_ix (qp_var 1) (qp_int)) (qpa_nil))) (qp_callB call_lenA opLen_v T.z_len bt_len (qpa_cons (qp_ix (qp_var 1) (qp_int)) (qpa_nil)))))) <|
    qss_cons (qs_for rfl PassesOwn.never (qi_range2 T.z_range (qa_cons (QP.lift (qp_int)) (qa_cons (QP.lift (qp_callB (call_max2A rfl) opMax2_v T.z_max bt_max (qpa_cons (qp_int) (qpa_cons (qp_callB (call_min2A rfl) opMin2_v T.z_min bt_min (qpa_cons (qp_callB call_lenA opLen_v T.z_len bt_len (qpa_cons (qp_var 0) (qpa_nil))) (qpa_cons (qp_int) (qpa_nil)))) (qpa_nil))))) (qa_nil)))) (qg_name (i := 3) sc_law.nd) (qss_cons (qs_set (i := 4) sc_law.nd (qe_call (ok__law_pool T) (hr.mono (by decide)) T.g__law_pool T.F__law_pool.kp T.b__law_pool pass0 (qb_cons (qe_rd 0) (qb_cons (qe_var 3) (qb_nil))))) <|
    qss_one (qs_if (qt_not (qt_val (qe_call (ok__law_good T) hr T.g__law_good T.F__law_good.kp T.b__law_good pass0 (qb_cons (qe_var 1) (qb_cons (qe_call (ok__law_chain T) (hr.mono (by decide)) T.g__law_chain T.F__law_chain.kp T.b__law_chain pass0 (qb_io 4 (qb_cons (qe_var 2) (qb_nil)))) (qb_cons (qe_call (ok__law_fraction T) (hr.mono (by decide)) T.g__law_fraction T.F__law_fraction.kp T.b__law_fraction pass0 (qb_io 4 (qb_nil))) (qb_cons (qe_call (ok__law_fraction T) (hr.mono (by decide)) T.g__law_fraction T.F__law_fraction.kp T.b__law_fraction pass0 (qb_io 4 (qb_nil))) (qb_nil)))))))) (qss_one (qs_ret (QP.lift (qp_bl)))) (qss_nil)))) <|
    qss_one (qs_ret (qe_cmp (op_eqA hr.units) opEq_v opEq_nox (QE.fz (qe_call (ok_with_demands T) (hr.mono (by decide)) T.g_with_demands T.F_with_demands.kp T.b_with_demands pass0 (qb_cons (qe_call (ok__law_copy T) (hr.mono (by decide)) T.g__law_copy T.F__law_copy.kp T.b__law_copy pass0 (qb_cons (qe_var 1) (qb_nil))) (qb_cons (QE.fz (qe_lst (qa_nil))) (qb_nil))))) (qe_var 1) (nomark _)))⟩
end
theorem all_mk {l : PySem.W.OpenLaw} {w : World} {K : PySem.W.Frag} {h : Heap} {mg : Str → Option Value} {fa : Addr} (X : K.In h) (G : h.Ns mainGlobals mg) (hfa : mg "law" = some (.ref fa))
    {od0 an0 : Option Addr} {sl0 : Array (Option Value)} {oc0 kV0 dc0 pm0 cd0 ct0 : Value} {f0 : Addr} (a0 : PySem.W.nsIn K mainGlobals "divisor" = some (some (.ref f0))) (l0 : K.lookup f0 = some ⟨oc0, od0, .func (PySem.W.fnOf "divisor" "divisor" (defArgs s_divisor) (defBody s_divisor) (defScope s_divisor) .none kV0 dc0 pm0 an0 cd0 ct0), sl0⟩) (c0 : PySem.W.codeIn K cd0 "divisor" = true) (k0 : PySem.W.keepIn K (.ref f0) = true)
    {od1 an1 : Option Addr} {sl1 : Array (Option Value)} {oc1 kV1 dc1 pm1 cd1 ct1 : Value} {f1 : Addr} (a1 : PySem.W.nsIn K mainGlobals "chain_parts" = some (some (.ref f1))) (l1 : K.lookup f1 = some ⟨oc1, od1, .func (PySem.W.fnOf "chain_parts" "chain_parts" (defArgs s_chain_parts) (defBody s_chain_parts) (defScope s_chain_parts) .none kV1 dc1 pm1 an1 cd1 ct1), sl1⟩) (c1 : PySem.W.codeIn K cd1 "chain_parts" = true) (k1 : PySem.W.keepIn K (.ref f1) = true)
    {od2 an2 : Option Addr} {sl2 : Array (Option Value)} {oc2 kV2 dc2 pm2 cd2 ct2 : Value} {f2 : Addr} (a2 : PySem.W.nsIn K mainGlobals "with_demands" = some (some (.ref f2))) (l2 : K.lookup f2 = some ⟨oc2, od2, .func (PySem.W.fnOf "with_demands" "with_demands" (defArgs s_with_demands) (defBody s_with_demands) (defScope s_with_demands) .none kV2 dc2 pm2 an2 cd2 ct2), sl2⟩) (c2 : PySem.W.codeIn K cd2 "with_demands" = true) (k2 : PySem.W.keepIn K (.ref f2) = true)
    {od3 an3 : Option Addr} {sl3 : Array (Option Value)} {oc3 kV3 dc3 pm3 cd3 ct3 : Value} {f3 : Addr} (a3 : PySem.W.nsIn K mainGlobals "_law_cell_at" = some (some (.ref f3))) (l3 : K.lookup f3 = some ⟨oc3, od3, .func (PySem.W.fnOf "_law_cell_at" "_law_cell_at" (defArgs s__law_cell_at) (defBody s__law_cell_at) (defScope s__law_cell_at) .none kV3 dc3 pm3 an3 cd3 ct3), sl3⟩) (c3 : PySem.W.codeIn K cd3 "_law_cell_at" = true) (k3 : PySem.W.keepIn K (.ref f3) = true)
    {od4 an4 : Option Addr} {sl4 : Array (Option Value)} {oc4 kV4 dc4 pm4 cd4 ct4 : Value} {f4 : Addr} (a4 : PySem.W.nsIn K mainGlobals "_law_take" = some (some (.ref f4))) (l4 : K.lookup f4 = some ⟨oc4, od4, .func (PySem.W.fnOf "_law_take" "_law_take" (defArgs s__law_take) (defBody s__law_take) (defScope s__law_take) .none kV4 dc4 pm4 an4 cd4 ct4), sl4⟩) (c4 : PySem.W.codeIn K cd4 "_law_take" = true) (k4 : PySem.W.keepIn K (.ref f4) = true)
    {od5 an5 : Option Addr} {sl5 : Array (Option Value)} {oc5 kV5 dc5 pm5 cd5 ct5 : Value} {f5 : Addr} (a5 : PySem.W.nsIn K mainGlobals "_law_f" = some (some (.ref f5))) (l5 : K.lookup f5 = some ⟨oc5, od5, .func (PySem.W.fnOf "_law_f" "_law_f" (defArgs s__law_f) (defBody s__law_f) (defScope s__law_f) .none kV5 dc5 pm5 an5 cd5 ct5), sl5⟩) (c5 : PySem.W.codeIn K cd5 "_law_f" = true) (k5 : PySem.W.keepIn K (.ref f5) = true)
    {od6 an6 : Option Addr} {sl6 : Array (Option Value)} {oc6 kV6 dc6 pm6 cd6 ct6 : Value} {f6 : Addr} (a6 : PySem.W.nsIn K mainGlobals "_law_copy" = some (some (.ref f6))) (l6 : K.lookup f6 = some ⟨oc6, od6, .func (PySem.W.fnOf "_law_copy" "_law_copy" (defArgs s__law_copy) (defBody s__law_copy) (defScope s__law_copy) .none kV6 dc6 pm6 an6 cd6 ct6), sl6⟩) (c6 : PySem.W.codeIn K cd6 "_law_copy" = true) (k6 : PySem.W.keepIn K (.ref f6) = true)
    {od7 an7 : Option Addr} {sl7 : Array (Option Value)} {oc7 kV7 dc7 pm7 cd7 ct7 : Value} {f7 : Addr} (a7 : PySem.W.nsIn K mainGlobals "_law_due" = some (some (.ref f7))) (l7 : K.lookup f7 = some ⟨oc7, od7, .func (PySem.W.fnOf "_law_due" "_law_due" (defArgs s__law_due) (defBody s__law_due) (defScope s__law_due) .none kV7 dc7 pm7 an7 cd7 ct7), sl7⟩) (c7 : PySem.W.codeIn K cd7 "_law_due" = true) (k7 : PySem.W.keepIn K (.ref f7) = true)
    {od8 an8 : Option Addr} {sl8 : Array (Option Value)} {oc8 kV8 dc8 pm8 cd8 ct8 : Value} {f8 : Addr} (a8 : PySem.W.nsIn K mainGlobals "fraction" = some (some (.ref f8))) (l8 : K.lookup f8 = some ⟨oc8, od8, .func (PySem.W.fnOf "fraction" "fraction" (defArgs s_fraction) (defBody s_fraction) (defScope s_fraction) .none kV8 dc8 pm8 an8 cd8 ct8), sl8⟩) (c8 : PySem.W.codeIn K cd8 "fraction" = true) (k8 : PySem.W.keepIn K (.ref f8) = true)
    {od9 an9 : Option Addr} {sl9 : Array (Option Value)} {oc9 kV9 dc9 pm9 cd9 ct9 : Value} {f9 : Addr} (a9 : PySem.W.nsIn K mainGlobals "_law_pool" = some (some (.ref f9))) (l9 : K.lookup f9 = some ⟨oc9, od9, .func (PySem.W.fnOf "_law_pool" "_law_pool" (defArgs s__law_pool) (defBody s__law_pool) (defScope s__law_pool) .none kV9 dc9 pm9 an9 cd9 ct9), sl9⟩) (c9 : PySem.W.codeIn K cd9 "_law_pool" = true) (k9 : PySem.W.keepIn K (.ref f9) = true)
    {od10 an10 : Option Addr} {sl10 : Array (Option Value)} {oc10 kV10 dc10 pm10 cd10 ct10 : Value} {f10 : Addr} (a10 : PySem.W.nsIn K mainGlobals "_law_plus" = some (some (.ref f10))) (l10 : K.lookup f10 = some ⟨oc10, od10, .func (PySem.W.fnOf "_law_plus" "_law_plus" (defArgs s__law_plus) (defBody s__law_plus) (defScope s__law_plus) .none kV10 dc10 pm10 an10 cd10 ct10), sl10⟩) (c10 : PySem.W.codeIn K cd10 "_law_plus" = true) (k10 : PySem.W.keepIn K (.ref f10) = true)
    {od11 an11 : Option Addr} {sl11 : Array (Option Value)} {oc11 kV11 dc11 pm11 cd11 ct11 : Value} {f11 : Addr} (a11 : PySem.W.nsIn K mainGlobals "_law_fraction" = some (some (.ref f11))) (l11 : K.lookup f11 = some ⟨oc11, od11, .func (PySem.W.fnOf "_law_fraction" "_law_fraction" (defArgs s__law_fraction) (defBody s__law_fraction) (defScope s__law_fraction) .none kV11 dc11 pm11 an11 cd11 ct11), sl11⟩) (c11 : PySem.W.codeIn K cd11 "_law_fraction" = true) (k11 : PySem.W.keepIn K (.ref f11) = true)
    {od12 an12 : Option Addr} {sl12 : Array (Option Value)} {oc12 kV12 dc12 pm12 cd12 ct12 : Value} {f12 : Addr} (a12 : PySem.W.nsIn K mainGlobals "_law_many_times" = some (some (.ref f12))) (l12 : K.lookup f12 = some ⟨oc12, od12, .func (PySem.W.fnOf "_law_many_times" "_law_many_times" (defArgs s__law_many_times) (defBody s__law_many_times) (defScope s__law_many_times) .none kV12 dc12 pm12 an12 cd12 ct12), sl12⟩) (c12 : PySem.W.codeIn K cd12 "_law_many_times" = true) (k12 : PySem.W.keepIn K (.ref f12) = true)
    {od13 an13 : Option Addr} {sl13 : Array (Option Value)} {oc13 kV13 dc13 pm13 cd13 ct13 : Value} {f13 : Addr} (a13 : PySem.W.nsIn K mainGlobals "_law_is_fraction" = some (some (.ref f13))) (l13 : K.lookup f13 = some ⟨oc13, od13, .func (PySem.W.fnOf "_law_is_fraction" "_law_is_fraction" (defArgs s__law_is_fraction) (defBody s__law_is_fraction) (defScope s__law_is_fraction) .none kV13 dc13 pm13 an13 cd13 ct13), sl13⟩) (c13 : PySem.W.codeIn K cd13 "_law_is_fraction" = true) (k13 : PySem.W.keepIn K (.ref f13) = true)
    {od14 an14 : Option Addr} {sl14 : Array (Option Value)} {oc14 kV14 dc14 pm14 cd14 ct14 : Value} {f14 : Addr} (a14 : PySem.W.nsIn K mainGlobals "_law_chain" = some (some (.ref f14))) (l14 : K.lookup f14 = some ⟨oc14, od14, .func (PySem.W.fnOf "_law_chain" "_law_chain" (defArgs s__law_chain) (defBody s__law_chain) (defScope s__law_chain) .none kV14 dc14 pm14 an14 cd14 ct14), sl14⟩) (c14 : PySem.W.codeIn K cd14 "_law_chain" = true) (k14 : PySem.W.keepIn K (.ref f14) = true)
    {od15 an15 : Option Addr} {sl15 : Array (Option Value)} {oc15 kV15 dc15 pm15 cd15 ct15 : Value} {f15 : Addr} (a15 : PySem.W.nsIn K mainGlobals "times" = some (some (.ref f15))) (l15 : K.lookup f15 = some ⟨oc15, od15, .func (PySem.W.fnOf "times" "times" (defArgs s_times) (defBody s_times) (defScope s_times) .none kV15 dc15 pm15 an15 cd15 ct15), sl15⟩) (c15 : PySem.W.codeIn K cd15 "times" = true) (k15 : PySem.W.keepIn K (.ref f15) = true)
    {od16 an16 : Option Addr} {sl16 : Array (Option Value)} {oc16 kV16 dc16 pm16 cd16 ct16 : Value} {f16 : Addr} (a16 : PySem.W.nsIn K mainGlobals "_law_bounds" = some (some (.ref f16))) (l16 : K.lookup f16 = some ⟨oc16, od16, .func (PySem.W.fnOf "_law_bounds" "_law_bounds" (defArgs s__law_bounds) (defBody s__law_bounds) (defScope s__law_bounds) .none kV16 dc16 pm16 an16 cd16 ct16), sl16⟩) (c16 : PySem.W.codeIn K cd16 "_law_bounds" = true) (k16 : PySem.W.keepIn K (.ref f16) = true)
    {od17 an17 : Option Addr} {sl17 : Array (Option Value)} {oc17 kV17 dc17 pm17 cd17 ct17 : Value} {f17 : Addr} (a17 : PySem.W.nsIn K mainGlobals "_law_demand" = some (some (.ref f17))) (l17 : K.lookup f17 = some ⟨oc17, od17, .func (PySem.W.fnOf "_law_demand" "_law_demand" (defArgs s__law_demand) (defBody s__law_demand) (defScope s__law_demand) .none kV17 dc17 pm17 an17 cd17 ct17), sl17⟩) (c17 : PySem.W.codeIn K cd17 "_law_demand" = true) (k17 : PySem.W.keepIn K (.ref f17) = true)
    {od18 an18 : Option Addr} {sl18 : Array (Option Value)} {oc18 kV18 dc18 pm18 cd18 ct18 : Value} {f18 : Addr} (a18 : PySem.W.nsIn K mainGlobals "turned_about" = some (some (.ref f18))) (l18 : K.lookup f18 = some ⟨oc18, od18, .func (PySem.W.fnOf "turned_about" "turned_about" (defArgs s_turned_about) (defBody s_turned_about) (defScope s_turned_about) .none kV18 dc18 pm18 an18 cd18 ct18), sl18⟩) (c18 : PySem.W.codeIn K cd18 "turned_about" = true) (k18 : PySem.W.keepIn K (.ref f18) = true)
    {od19 an19 : Option Addr} {sl19 : Array (Option Value)} {oc19 kV19 dc19 pm19 cd19 ct19 : Value} {f19 : Addr} (a19 : PySem.W.nsIn K mainGlobals "_law_plan" = some (some (.ref f19))) (l19 : K.lookup f19 = some ⟨oc19, od19, .func (PySem.W.fnOf "_law_plan" "_law_plan" (defArgs s__law_plan) (defBody s__law_plan) (defScope s__law_plan) .none kV19 dc19 pm19 an19 cd19 ct19), sl19⟩) (c19 : PySem.W.codeIn K cd19 "_law_plan" = true) (k19 : PySem.W.keepIn K (.ref f19) = true)
    {od20 an20 : Option Addr} {sl20 : Array (Option Value)} {oc20 kV20 dc20 pm20 cd20 ct20 : Value} {f20 : Addr} (a20 : PySem.W.nsIn K mainGlobals "gap_demands" = some (some (.ref f20))) (l20 : K.lookup f20 = some ⟨oc20, od20, .func (PySem.W.fnOf "gap_demands" "gap_demands" (defArgs s_gap_demands) (defBody s_gap_demands) (defScope s_gap_demands) .none kV20 dc20 pm20 an20 cd20 ct20), sl20⟩) (c20 : PySem.W.codeIn K cd20 "gap_demands" = true) (k20 : PySem.W.keepIn K (.ref f20) = true)
    {od21 an21 : Option Addr} {sl21 : Array (Option Value)} {oc21 kV21 dc21 pm21 cd21 ct21 : Value} {f21 : Addr} (a21 : PySem.W.nsIn K mainGlobals "_law_good" = some (some (.ref f21))) (l21 : K.lookup f21 = some ⟨oc21, od21, .func (PySem.W.fnOf "_law_good" "_law_good" (defArgs s__law_good) (defBody s__law_good) (defScope s__law_good) .none kV21 dc21 pm21 an21 cd21 ct21), sl21⟩) (c21 : PySem.W.codeIn K cd21 "_law_good" = true) (k21 : PySem.W.keepIn K (.ref f21) = true)
    {od22 an22 : Option Addr} {sl22 : Array (Option Value)} {oc22 kV22 dc22 pm22 cd22 ct22 : Value} {f22 : Addr} (a22 : PySem.W.nsIn K mainGlobals "law" = some (some (.ref f22))) (l22 : K.lookup f22 = some ⟨oc22, od22, .func (PySem.W.fnOf "law" "law" (defArgs s_law) (defBody s_law) (defScope s_law) .none kV22 dc22 pm22 an22 cd22 ct22), sl22⟩) (c22 : PySem.W.codeIn K cd22 "law" = true) (k22 : PySem.W.keepIn K (.ref f22) = true)
    (z0 : PySem.W.nsIn K mainGlobals "abs" = some none)
    (z1 : PySem.W.nsIn K mainGlobals "bool" = some none)
    (z2 : PySem.W.nsIn K mainGlobals "int" = some none)
    (z3 : PySem.W.nsIn K mainGlobals "isinstance" = some none)
    (z4 : PySem.W.nsIn K mainGlobals "len" = some none)
    (z5 : PySem.W.nsIn K mainGlobals "list" = some none)
    (z6 : PySem.W.nsIn K mainGlobals "max" = some none)
    (z7 : PySem.W.nsIn K mainGlobals "min" = some none)
    (z8 : PySem.W.nsIn K mainGlobals "range" = some none)
    (z9 : PySem.W.nsIn K mainGlobals "tuple" = some none)
    {ka0 : Addr} {kod0 : Option Addr} {kn0 : Nat} {ksl0 : Array (Option Value)} {h0_0 h0_1 : Tok} (y0 : PySem.W.nsIn K mainGlobals "LESS" = some (some (.ref ka0))) (r0 : K.lookup ka0 = some ⟨.type "tuple", kod0, .seq #[.int (-1) h0_0, .int (1) h0_1] kn0, ksl0⟩) :
    ∃ fd : FuncData, (∀ (s : Shared) (v : Value), BindsTo s fd ⟨[v], []⟩ [("script", v)]) ∧ ∀ base : Heap, K.In base → base.Ns mainGlobals mg → FnOk l.prog w K mg base CX0 7 fa fd ["script"] (spT K false (fun _ => none) 1 [] m_law_56) := by
  have e := hfa.symm.trans (PySem.W.mg_of X G a22)
  cases e
  have F0 := fun_mk (st := s_divisor) l0 c0 k0
  have b0 := F0.binds (ps := ["one", "other"]) fun _ _ _ _ _ _ us hl => match us, hl with | [_, _], _ => rfl
  have F1 := fun_mk (st := s_chain_parts) l1 c1 k1
  have b1 := F1.binds (ps := ["plan", "chain"]) fun _ _ _ _ _ _ us hl => match us, hl with | [_, _], _ => rfl
  have F2 := fun_mk (st := s_with_demands) l2 c2 k2
  have b2 := F2.binds (ps := ["plan", "demands"]) fun _ _ _ _ _ _ us hl => match us, hl with | [_, _], _ => rfl
  have F3 := fun_mk (st := s__law_cell_at) l3 c3 k3
  have b3 := F3.binds (ps := ["script", "k"]) fun _ _ _ _ _ _ us hl => match us, hl with | [_, _], _ => rfl
  have F4 := fun_mk (st := s__law_take) l4 c4 k4
  have b4 := F4.binds (ps := ["pool", "many"]) fun _ _ _ _ _ _ us hl => match us, hl with | [_, _], _ => rfl
  have F5 := fun_mk (st := s__law_f) l5 c5 k5
  have b5 := F5.binds (ps := ["top", "bottom"]) fun _ _ _ _ _ _ us hl => match us, hl with | [_, _], _ => rfl
  have F6 := fun_mk (st := s__law_copy) l6 c6 k6
  have b6 := F6.binds (ps := ["plan"]) fun _ _ _ _ _ _ us hl => match us, hl with | [_], _ => rfl
  have F7 := fun_mk (st := s__law_due) l7 c7 k7
  have b7 := F7.binds (ps := ["plan", "chain", "least", "greatest"]) fun _ _ _ _ _ _ us hl => match us, hl with | [_, _, _, _], _ => rfl
  have F8 := fun_mk (st := s_fraction) l8 c8 k8
  have b8 := F8.binds (ps := ["top", "bottom"]) fun _ _ _ _ _ _ us hl => match us, hl with | [_, _], _ => rfl
  have F9 := fun_mk (st := s__law_pool) l9 c9 k9
  have b9 := F9.binds (ps := ["script", "k"]) fun _ _ _ _ _ _ us hl => match us, hl with | [_, _], _ => rfl
  have F10 := fun_mk (st := s__law_plus) l10 c10 k10
  have b10 := F10.binds (ps := ["q", "r"]) fun _ _ _ _ _ _ us hl => match us, hl with | [_, _], _ => rfl
  have F11 := fun_mk (st := s__law_fraction) l11 c11 k11
  have b11 := F11.binds (ps := ["pool"]) fun _ _ _ _ _ _ us hl => match us, hl with | [_], _ => rfl
  have F12 := fun_mk (st := s__law_many_times) l12 c12 k12
  have b12 := F12.binds (ps := ["pool"]) fun _ _ _ _ _ _ us hl => match us, hl with | [_], _ => rfl
  have F13 := fun_mk (st := s__law_is_fraction) l13 c13 k13
  have b13 := F13.binds (ps := ["q"]) fun _ _ _ _ _ _ us hl => match us, hl with | [_], _ => rfl
  have F14 := fun_mk (st := s__law_chain) l14 c14 k14
  have b14 := F14.binds (ps := ["pool", "many"]) fun _ _ _ _ _ _ us hl => match us, hl with | [_, _], _ => rfl
  have F15 := fun_mk (st := s_times) l15 c15 k15
  have b15 := F15.binds (ps := ["q", "r"]) fun _ _ _ _ _ _ us hl => match us, hl with | [_, _], _ => rfl
  have F16 := fun_mk (st := s__law_bounds) l16 c16 k16
  have b16 := F16.binds (ps := ["pool"]) fun _ _ _ _ _ _ us hl => match us, hl with | [_], _ => rfl
  have F17 := fun_mk (st := s__law_demand) l17 c17 k17
  have b17 := F17.binds (ps := ["pool", "sizes", "shims"]) fun _ _ _ _ _ _ us hl => match us, hl with | [_, _, _], _ => rfl
  have F18 := fun_mk (st := s_turned_about) l18 c18 k18
  have b18 := F18.binds (ps := ["parts"]) fun _ _ _ _ _ _ us hl => match us, hl with | [_], _ => rfl
  have F19 := fun_mk (st := s__law_plan) l19 c19 k19
  have b19 := F19.binds (ps := ["script", "first", "many", "most"]) fun _ _ _ _ _ _ us hl => match us, hl with | [_, _, _, _], _ => rfl
  have F20 := fun_mk (st := s_gap_demands) l20 c20 k20
  have b20 := F20.binds (ps := ["plan", "chain", "least", "greatest"]) fun _ _ _ _ _ _ us hl => match us, hl with | [_, _, _, _], _ => rfl
  have F21 := fun_mk (st := s__law_good) l21 c21 k21
  have b21 := F21.binds (ps := ["plan", "chain", "least", "greatest"]) fun _ _ _ _ _ _ us hl => match us, hl with | [_, _, _, _], _ => rfl
  have F22 := fun_mk (st := s_law) l22 c22 k22
  have b22 := F22.binds (ps := ["script"]) fun _ _ _ _ _ _ us hl => match us, hl with | [_], _ => rfl
  let T : Tx K mg := {
    f_divisor := _, d_divisor := _, F_divisor := F0, b_divisor := b0, g_divisor := PySem.W.mg_of X G a0,
    f_chain_parts := _, d_chain_parts := _, F_chain_parts := F1, b_chain_parts := b1, g_chain_parts := PySem.W.mg_of X G a1,
    f_with_demands := _, d_with_demands := _, F_with_demands := F2, b_with_demands := b2, g_with_demands := PySem.W.mg_of X G a2,
    f__law_cell_at := _, d__law_cell_at := _, F__law_cell_at := F3, b__law_cell_at := b3, g__law_cell_at := PySem.W.mg_of X G a3,
    f__law_take := _, d__law_take := _, F__law_take := F4, b__law_take := b4, g__law_take := PySem.W.mg_of X G a4,
    f__law_f := _, d__law_f := _, F__law_f := F5, b__law_f := b5, g__law_f := PySem.W.mg_of X G a5,
    f__law_copy := _, d__law_copy := _, F__law_copy := F6, b__law_copy := b6, g__law_copy := PySem.W.mg_of X G a6,
    f__law_due := _, d__law_due := _, F__law_due := F7, b__law_due := b7, g__law_due := PySem.W.mg_of X G a7,
    f_fraction := _, d_fraction := _, F_fraction := F8, b_fraction := b8, g_fraction := PySem.W.mg_of X G a8,
    f__law_pool := _, d__law_pool := _, F__law_pool := F9, b__law_pool := b9, g__law_pool := PySem.W.mg_of X G a9,
    f__law_plus := _, d__law_plus := _, F__law_plus := F10, b__law_plus := b10, g__law_plus := PySem.W.mg_of X G a10,
    f__law_fraction := _, d__law_fraction := _, F__law_fraction := F11, b__law_fraction := b11, g__law_fraction := PySem.W.mg_of X G a11,
    f__law_many_times := _, d__law_many_times := _, F__law_many_times := F12, b__law_many_times := b12, g__law_many_times := PySem.W.mg_of X G a12,
    f__law_is_fraction := _, d__law_is_fraction := _, F__law_is_fraction := F13, b__law_is_fraction := b13, g__law_is_fraction := PySem.W.mg_of X G a13,
    f__law_chain := _, d__law_chain := _, F__law_chain := F14, b__law_chain := b14, g__law_chain := PySem.W.mg_of X G a14,
    f_times := _, d_times := _, F_times := F15, b_times := b15, g_times := PySem.W.mg_of X G a15,
    f__law_bounds := _, d__law_bounds := _, F__law_bounds := F16, b__law_bounds := b16, g__law_bounds := PySem.W.mg_of X G a16,
    f__law_demand := _, d__law_demand := _, F__law_demand := F17, b__law_demand := b17, g__law_demand := PySem.W.mg_of X G a17,
    f_turned_about := _, d_turned_about := _, F_turned_about := F18, b_turned_about := b18, g_turned_about := PySem.W.mg_of X G a18,
    f__law_plan := _, d__law_plan := _, F__law_plan := F19, b__law_plan := b19, g__law_plan := PySem.W.mg_of X G a19,
    f_gap_demands := _, d_gap_demands := _, F_gap_demands := F20, b_gap_demands := b20, g_gap_demands := PySem.W.mg_of X G a20,
    f__law_good := _, d__law_good := _, F__law_good := F21, b__law_good := b21, g__law_good := PySem.W.mg_of X G a21,
    f_law := _, d_law := _, F_law := F22, b_law := b22, g_law := PySem.W.mg_of X G a22,
    z_abs := PySem.W.mg_none_of X G z0,
    z_bool := PySem.W.mg_none_of X G z1,
    z_int := PySem.W.mg_none_of X G z2,
    z_isinstance := PySem.W.mg_none_of X G z3,
    z_len := PySem.W.mg_none_of X G z4,
    z_list := PySem.W.mg_none_of X G z5,
    z_max := PySem.W.mg_none_of X G z6,
    z_min := PySem.W.mg_none_of X G z7,
    z_range := PySem.W.mg_none_of X G z8,
    z_tuple := PySem.W.mg_none_of X G z9,
    ku_LESS := _, kv_LESS := _, km_LESS := PySem.W.mg_of X G y0, kr_LESS := ((kc_tup (us := [.int (-1) h0_0, .int (1) h0_1]) r0 (.int (.int .nil)) (by simp))).rel, kf_LESS := ((kc_tup (us := [.int (-1) h0_0, .int (1) h0_1]) r0 (.int (.int .nil)) (by simp))).fz }
  exact ⟨PySem.W.fnOf "law" "law" (defArgs s_law) (defBody s_law) (defScope s_law) .none kV22 dc22 pm22 an22 cd22 ct22, fun s v => .of_eq rfl, fun base _ _ => ok_law T⟩
end Sr
namespace Sr
open PySem PySem.Spec PyProof.Rows L2 L3
@[simp] theorem e_modOk {i j : Int} : modOk i j = decide (j ≠ 0) := (rfl)
theorem div_loop {mt : MT} {mb : MS} (ht : ∀ a b : Int, mt [some (.d (.int a)), some (.d (.int b))] = .ok (!decide (b = 0), [some (.d (.int a)), some (.d (.int b))]))
    (hb : ∀ a b : Int, b ≠ 0 → mb [some (.d (.int a)), some (.d (.int b))] = .ok (.next [some (.d (.int b)), some (.d (.int (a.fmod b)))])) :
    ∀ (n : Nat) (a b : Int), b.natAbs ≤ n → ∃ g : Int, mWhile mt mb [some (.d (.int a)), some (.d (.int b))] = .ok (.next [some (.d (.int g)), some (.d (.int 0))]) ∧ g.natAbs = Int.gcd a b := by
  intro n
  induction n with
  | zero =>
    intro a b h
    have : b = 0 := by omega
    subst this
    exact ⟨a, by rw [mWhile_eq, ht]; simp, by simp⟩
  | succ n ih =>
    intro a b h
    by_cases z : b = 0
    · subst z
      exact ⟨a, by rw [mWhile_eq, ht]; simp, by simp⟩
    · have hm := fmod_abs a b z
      obtain ⟨g, e, eg⟩ := ih b (a.fmod b) (by omega)
      refine ⟨g, ?_, by rw [eg, gcd_fmod]⟩
      rw [mWhile_eq, ht]
      simp [z, hb, e]
theorem divisor_eq (a b : Int) : m_divisor [.d (.int a), .d (.int b)] = .ok (.d (.int (Int.gcd a b : Nat)), []) := by
  unfold m_divisor
  obtain ⟨g, e, eg⟩ := div_loop (mt := mTest (mLift (pBin opNe (pVar 1) (pC (.int 0))))) (mb := mPar 0 1 (mCons (mVar 1) (mCons (mLift (pBin opMod (pVar 0) (pVar 1))) (mNil)))) (fun a b => by simp) (fun a b h => by simp [h]) b.natAbs a b (Nat.le_refl _)
  simp [e, eg]
theorem low_eq {t b : Int} (hb : b ≠ 0) (hs : ib b ≤ 9000) : m_fraction [.d (.int t), .d (.int b)] = .ok (.d (fr (Rat.divInt t b)), []) := by
  have hd1 : divOk t (lowM t b) = true := divOk_ib (lowM_ne hb) (Nat.le_trans (lowM_ib hb) hs)
  have hd2 : divOk b (lowM t b) = true := divOk_ib (lowM_ne hb) (Nat.le_trans (lowM_ib hb) hs)
  have e := fr_low (t := t) hb
  unfold m_fraction
  unfold lowM at hd1 hd2 e
  by_cases h : b < 0
  · rw [if_pos h] at hd1 hd2 e
    simp [hb, divisor_eq, h] at hd1 hd2 e ⊢
    simp [hd1, hd2, e]
  · rw [if_neg h] at hd1 hd2 e
    simp [hb, divisor_eq, h, hd1, hd2, e]
theorem times_eqW {q r : Rat} (h : Ok2 q r) : m_times [.d (fr q), .d (fr r)] = .ok (.d (fr (q * r)), []) := by
  obtain ⟨hd, h⟩ := h
  have a := hq_num q
  have b := hq_num r
  have c := hq_denI q
  have d := hq_denI r
  have m := dq_bot q r
  have h1 : mulOk q.num r.num = true := mulOk_ib (by omega)
  have h3 : mulOk q.den r.den = true := mulOk_ib (by omega)
  have nz : (q.den : Int) * r.den ≠ 0 := by
    have := q.den_nz
    have := r.den_nz
    exact Int.mul_ne_zero (by omega) (by omega)
  unfold m_times
  rw [fr_def, fr_def]
  simp [h1, h3, low_eq nz (by omega), mul_divInt q r]
end Sr
namespace Sr
open PySem PySem.Spec PyProof.Rows L2 L3
@[simp] theorem e_powOk {i j : Int} : powOk i j = decide (0 ≤ j ∧ j ≤ 1000000 ∧ i.natAbs < 2 ^ 64) := (rfl)
@[simp] theorem mulOk_rS {i j : Int} (h : j.natAbs < 2 ^ 64) : mulOk i j = true := mulOk_r h
@[simp] theorem mulOk_lS {i j : Int} (h : i.natAbs < 2 ^ 64) : mulOk i j = true := mulOk_l h
@[simp] theorem divOk_S {i j : Int} (h0 : j ≠ 0) (h : j.natAbs < 2 ^ 64) : divOk i j = true := divOk_ib h0 (by
  have : ib j ≤ 64 := ib_le.mpr h
  omega)
@[simp] theorem e_ixN0 {m : Nat} (h : 0 < m) : ixN m 0 = some 0 := e_ixN (n := 0) h
@[simp] theorem e_ixN1 {m : Nat} (h : 1 < m) : ixN m 1 = some 1 := e_ixN (n := 1) h
@[simp] theorem e_ixN2 {m : Nat} (h : 2 < m) : ixN m 2 = some 2 := e_ixN (n := 2) h
@[simp] theorem e_ixN3 {m : Nat} (h : 3 < m) : ixN m 3 = some 3 := e_ixN (n := 3) h
theorem range3 : rangeItems 0 3 = [.d (.int 0), .d (.int 1), .d (.int 2)] := rfl
@[simp] theorem kit_tt : kitB "tuple" "tuple" = some true := by decide
@[simp] theorem kit_ii : kitB "int" "int" = some true := by decide
@[simp] theorem kit_ib : kitB "int" "bool" = some false := by decide
@[simp] theorem kit_bb : kitB "bool" "bool" = some true := by decide
@[simp] theorem kit_bi : kitB "bool" "int" = some true := by decide
@[simp] theorem kit_ll : kitB "list" "list" = some true := by decide
@[simp] theorem kit_lt : kitB "list" "tuple" = some false := by decide
@[simp] theorem kit_tl : kitB "tuple" "list" = some false := by decide
@[simp] theorem opEq_d {x y : PyData} (h1 : pl x) (h2 : pl y) : opEq (.d x) (.d y) = .ok (.v (.d (.bool (decide (x = y))))) := opEq_pl (by simp) (by simp) h1 h2
@[simp] theorem opNe_d {x y : PyData} (h1 : pl x) (h2 : pl y) : opNe (.d x) (.d y) = .ok (.v (.d (.bool (!decide (x = y))))) := opNe_pl (by simp) (by simp) h1 h2
@[simp] theorem pl_nil : pl (.list []) := by simp [pl, plk, plkAll]
@[simp] theorem pl_int {i : Int} : pl (.int i) := by simp [pl, plk]
@[simp] theorem pl_frS {q : Rat} : pl (fr q) := pl_fr
@[simp] theorem pl_frsS {q : List Rat} : pl (frs q) := pl_frs
theorem pick {l : List T} {v : Int} {α : Type} {f : T → R α} {P : α → Prop} {E : Str → Prop} (h0 : 0 ≤ v) (h1 : v < l.length) (k : ∀ x ∈ l, Then (f x) P E) : Then ((ofO (atI l v)).bind f) P E := by
  obtain ⟨n, rfl⟩ : ∃ n : Nat, v = n := ⟨v.toNat, by omega⟩
  have hn : n < l.length := by omega
  rw [e_atIn, List.getElem?_eq_getElem hn]
  exact k _ (List.getElem_mem hn)
theorem idx2 {a b v : Int} {α : Type} {f : T → R α} {P : α → Prop} {E : Str → Prop} (h0 : 0 ≤ v) (h1 : v < 2) (k : ∀ z : Int, z = a ∨ z = b → Then (f (.d (.int z))) P E) :
    Then ((ofO (atI [T.d (.int a), T.d (.int b)] v)).bind f) P E := by
  have : v = 0 ∨ v = 1 := by omega
  rcases this with rfl | rfl
  · exact k a (.inl rfl)
  · exact k b (.inr rfl)
theorem idx3 {a b c v : Int} {α : Type} {f : T → R α} {P : α → Prop} {E : Str → Prop} (h0 : 0 ≤ v) (h1 : v < 3) (k : ∀ z : Int, z = a ∨ z = b ∨ z = c → Then (f (.d (.int z))) P E) :
    Then ((ofO (atI [T.d (.int a), T.d (.int b), T.d (.int c)] v)).bind f) P E := by
  have : v = 0 ∨ v = 1 ∨ v = 2 := by omega
  rcases this with rfl | rfl | rfl
  · exact k a (.inl rfl)
  · exact k b (.inr (.inl rfl))
  · exact k c (.inr (.inr rfl))
theorem idx4 {a b c d v : Int} {α : Type} {f : T → R α} {P : α → Prop} {E : Str → Prop} (h0 : 0 ≤ v) (h1 : v < 4) (k : ∀ z : Int, z = a ∨ z = b ∨ z = c ∨ z = d → Then (f (.d (.int z))) P E) :
    Then ((ofO (atI [T.d (.int a), T.d (.int b), T.d (.int c), T.d (.int d)] v)).bind f) P E := by
  have : v = 0 ∨ v = 1 ∨ v = 2 ∨ v = 3 := by omega
  rcases this with rfl | rfl | rfl | rfl
  · exact k a (.inl rfl)
  · exact k b (.inr (.inl rfl))
  · exact k c (.inr (.inr (.inl rfl)))
  · exact k d (.inr (.inr (.inr rfl)))
def deckT (cells : List Int) (b n : Int) : T := .ol [.ol (cells.map fun c => .d (.int c)), .d (.int b), .d (.int n)]
def Deck (d : T) : Prop := ∃ cells b n, d = deckT cells b n ∧ cells ≠ []
theorem fmod_nat {n : Int} {m : Nat} (h : 0 < m) : ∃ k : Nat, n.fmod (m : Int) = (k : Int) ∧ k < m := by
  have h1 := Int.fmod_nonneg_of_pos n (b := (m : Int)) (by omega)
  have h2 := Int.fmod_lt_of_pos n (b := (m : Int)) (by omega)
  exact ⟨(n.fmod (m : Int)).toNat, by omega, by omega⟩
def Drawn (many : Int) (r : T × List T) : Prop := ∃ v d', r = (.d (.int v), [d']) ∧ 0 ≤ v ∧ v < many ∧ Deck d'
theorem draw_spec {d : T} {many : Int} {E : Str → Prop} (hd : Deck d) (hm : 0 < many) (hb : many.natAbs < 2 ^ 64) : Then (m__law_draw [d, .d (.int many)]) (Drawn many) E := by
  obtain ⟨cells, b, n, rfl, hc⟩ := hd
  have hl : 0 < cells.length := List.length_pos_iff.mpr hc
  obtain ⟨k, hk, hk2⟩ := fmod_nat (n := n) hl
  have h1 : (cells.map fun c => T.d (.int c))[k]? = some (.d (.int cells[k])) := by
    rw [List.getElem?_map, List.getElem?_eq_getElem hk2]; rfl
  have h2 : (cells.length : Int) ≠ 0 := by omega
  have hf : ∀ x : Int, 0 ≤ x.fmod many ∧ x.fmod many < many := fun x => ⟨Int.fmod_nonneg_of_pos x hm, Int.fmod_lt_of_pos x hm⟩
  have hm0 : many ≠ 0 := by omega
  have hs : ∀ x : Int, ((x.fmod 1000000033).natAbs < 2 ^ 64) := fun x => by
    have := Int.fmod_nonneg_of_pos x (b := 1000000033) (by omega)
    have := Int.fmod_lt_of_pos x (b := 1000000033) (by omega)
    omega
  unfold m__law_draw deckT
  by_cases hz : b = 0
  · subst hz
    simp [h2, hc, hk, e_atIn, h1, hm0, hb, e_ixN hk2]
    refine ⟨_, _, rfl, (hf _).1, (hf _).2, cells.set k (cells[k].fdiv many), 0, n + 1, ?_, ?_⟩
    · unfold deckT
      simp [List.map_set]
    · simpa using hc
  · simp [h2, hc, hk, e_atIn, h1, hm0, hz, hs]
    exact ⟨_, _, rfl, (hf _).1, (hf _).2, cells, b, n + 1, rfl, hc⟩
theorem draw_step {d : T} {many : Int} {α : Type} {f : T × List T → R α} {P : α → Prop} {E : Str → Prop} (hd : Deck d) (hm : 0 < many) (hb : many.natAbs < 2 ^ 64)
    (k : ∀ v d', 0 ≤ v → v < many → v.natAbs < 2 ^ 64 → Deck d' → Then (f (.d (.int v), [d'])) P E) : Then ((m__law_draw [d, .d (.int many)]).nx.bind f) P E := by
  refine then_bindI (then_nx (draw_spec hd hm hb)) ?_
  rintro _ ⟨v, d', rfl, h0, h1, hd'⟩
  exact k v d' h0 h1 (by omega) hd'
end Sr
namespace Sr
open PySem PySem.Spec PyProof.Rows L2 L3
theorem eq_of_then {α : Type} {r : R α} {a : α} (h : Then r (fun x => x = a) (fun _ => False)) : r = .ok a := by
  cases r with
  | ok x => rw [then_ok] at h; rw [h]
  | exc c => exact h.elim
  | bad => exact h.elim
theorem lcF {α : Type} {g : MG} {mt : MT} {me : MEx} {vs : List Nat} {xs : List α} {enc out : α → PyData} {p : α → Bool} {W ρ : En} (hlen : xs.length ≤ 10000) (hρ : wipeE ρ vs = W)
    (h : ∀ x ∈ xs, ∃ W', g (T.d (enc x)) W = some W' ∧ mt W' = .ok (p x, W') ∧ (p x = true → me W' = .ok (T.d (out x), W')) ∧ wipeE W' vs = W) :
    ∃ ρ', mLcLoop g mt me vs (xs.map (T.d ∘ enc)) [] ρ = .ok ((xs.filter p).map (T.d ∘ out), ρ') ∧ wipeE ρ' vs = W := by
  have key : ∀ (xs : List α) (acc : List T) (ρ : En), acc.length + xs.length ≤ 10000 → wipeE ρ vs = W → (∀ x ∈ xs, ∃ W', g (T.d (enc x)) W = some W' ∧ mt W' = .ok (p x, W') ∧ (p x = true → me W' = .ok (T.d (out x), W')) ∧ wipeE W' vs = W) →
      ∃ ρ', mLcLoop g mt me vs (xs.map (T.d ∘ enc)) acc ρ = .ok (acc ++ (xs.filter p).map (T.d ∘ out), ρ') ∧ wipeE ρ' vs = W := by
    intro xs
    induction xs with
    | nil => intro acc ρ _ hρ _; exact ⟨ρ, by simp, hρ⟩
    | cons x xs ih =>
      intro acc ρ hl hρ h
      have hl' : acc.length + (xs.length + 1) ≤ 10000 := by simpa using hl
      have hs : decide (acc.length < sLine) = true := decide_eq_true (by unfold sLine; omega)
      obtain ⟨W', g1, gt, g2, g3⟩ := h x List.mem_cons_self
      rw [List.map_cons, e_lcC, hρ]
      cases hp : p x with
      | true =>
        obtain ⟨ρ', e1, e2⟩ := ih (acc ++ [T.d (out x)]) W' (by simp; omega) g3 fun y hy => h y (List.mem_cons_of_mem _ hy)
        refine ⟨ρ', ?_, e2⟩
        simp only [Function.comp_apply, g1, ofO_some, bind_okS, e_lcL1, gt, hp, e_lcL2, if_true, hs, guard_t, g2 hp, e_lcL3]
        rw [e1]
        simp [hp]
      | false =>
        obtain ⟨ρ', e1, e2⟩ := ih acc W' (by omega) g3 fun y hy => h y (List.mem_cons_of_mem _ hy)
        refine ⟨ρ', ?_, e2⟩
        simp only [Function.comp_apply, g1, ofO_some, bind_okS, e_lcL1, gt, hp, e_lcL2, Bool.false_eq_true, if_false]
        rw [e1]
        simp [hp]
  have := key xs [] ρ (by simpa using hlen) hρ h
  simpa using this
theorem lcF_eq {α : Type} {g : MG} {mt : MT} {me : MEx} {vs : List Nat} {xs : List α} {enc out : α → PyData} {p : α → Bool} {W ρ : En} {β : Type} {f : List T × En → R β} {r : R β} (hlen : xs.length ≤ 10000) (hρ : wipeE ρ vs = W)
    (h : ∀ x ∈ xs, ∃ W', g (T.d (enc x)) W = some W' ∧ mt W' = .ok (p x, W') ∧ (p x = true → me W' = .ok (T.d (out x), W')) ∧ wipeE W' vs = W)
    (k : ∀ ρ', wipeE ρ' vs = W → f ((xs.filter p).map (T.d ∘ out), ρ') = r) : (mLcLoop g mt me vs (xs.map (T.d ∘ enc)) [] ρ).bind f = r := by
  obtain ⟨ρ', e1, e2⟩ := lcF hlen hρ h
  rw [e1]
  exact k ρ' e2
theorem lcU_eq {α : Type} {g : MG} {me : MEx} {vs : List Nat} {xs : List α} {enc out : α → PyData} {W ρ : En} {β : Type} {f : List T × En → R β} {r : R β} (hlen : xs.length ≤ 10000) (hρ : wipeE ρ vs = W)
    (h : ∀ x ∈ xs, ∃ W', g (T.d (enc x)) W = some W' ∧ me W' = .ok (T.d (out x), W') ∧ wipeE W' vs = W)
    (k : ∀ ρ', wipeE ρ' vs = W → f (xs.map (T.d ∘ out), ρ') = r) : (mLcLoop g mtYes me vs (xs.map (T.d ∘ enc)) [] ρ).bind f = r :=
  lcF_eq (p := fun _ => true) (out := out) hlen hρ (fun x hx => by
    obtain ⟨W', a, b, c⟩ := h x hx
    exact ⟨W', a, rfl, fun _ => b, c⟩) fun ρ' e => by
    rw [show xs.filter (fun _ => true) = xs from List.filter_eq_self.mpr fun _ _ => rfl]
    exact k ρ' e
end Sr
namespace L4
open PySem PySem.Spec PyProof.Rows L2 L3
abbrev Env := L3.Env
def Rf {X α : Type} (r : R X) (t : R α) (Rel : α → X → Prop) : Prop := match t with
  | .bad => True
  | .exc c => r = .exc c
  | .ok a => ∃ x, r = .ok x ∧ Rel a x
theorem Rf.bind {X Y α β : Type} {r : R X} {t : R α} {Rel : α → X → Prop} {k : X → R Y} {k' : α → R β} {Rel' : β → Y → Prop} (h : Rf r t Rel) (hk : ∀ a x, Rel a x → Rf (k x) (k' a) Rel') : Rf (r.bind k) (t.bind k') Rel' := by
  cases t with
  | bad => exact trivial
  | exc c =>
    have : r = .exc c := h
    subst this
    exact rfl
  | ok a =>
    obtain ⟨x, e, hr⟩ := h
    subst e
    exact hk a x hr
theorem Rf.then {X α : Type} {r : R X} {t : R α} {Rel : α → X → Prop} {P : α → Prop} {E : Str → Prop} (h : Rf r t Rel) (k : Then t P E) : Then r (fun x => ∃ a, Rel a x ∧ P a) E := by
  cases t with
  | bad => exact k.elim
  | exc c =>
    have : r = .exc c := h
    subst this
    exact k
  | ok a =>
    obtain ⟨x, e, hr⟩ := h
    subst e
    exact ⟨a, hr, k⟩
theorem Rf.mono {X α : Type} {r : R X} {t : R α} {Rel Rel' : α → X → Prop} (h : Rf r t Rel) (k : ∀ a x, Rel a x → Rel' a x) : Rf r t Rel' := by
  cases t with
  | bad => exact trivial
  | exc c => exact h
  | ok a => obtain ⟨x, e, hr⟩ := h; exact ⟨x, e, k _ _ hr⟩
theorem Rf.nx {X α : Type} {r : R X} {t : R α} {Rel : α → X → Prop} (h : Rf r t Rel) : Rf r.nx t.nx Rel := by
  cases t with
  | bad => exact trivial
  | exc c => exact trivial
  | ok a => obtain ⟨x, e, hr⟩ := h; exact ⟨x, by rw [e]; rfl, hr⟩
theorem Rf.of_then {X α : Type} {r : R X} {t : R α} {Rel : α → X → Prop} {P : α → Prop} (h : Rf r t Rel) (k : Then t P (fun _ => True)) : Rf r t (fun a x => Rel a x ∧ P a) := by
  cases t with
  | bad => exact trivial
  | exc c => exact h
  | ok a => obtain ⟨x, e, hr⟩ := h; exact ⟨x, e, hr, k⟩
abbrev Pt := List (Option T)
def Mt : Pt → Env → Prop
  | [], [] => True
  | none :: p, _ :: ρ => Mt p ρ
  | some t :: p, o :: ρ => o = some t ∧ Mt p ρ
  | _, _ => False
theorem Mt.len : ∀ {p : Pt} {ρ : Env}, Mt p ρ → p.length = ρ.length
  | [], [], _ => rfl
  | none :: p, _ :: ρ, h => by
    have := Mt.len (p := p) (ρ := ρ) h
    simp [this]
  | some t :: p, o :: ρ, h => by
    have := Mt.len (p := p) (ρ := ρ) h.2
    simp [this]
  | [], _ :: _, h => h.elim
  | none :: _, [], h => h.elim
  | some _ :: _, [], h => h.elim
theorem Mt.get : ∀ {p : Pt} {ρ : Env} {i : Nat} {t : T}, Mt p ρ → p[i]? = some (some t) → ρ[i]? = some (some t)
  | none :: p, _ :: ρ, 0, t, h, e => by simp at e
  | none :: p, _ :: ρ, i + 1, t, h, e => by
    have : Mt p ρ := h
    simpa using this.get (i := i) (by simpa using e)
  | some u :: p, o :: ρ, 0, t, h, e => by
    have h1 : o = some u := h.1
    simp at e
    simp [h1, e]
  | some u :: p, o :: ρ, i + 1, t, h, e => by
    have : Mt p ρ := h.2
    simpa using this.get (i := i) (by simpa using e)
  | [], [], i, t, h, e => by simp at e
  | [], _ :: _, _, _, h, _ => h.elim
  | none :: _, [], _, _, h, _ => h.elim
  | some _ :: _, [], _, _, h, _ => h.elim
theorem Mt.set : ∀ {p : Pt} {ρ : Env} {i : Nat} {t : T}, Mt p ρ → Mt (p.set i (some t)) (ρ.set i (some t))
  | none :: p, o :: ρ, 0, t, h => ⟨rfl, h⟩
  | none :: p, o :: ρ, i + 1, t, h => (show Mt p ρ from h).set (i := i)
  | some u :: p, o :: ρ, 0, t, h => ⟨rfl, h.2⟩
  | some u :: p, o :: ρ, i + 1, t, h => ⟨h.1, h.2.set (i := i)⟩
  | [], [], i, t, h => trivial
  | [], _ :: _, _, _, h => h.elim
  | none :: _, [], _, _, h => h.elim
  | some _ :: _, [], _, _, h => h.elim
theorem Mt.unset : ∀ {p : Pt} {ρ : Env} {i : Nat} {x : Option T}, Mt p ρ → Mt (p.set i none) (ρ.set i x)
  | none :: p, o :: ρ, 0, t, h => h
  | none :: p, o :: ρ, i + 1, t, h => (show Mt p ρ from h).unset (i := i)
  | some u :: p, o :: ρ, 0, t, h => h.2
  | some u :: p, o :: ρ, i + 1, t, h => ⟨h.1, h.2.unset (i := i)⟩
  | [], [], i, t, h => trivial
  | [], _ :: _, _, _, h => h.elim
  | none :: _, [], _, _, h => h.elim
  | some _ :: _, [], _, _, h => h.elim
def Wk : Pt → Pt → Prop
  | [], [] => True
  | _ :: p, none :: q => Wk p q
  | o :: p, some t :: q => o = some t ∧ Wk p q
  | _, _ => False
theorem Wk.mt : ∀ {p q : Pt} {ρ : Env}, Wk p q → Mt p ρ → Mt q ρ
  | [], [], _, _, h => h
  | o :: p, none :: q, x :: ρ, w, h => by
    cases o with
    | none => exact Wk.mt (q := q) w h
    | some t => exact Wk.mt (q := q) w h.2
  | o :: p, some t :: q, x :: ρ, w, h => by
    obtain ⟨e, w⟩ := w
    subst e
    exact ⟨h.1, Wk.mt w h.2⟩
  | none :: p, none :: q, [], w, h => h.elim
  | some _ :: p, none :: q, [], w, h => h.elim
  | none :: p, some _ :: q, [], w, h => h.elim
  | some _ :: p, some _ :: q, [], w, h => h.elim
  | [], _ :: _, _, w, _ => by cases ‹Option T› <;> exact w.elim
  | _ :: _, [], _, w, _ => by exact w.elim
theorem Mt.wipe {p : Pt} {ρ : Env} (h : Mt p ρ) : ∀ {vs : List Nat}, Mt (wipeE p vs) (wipeE ρ vs)
  | [] => h
  | v :: vs => (h.wipe (vs := vs)).unset
def J {Y α : Type} (p : Pt) (G : Env → R Y) (t : R α) (Rel : α → Y → Prop) : Prop := ∀ ρ, Mt p ρ → Rf (G ρ) t Rel
section
variable {Y α β γ : Type}
def B (m : MEx) (K : T → Env → R Y) : Env → R Y := fun ρ => (m ρ).bind fun x => K x.1 x.2
def Bp (m : MP) (K : T → Env → R Y) : Env → R Y := fun ρ => (ofO (m ρ)).bind fun x => K x ρ
def Ba (m : MA) (K : List T → Env → R Y) : Env → R Y := fun ρ => (m ρ).bind fun x => K x.1 x.2
def Bpa (m : MPA) (K : List T → Env → R Y) : Env → R Y := fun ρ => (ofO (m ρ)).bind fun x => K x ρ
def Bb (m : MB) (K : List (Option T) → Env → R Y) : Env → R Y := fun ρ => (m ρ).bind fun x => K x.1 x.2
def Bt (m : MT) (K : Bool → Env → R Y) : Env → R Y := fun ρ => (m ρ).bind fun x => K x.1 x.2
def Bi (m : MI) (K : List T → Env → R Y) : Env → R Y := fun ρ => (m ρ).bind fun x => K x.1 x.2
def Bo (r : R RV) (K : T → Env → R Y) : Env → R Y := fun ρ => r.bind fun z => K z.toT ρ
def Bv (r : R RV) (K : T → Env → R Y) : Env → R Y := fun ρ => (ofO (okV r)).bind fun v => K v ρ
def Bg (g : MG) (v : T) (K : Env → R Y) : Env → R Y := fun ρ => (ofO (g v ρ)).bind K
def Bgs (g : MGs) (v : List T) (K : Env → R Y) : Env → R Y := fun ρ => (ofO (g v ρ)).bind K
structure SK (Y : Type) where
  nx : Env → R Y
  rt : T → Env → R Y
  bk : Env → R Y
  ct : Env → R Y
def SK.ap (κ : SK Y) : Out → R Y
  | .next ρ => κ.nx ρ
  | .ret t ρ => κ.rt t ρ
  | .brk ρ => κ.bk ρ
  | .cont ρ => κ.ct ρ
def Bs (s : MS) (κ : SK Y) : Env → R Y := fun ρ => (s ρ).bind κ.ap
def iteG (b : Bool) (G1 G2 : Env → R Y) : Env → R Y := fun ρ => if b = true then G1 ρ else G2 ρ
variable {p : Pt} {t t2 : R α} {Rel : α → Y → Prop} {K : T → Env → R Y} {i : Nat}
theorem J.eq {G G' : Env → R Y} (e : G = G') (h : J p G' t Rel) : J p G t Rel := by rw [e]; exact h
theorem J.wk {q : Pt} {G : Env → R Y} (w : Wk p q) (h : J q G t Rel) : J p G t Rel := fun ρ m => h ρ (w.mt m)
theorem x_d {v : PyData} (e : p[i]? = some (some (.d v))) (h : J p (K (.d v)) t Rel) : J p (B (mVar i) K) t Rel := fun ρ m => by
  show Rf ((mVar i ρ).bind _) t Rel
  rw [e_mVar, m.get e]
  exact h ρ m
theorem x_fz {u : T} {v : PyData} (e : p[i]? = some (some u)) (f : u.fz = some v) (h : J (p.set i (some (.d v))) (K (.d v)) t Rel) : J p (B (mVar i) K) t Rel := fun ρ m => by
  show Rf ((mVar i ρ).bind _) t Rel
  rw [e_mVar, m.get e]
  have hs := h _ (m.set (i := i) (t := .d v))
  cases u with
  | d x =>
    simp at f
    subst f
    have : ρ.set i (some (T.d x)) = ρ := by
      have hg := m.get e
      obtain ⟨hi, hx⟩ := List.getElem?_eq_some_iff.mp hg
      rw [← hx]; simp
    rw [this] at hs
    exact hs
  | ol ts => rw [e_varKo, f]; exact hs
  | ot ts => rw [e_varKt, f]; exact hs
  | od _ _ => simp [T.fz] at f
  | fd _ _ _ => simp [T.fz] at f
  | fk _ _ _ => simp [T.fz] at f
  | dt _ _ _ => simp [T.fz] at f
  | no _ => simp [T.fz] at f
  | hl => simp [T.fz] at f
  | rd _ => simp [T.fz] at f
  | ex _ => simp [T.fz] at f
  | ob _ _ _ => simp [T.fz] at f
theorem x_move {u : T} (e : p[i]? = some (some u)) (h : J (p.set i none) (K u) t Rel) : J p (B (mMove i) K) t Rel := fun ρ m => by
  show Rf ((mMove i ρ).bind _) t Rel
  rw [e_mMove, m.get e]
  exact h _ m.unset
theorem x_rd {ds : List PyData} (e : p[i]? = some (some (.rd ds))) (h : J p (K (.rd ds)) t Rel) : J p (B (mRd i) K) t Rel := fun ρ m => by
  show Rf ((mRd i ρ).bind _) t Rel
  rw [e_mRd, m.get e]
  exact h _ m
def onlyD (K : T → Env → R Y) : T → Env → R Y := fun v => match v with
  | .d x => K (.d x)
  | _ => fun _ => .bad
theorem x_lift {m : MP} (h : J p (Bp m (onlyD K)) t Rel) : J p (B (mLift m) K) t Rel := fun ρ hm => by
  have := h ρ hm
  show Rf ((mLift m ρ).bind _) t Rel
  unfold Bp at this
  rw [e_lift]
  cases e : m ρ with
  | none => rw [e] at this; exact this
  | some u =>
    rw [e] at this
    cases u <;> exact this
theorem x_onlyD {x : PyData} (h : J p (K (.d x)) t Rel) : J p (onlyD K (.d x)) t Rel := h
theorem x_bin {op : T → T → R RV} {a b : MEx} (h : J p (B a fun x => B b fun y => Bo (op x y) K) t Rel) : J p (B (mBin op a b) K) t Rel := fun ρ m => by
  have := h ρ m
  simpa [B, Bo, mBin] using this
theorem x_tup {a : MA} (h : J p (Ba a fun xs => K (mkTup xs)) t Rel) : J p (B (mTup a) K) t Rel := fun ρ m => by
  have := h ρ m
  simpa [B, Ba, mTup] using this
theorem x_lst {a : MA} (h : J p (Ba a fun xs => K (.ol xs)) t Rel) : J p (B (mLst a) K) t Rel := fun ρ m => by
  have := h ρ m
  simpa [B, Ba, mLst] using this
def frz (K : T → Env → R Y) : T → Env → R Y := fun v => match v.fz with
  | some x => K (.d x)
  | none => fun _ => .bad
theorem x_mfz {a : MEx} (h : J p (B a (frz K)) t Rel) : J p (B (mFz a) K) t Rel := fun ρ m => by
  have := h ρ m
  show Rf ((mFz a ρ).bind _) t Rel
  have e : (mFz a ρ).bind (fun x => K x.1 x.2) = (a ρ).bind fun x => frz K x.1 x.2 := by
    unfold mFz
    rw [bind_assocS]
    congr 1
    funext x
    unfold frz
    cases x.1.fz <;> rfl
  rw [e]
  exact this
theorem x_frz {u : T} {v : PyData} (f : u.fz = some v) (h : J p (K (.d v)) t Rel) : J p (frz K u) t Rel := by
  unfold frz
  rw [f]
  exact h
theorem x_callB {op : List T → R RV} {a : MA} (h : J p (Ba a fun xs => Bo (op xs) K) t Rel) : J p (B (mCallB op a) K) t Rel := fun ρ m => by
  have := h ρ m
  simpa [B, Ba, Bo, mCallB] using this
theorem a_nil {K : List T → Env → R Y} (h : J p (K []) t Rel) : J p (Ba mNil K) t Rel := h
theorem a_cons {K : List T → Env → R Y} {a : MEx} {r : MA} (h : J p (B a fun x => Ba r fun xs => K (x :: xs)) t Rel) : J p (Ba (mCons a r) K) t Rel := fun ρ m => by
  have := h ρ m
  simpa [B, Ba, mCons] using this
theorem z_nil {K : List T → Env → R Y} (h : J p (K []) t Rel) : J p (Bpa pNil K) t Rel := h
theorem z_cons {K : List T → Env → R Y} {a : MP} {r : MPA} (h : J p (Bp a fun x => Bpa r fun xs => K (x :: xs)) t Rel) : J p (Bpa (pCons a r) K) t Rel := fun ρ m => by
  have := h ρ m
  simp only [Bp, Bpa] at this ⊢
  have e : pCons a r ρ = (a ρ).bind fun x => (r ρ).bind fun y => some (x :: y) := rfl
  rw [e]
  cases e1 : a ρ with
  | none => rw [e1] at this; exact this
  | some x =>
    rw [e1] at this
    cases e2 : r ρ with
    | none => simp [e2] at this ⊢; exact this
    | some y => simp [e2] at this ⊢; exact this
theorem p_var {u : T} (e : p[i]? = some (some u)) (h : J p (K u) t Rel) : J p (Bp (pVar i) K) t Rel := fun ρ m => by
  show Rf ((ofO (pVar i ρ)).bind _) t Rel
  rw [e_pVar, m.get e]
  exact h ρ m
theorem p_c {x : PyData} (h : J p (K (.d x)) t Rel) : J p (Bp (pC x) K) t Rel := h
theorem p_cv {x v : PyData} (e : x = v) (h : J p (K (.d v)) t Rel) : J p (Bp (pC x) K) t Rel := by subst e; exact h
theorem p_bin {op : T → T → R RV} {a b : MP} (h : J p (Bp a fun x => Bp b fun y => Bv (op x y) K) t Rel) : J p (Bp (pBin op a b) K) t Rel := fun ρ m => by
  have := h ρ m
  simp only [Bp, Bv] at this ⊢
  rw [e_pBin]
  cases e1 : a ρ with
  | none => rw [e1] at this; exact this
  | some x =>
    cases e2 : b ρ with
    | none => simp [e1, e2] at this ⊢; exact this
    | some y => simp [e1, e2] at this ⊢; exact this
theorem p_un {op : T → R RV} {a : MP} (h : J p (Bp a fun x => Bv (op x) K) t Rel) : J p (Bp (pUn op a) K) t Rel := fun ρ m => by
  have := h ρ m
  simp only [Bp, Bv] at this ⊢
  rw [e_pUn]
  cases e1 : a ρ with
  | none => rw [e1] at this; exact this
  | some x => simp [e1] at this ⊢; exact this
theorem p_callB {op : List T → R RV} {a : MPA} (h : J p (Bpa a fun xs => Bv (op xs) K) t Rel) : J p (Bp (pCallB op a) K) t Rel := fun ρ m => by
  have := h ρ m
  simp only [Bp, Bpa, Bv] at this ⊢
  rw [e_pCallB]
  cases e1 : a ρ with
  | none => rw [e1] at this; exact this
  | some x => simp [e1] at this ⊢; exact this
theorem o_ok {r : R RV} {z : RV} (e : r = .ok z) (h : J p (K z.toT) t Rel) : J p (Bo r K) t Rel := by subst e; exact h
theorem v_ok {r : R RV} {u : T} (e : r = .ok (.v u)) (h : J p (K u) t Rel) : J p (Bv r K) t Rel := by subst e; exact h
structure Ro (r : R RV) (t0 : R β) (Z : β → RV) : Prop where
  nox : ∀ c, t0 ≠ .exc c
  rf : Rf r t0 fun a z => z = Z a
theorem o_r {r : R RV} {t0 : R β} {t1 : β → R α} {Z : β → RV} (e : Ro r t0 Z) (h : ∀ a, J p (K (Z a).toT) (t1 a) Rel) : J p (Bo r K) (t0.bind t1) Rel := fun ρ m => e.rf.bind fun a z ez => by subst ez; exact h a ρ m
theorem v_r {r : R RV} {t0 : R β} {t1 : β → R α} {Z : β → T} (e : Ro r t0 fun a => .v (Z a)) (h : ∀ a, J p (K (Z a)) (t1 a) Rel) : J p (Bv r K) (t0.bind t1) Rel := fun ρ m => by
  have e2 : Rf (ofO (okV r)) t0 fun a v => v = Z a := by
    obtain ⟨nox, e⟩ := e
    cases t0 with
    | bad => exact trivial
    | exc c => exact (nox c rfl).elim
    | ok a =>
      obtain ⟨z, e1, e2⟩ := e
      subst e1
      subst e2
      exact ⟨_, rfl, rfl⟩
  exact e2.bind fun a z ez => by subst ez; exact h a ρ m
variable {KB : Bool → Env → R Y}
def onB (KB : Bool → Env → R Y) : T → Env → R Y := fun v => match v with
  | .d (.bool b) => KB b
  | _ => fun _ => .bad
theorem t_test {a : MEx} (h : J p (B a (onB KB)) t Rel) : J p (Bt (mTest a) KB) t Rel := fun ρ m => by
  have := h ρ m
  simp only [B, Bt] at this ⊢
  rw [e_mTest, bind_assocS]
  have e : (fun x : T × Env => (testK x).bind fun y => KB y.1 y.2) = fun x => onB KB x.1 x.2 := by
    funext x
    obtain ⟨v, ρ'⟩ := x
    cases v with
    | d d => cases d <;> rfl
    | _ => rfl
  rw [e]
  exact this
theorem t_onB {b : Bool} (h : J p (KB b) t Rel) : J p (onB KB (.d (.bool b))) t Rel := h
theorem t_truth {a : MP} (h : J p (Bp a fun x => fun ρ => (ofO x.truth).bind fun b => KB b ρ) t Rel) : J p (Bt (mTruth a) KB) t Rel := fun ρ m => by
  have := h ρ m
  simp only [Bp, Bt] at this ⊢
  rw [e_mTruth]
  cases e : a ρ with
  | none => rw [e] at this; exact this
  | some x =>
    rw [e] at this
    simp at this ⊢
    cases e2 : x.truth with
    | none => rw [e2] at this; exact this
    | some b => rw [e2] at this; exact this
theorem t_tru {v : T} {b : Bool} (e : v.truth = some b) (h : J p (KB b) t Rel) : J p (fun ρ => (ofO v.truth).bind fun b => KB b ρ) t Rel := by rw [e]; exact h
theorem t_not {a : MT} (h : J p (Bt a fun b => KB (!b)) t Rel) : J p (Bt (mNot a) KB) t Rel := fun ρ m => by
  have := h ρ m
  simpa [Bt, mNot] using this
theorem g_ite {b : Bool} {c : Prop} [Decidable c] {G1 G2 : Env → R Y} (e : b = decide c) (h1 : c → J p G1 t Rel) (h2 : ¬ c → J p G2 t2 Rel) : J p (iteG b G1 G2) (if c then t else t2) Rel := by
  subst e
  unfold iteG
  by_cases hc : c
  · simp [hc]; exact h1 hc
  · simp [hc]; exact h2 hc
abbrev kV : T → Env → R (T × Env) := fun v ρ => .ok (v, ρ)
variable {KE : Env → R Y}
theorem g_name {v : T} (h : J (p.set i (some v)) KE t Rel) : J p (Bg (mgName i) v KE) t Rel := fun ρ m => h _ m.set
theorem g_tup {n : Nat} {r : MGs} {v : T} {vs : List T} (e : v.parts = some vs) (l : vs.length = n) (h : J p (Bgs r vs KE) t Rel) : J p (Bg (mgTup n r) v KE) t Rel := fun ρ m => by
  have := h ρ m
  simp only [Bg, Bgs] at this ⊢
  rw [e_mgTup, e, e_gTupK, if_pos l]
  exact this
theorem g_nil (h : J p KE t Rel) : J p (Bgs mgNil [] KE) t Rel := h
theorem g_cons {g : MG} {r : MGs} {v : T} {vs : List T} (h : J p (Bg g v (Bgs r vs KE)) t Rel) : J p (Bgs (mgCons g r) (v :: vs) KE) t Rel := fun ρ m => by
  have := h ρ m
  simp only [Bg, Bgs] at this ⊢
  rw [e_mgCons]
  cases e : g v ρ with
  | none => rw [e] at this; exact this
  | some x => rw [e] at this; simp; exact this
variable {κ : SK Y}
theorem s_next (h : J p κ.nx t Rel) : J p (Bs mNext κ) t Rel := h
theorem s_seq {a b : MS} (h : J p (Bs a ⟨Bs b κ, κ.rt, κ.bk, κ.ct⟩) t Rel) : J p (Bs (mSeq a b) κ) t Rel := fun ρ m => by
  have := h ρ m
  simp only [Bs] at this ⊢
  rw [e_mSeq, bind_assocS]
  have e : (fun x : Out => (seqK b x).bind κ.ap) = (⟨fun ρ => (b ρ).bind κ.ap, κ.rt, κ.bk, κ.ct⟩ : SK Y).ap := by
    funext x
    cases x <;> rfl
  rw [e]
  exact this
theorem s_ret {a : MEx} (h : J p (B a κ.rt) t Rel) : J p (Bs (mRet a) κ) t Rel := fun ρ m => by
  have := h ρ m
  simpa [Bs, B, mRet, SK.ap] using this
theorem s_drop {a : MEx} (h : J p (B a fun _ => κ.nx) t Rel) : J p (Bs (mDrop a) κ) t Rel := fun ρ m => by
  have := h ρ m
  simpa [Bs, B, mDrop, SK.ap] using this
theorem s_asg {a : MEx} {g : MG} (h : J p (B a fun v => Bg g v κ.nx) t Rel) : J p (Bs (mAsg a g) κ) t Rel := fun ρ m => by
  have := h ρ m
  simpa [Bs, B, Bg, mAsg, SK.ap] using this
theorem s_if {a b : MS} {c : MT} (h : J p (Bt c fun x => iteG x (Bs a κ) (Bs b κ)) t Rel) : J p (Bs (mIfS c a b) κ) t Rel := fun ρ m => by
  have := h ρ m
  simp only [Bt, Bs] at this ⊢
  rw [e_mIfS, bind_assocS]
  have e : (fun x : Bool × Env => (ifK a b x).bind κ.ap) = fun x => iteG x.1 (Bs a κ) (Bs b κ) x.2 := by
    funext x
    obtain ⟨v, ρ'⟩ := x
    cases v <;> rfl
  rw [e]
  exact this
inductive Fl (σ ρ : Type) where
  | nx (s : σ) | rt (r : ρ) | bk (s : σ)
abbrev kO : SK Out := ⟨fun ρ => .ok (.next ρ), fun v ρ => .ok (.ret v ρ), fun ρ => .ok (.brk ρ), fun ρ => .ok (.cont ρ)⟩
theorem kO_ap {s : MS} {ρ : Env} : Bs s kO ρ = s ρ := by
  unfold Bs
  cases s ρ with
  | ok o => cases o <;> rfl
  | _ => rfl
def endN (q : β → Pt) : β → Out → Prop := fun a o => ∃ ρ, o = .next ρ ∧ Mt (q a) ρ
def endC (q : β → Pt) : β → Out → Prop := fun a o => ∃ ρ, (o = .next ρ ∨ o = .cont ρ) ∧ Mt (q a) ρ
def endF (q : β → Pt) (F : γ → T) (qr : γ → Pt) : Fl β γ → Out → Prop := fun f o => match f with
  | .nx a => ∃ ρ, (o = .next ρ ∨ o = .cont ρ) ∧ Mt (q a) ρ
  | .rt r => ∃ ρ, o = .ret (F r) ρ ∧ Mt (qr r) ρ
  | .bk a => ∃ ρ, o = .brk ρ ∧ Mt (q a) ρ
def endR (q : β → Pt) (F : γ → T) (qr : γ → Pt) : Fl β γ → Out → Prop := fun f o => match f with
  | .nx a => ∃ ρ, o = .next ρ ∧ Mt (q a) ρ
  | .rt r => ∃ ρ, o = .ret (F r) ρ ∧ Mt (qr r) ρ
  | .bk _ => False
theorem s_cut {s : MS} {t0 : R β} {t1 : β → R α} {q : β → Pt} (h0 : J p (Bs s kO) t0 (endN q)) (h : ∀ a, J (q a) κ.nx (t1 a) Rel) : J p (Bs s κ) (t0.bind t1) Rel := fun ρ hm => by
  have h0 := h0 ρ hm
  rw [kO_ap] at h0
  exact h0.bind fun a x ⟨ρ', e1, e2⟩ => by
    subst e1
    exact h a _ e2
def Fl.on {σ ρ A : Type} (f : Fl σ ρ) (k : σ → A) (kr : ρ → A) : A := match f with
  | .nx s => k s
  | .rt r => kr r
  | .bk s => k s
theorem e_n {q : β → Pt} {a : β} (w : Wk p (q a)) : J p kO.nx (.ok a) (endN q) := fun ρ m => ⟨_, rfl, ρ, rfl, w.mt m⟩
theorem e_cN {q : β → Pt} {a : β} (w : Wk p (q a)) : J p kO.nx (.ok a) (endC q) := fun ρ m => ⟨_, rfl, ρ, .inl rfl, w.mt m⟩
theorem e_fN {q : β → Pt} {F : γ → T} {qr : γ → Pt} {a : β} (w : Wk p (q a)) : J p kO.nx (.ok (.nx a)) (endF q F qr) := fun ρ m => ⟨_, rfl, ρ, .inl rfl, w.mt m⟩
theorem e_fR {q : β → Pt} {F : γ → T} {qr : γ → Pt} {v : T} {a : γ} (e : v = F a) (w : Wk p (qr a)) : J p (kO.rt v) (.ok (.rt a)) (endF q F qr) := fun ρ m => ⟨_, rfl, ρ, by rw [e], w.mt m⟩
end
section
variable {Y α β γ σ A : Type}
def tFold (f : σ → A → R σ) : List A → σ → R σ
  | [], s => .ok s
  | x :: xs, s => (f s x).bind (tFold f xs)
def tLoop (f : σ → A → R (Fl σ γ)) : List A → σ → R (Fl σ γ)
  | [], s => .ok (.nx s)
  | x :: xs, s => (f s x).bind fun r => match r with
    | .nx s => tLoop f xs s
    | .bk s => .ok (.nx s)
    | .rt r => .ok (.rt r)
def Blp (g : MG) (b : MS) (items : List T) (κ : SK Y) : Env → R Y := fun ρ => (mLoop g b items ρ).bind κ.ap
variable {p : Pt} {t : R α} {Rel : α → Y → Prop} {κ : SK Y}
theorem s_for {mi : MI} {g : MG} {b : MS} (h : J p (Bi mi fun items => Blp g b items κ) t Rel) : J p (Bs (mFor mi g b) κ) t Rel := fun ρ m => by
  have := h ρ m
  simpa [Bs, Bi, Blp, mFor] using this
theorem loop_rf {g : MG} {b : MS} {F : A → T} {q : σ → Pt} {f : σ → A → R σ} (hb : ∀ s x, J (q s) (Bg g (F x) (Bs b kO)) (f s x) (endC q)) : ∀ (xs : List A) (s : σ) (ρ : Env), Mt (q s) ρ → Rf (mLoop g b (xs.map F) ρ) (tFold f xs s) (endN q)
  | [], s, ρ, m => ⟨_, rfl, ρ, rfl, m⟩
  | x :: xs, s, ρ, m => by
    have h := hb s x ρ m
    have e : mLoop g b ((x :: xs).map F) ρ = (Bg g (F x) (Bs b kO) ρ).bind (loopK2 g b (xs.map F)) := by
      rw [List.map_cons, e_loopC]
      unfold Bg
      rw [bind_assocS]
      congr 1
      funext ρ1
      rw [kO_ap]
      rfl
    rw [e]
    refine h.bind fun s' o ho => ?_
    obtain ⟨ρ', e1, e2⟩ := ho
    rcases e1 with e1 | e1 <;> (subst e1; exact loop_rf hb xs s' ρ' e2)
theorem loop_rfR {g : MG} {b : MS} {F : A → T} {q : σ → Pt} {FR : γ → T} {qr : γ → Pt} {f : σ → A → R (Fl σ γ)} (hb : ∀ s x, J (q s) (Bg g (F x) (Bs b kO)) (f s x) (endF q FR qr)) : ∀ (xs : List A) (s : σ) (ρ : Env), Mt (q s) ρ → Rf (mLoop g b (xs.map F) ρ) (tLoop f xs s) (endR q FR qr)
  | [], s, ρ, m => ⟨_, rfl, ρ, rfl, m⟩
  | x :: xs, s, ρ, m => by
    have h := hb s x ρ m
    have e : mLoop g b ((x :: xs).map F) ρ = (Bg g (F x) (Bs b kO) ρ).bind (loopK2 g b (xs.map F)) := by
      rw [List.map_cons, e_loopC]
      unfold Bg
      rw [bind_assocS]
      congr 1
      funext ρ1
      rw [kO_ap]
      rfl
    rw [e]
    refine h.bind fun s' o ho => ?_
    cases s' with
    | nx s' =>
      obtain ⟨ρ', e1, e2⟩ := ho
      rcases e1 with e1 | e1 <;> (subst e1; exact loop_rfR hb xs s' ρ' e2)
    | rt r =>
      obtain ⟨ρ', e1, e2⟩ := ho
      subst e1
      exact ⟨_, rfl, ρ', rfl, e2⟩
    | bk s' =>
      obtain ⟨ρ', e1, e2⟩ := ho
      subst e1
      exact ⟨_, rfl, ρ', rfl, e2⟩
theorem l_for {g : MG} {b : MS} {F : A → T} {xs : List A} {q : σ → Pt} {f : σ → A → R σ} {s0 : σ} {t1 : σ → R α} (w : Wk p (q s0)) (hb : ∀ s x, J (q s) (Bg g (F x) (Bs b kO)) (f s x) (endC q)) (h : ∀ s, J (q s) κ.nx (t1 s) Rel) : J p (Blp g b (xs.map F) κ) ((tFold f xs s0).bind t1) Rel := fun ρ m =>
  (loop_rf hb xs s0 ρ (w.mt m)).bind fun s o ⟨ρ', e1, e2⟩ => by subst e1; exact h s ρ' e2
theorem l_forR {g : MG} {b : MS} {F : A → T} {xs : List A} {q : σ → Pt} {FR : γ → T} {qr : γ → Pt} {f : σ → A → R (Fl σ γ)} {s0 : σ} {t1 : σ → R α} {tr : γ → R α} (w : Wk p (q s0)) (hb : ∀ s x, J (q s) (Bg g (F x) (Bs b kO)) (f s x) (endF q FR qr)) (h : ∀ s, J (q s) κ.nx (t1 s) Rel) (hr : ∀ r, J (qr r) (κ.rt (FR r)) (tr r) Rel) : J p (Blp g b (xs.map F) κ) ((tLoop f xs s0).bind fun z => z.on t1 tr) Rel := fun ρ m =>
  (loop_rfR hb xs s0 ρ (w.mt m)).bind fun z o e => by
    cases z with
    | nx s => obtain ⟨ρ', e1, e2⟩ := e; subst e1; exact h s ρ' e2
    | rt r => obtain ⟨ρ', e1, e2⟩ := e; subst e1; exact hr r ρ' e2
    | bk _ => exact e.elim
def tWhileN (c : σ → R Bool) (f : σ → R (Fl σ γ)) : Nat → σ → R (Fl σ γ)
  | 0, _ => .bad
  | n + 1, s => (c s).bind fun b => if b = true then (f s).bind fun r => match r with
    | .nx s => tWhileN c f n s
    | .bk s => .ok (.nx s)
    | .rt r => .ok (.rt r) else .ok (.nx s)
open Classical in
noncomputable def tWhile (c : σ → R Bool) (f : σ → R (Fl σ γ)) : σ → R (Fl σ γ) := fun s => if h : ∃ n, tWhileN c f n s ≠ .bad then tWhileN c f (Classical.choose h) s else .bad
def tLc (f : σ → A → R (Option β × σ)) : List A → List β → σ → R (List β × σ)
  | [], acc, s => .ok (acc, s)
  | x :: xs, acc, s => (f s x).bind fun r => tLc f xs (acc ++ r.1.toList) r.2
def tMap (f : A → R β) : List A → R (List β)
  | [] => .ok []
  | x :: xs => (f x).bind fun y => (tMap f xs).bind fun ys => .ok (y :: ys)
def tFm (f : A → R (Option β)) : List A → R (List β)
  | [] => .ok []
  | x :: xs => (f x).bind fun y => (tFm f xs).bind fun ys => .ok (y.toList ++ ys)
def Bel (g : MG) (mt : MT) (me : MEx) (vs : List Nat) (x : T) : Env → R (Option T × Env) := fun ρ => (ofO (g x (wipeE ρ vs))).bind fun ρ1 => (mt ρ1).bind fun r => if r.1 = true then (me r.2).bind fun y => .ok (some y.1, y.2) else .ok (none, r.2)
def endE (G : β → T) (q : σ → Pt) (vs : List Nat) : Option β × σ → Option T × Env → Prop := fun a x => x.1 = a.1.map G ∧ Mt (wipeE (q a.2) vs) (wipeE x.2 vs)
theorem lc_rf {g : MG} {mt : MT} {me : MEx} {vs : List Nat} {F : A → T} {G : β → T} {q : σ → Pt} {f : σ → A → R (Option β × σ)} (hb : ∀ s x ρ, Mt (wipeE (q s) vs) (wipeE ρ vs) → Rf (Bel g mt me vs (F x) ρ) (f s x) (endE G q vs)) :
    ∀ (xs : List A) (acc : List β) (s : σ) (ρ : Env), xs.length + acc.length ≤ sLine → Mt (wipeE (q s) vs) (wipeE ρ vs) → Rf (mLcLoop g mt me vs (xs.map F) (acc.map G) ρ) (tLc f xs acc s) (fun a z => z.1 = a.1.map G ∧ Mt (wipeE (q a.2) vs) (wipeE z.2 vs))
  | [], acc, s, ρ, hl, m => ⟨_, rfl, rfl, m⟩
  | x :: xs, acc, s, ρ, hl, m => by
    have h := hb s x ρ m
    have e : mLcLoop g mt me vs ((x :: xs).map F) (acc.map G) ρ = (Bel g mt me vs (F x) ρ).bind fun z => mLcLoop g mt me vs (xs.map F) (acc.map G ++ z.1.toList) z.2 := by
      rw [List.map_cons, e_lcC]
      unfold Bel
      rw [bind_assocS]
      congr 1
      funext ρ1
      rw [e_lcL1, bind_assocS]
      congr 1
      funext r
      obtain ⟨b, ρ2⟩ := r
      cases b with
      | false => simp
      | true =>
        have hs : decide ((acc.map G).length < sLine) = true := decide_eq_true (by simp at hl ⊢; omega)
        rw [e_lcL2, if_pos rfl, hs, guard_t]
        simp only [if_true, bind_assocS, bind_okS]
        congr 1
    rw [e]
    refine h.bind fun a z hz => ?_
    obtain ⟨e1, e2⟩ := hz
    have e3 : acc.map G ++ z.1.toList = (acc ++ a.1.toList).map G := by
      rw [e1]
      cases a.1 <;> simp
    rw [e3]
    exact lc_rf hb xs _ _ _ (by
      have : a.1.toList.length ≤ 1 := by cases a.1 <;> simp
      simp at hl ⊢; omega) e2
def Blc (g : MG) (mt : MT) (me : MEx) (vs : List Nat) (items : List T) (K : T → Env → R Y) : Env → R Y := fun ρ => (mLcLoop g mt me vs items [] ρ).bind fun z => K (.ol z.1) (wipeE z.2 vs)
variable {p : Pt} {t : R α} {Rel : α → Y → Prop} {K : T → Env → R Y}
theorem x_lc {mi : MI} {g : MG} {mt : MT} {me : MEx} {vs : List Nat} (h : J p (Bi mi fun items => Blc g mt me vs items K) t Rel) : J p (B (mLc mi g mt me vs) K) t Rel := fun ρ m => by
  have := h ρ m
  simpa [B, Bi, Blc, mLc] using this
abbrev kS : T → Env → R (Option T × Env) := fun v ρ => .ok (some v, ρ)
abbrev kN : Env → R (Option T × Env) := fun ρ => .ok (none, ρ)
theorem bel_eq {g : MG} {mt : MT} {me : MEx} {vs : List Nat} {x : T} {ρ : Env} : Bel g mt me vs x ρ = Bg g x (Bt mt fun b => iteG b (B me kS) kN) (wipeE ρ vs) := by
  unfold Bel Bg Bt
  congr 1
def endL (G : β → T) (q : σ → Pt) : Option β × σ → Option T × Env → Prop := fun a x => x.1 = a.1.map G ∧ Mt (q a.2) x.2
theorem lc_rf2 {g : MG} {mt : MT} {me : MEx} {vs : List Nat} {F : A → T} {G : β → T} {q : σ → Pt} {f : σ → A → R (Option β × σ)} (hq : ∀ s, wipeE (q s) vs = q s) (hb : ∀ s x, J (q s) (Bg g (F x) (Bt mt fun b => iteG b (B me kS) kN)) (f s x) (endL G q)) {xs : List A} {s : σ} {ρ : Env} (hl : xs.length ≤ sLine) (m : Mt (q s) ρ) :
    Rf (mLcLoop g mt me vs (xs.map F) [] ρ) (tLc f xs [] s) (fun a z => z.1 = a.1.map G ∧ Mt (q a.2) (wipeE z.2 vs)) := by
  have := lc_rf (g := g) (mt := mt) (me := me) (vs := vs) (F := F) (G := G) (q := q) (f := f) (fun s x ρ m => by
    rw [bel_eq]
    rw [hq] at m
    exact (hb s x _ m).mono fun a z ⟨e1, e2⟩ => ⟨e1, e2.wipe⟩) xs [] s ρ (by simpa using hl) m.wipe
  refine this.mono fun a z ⟨e1, e2⟩ => ⟨e1, by rwa [hq] at e2⟩
def lenOk {α : Type} (xs : List α) : Bool := decide (xs.length ≤ sLine)
def tLcG (f : σ → A → R (Option β × σ)) (xs : List A) (s : σ) : R (List β × σ) := guard (lenOk xs) (tLc f xs [] s)
theorem l_lc {g : MG} {mt : MT} {me : MEx} {vs : List Nat} {F : A → T} {G : β → T} {q : σ → Pt} {f : σ → A → R (Option β × σ)} {xs : List A} {s0 : σ} {t1 : List β × σ → R α} (w : Wk p (q s0)) (hq : ∀ s, wipeE (q s) vs = q s) (hb : ∀ s x, J (q s) (Bg g (F x) (Bt mt fun b => iteG b (B me kS) kN)) (f s x) (endL G q)) (h : ∀ r, J (q r.2) (K (.ol (r.1.map G))) (t1 r) Rel) :
    J p (Blc g mt me vs (xs.map F) K) ((tLcG f xs s0).bind t1) Rel := fun ρ m => by
  unfold tLcG Blc
  cases hl : lenOk xs with
  | false => exact trivial
  | true =>
    rw [guard_t]
    refine (lc_rf2 hq hb (of_decide_eq_true hl) (w.mt m)).bind fun a z ⟨e1, e2⟩ => ?_
    rw [e1]
    exact h a _ e2
theorem tLc_map {f : A → R β} : ∀ {xs : List A} {acc : List β} {s : σ}, tLc (fun s x => (f x).bind fun y => .ok (some y, s)) xs acc s = (tMap f xs).bind fun ys => .ok (acc ++ ys, s)
  | [], acc, s => by simp [tLc, tMap]
  | x :: xs, acc, s => by
    simp only [tLc, tMap, bind_assocS, bind_okS]
    congr 1
    funext y
    rw [tLc_map]
    congr 1
    funext ys
    simp
def tMapG (f : A → R β) (xs : List A) : R (List β) := guard (lenOk xs) (tMap f xs)
def tFmG (f : A → R (Option β)) (xs : List A) : R (List β) := guard (lenOk xs) (tFm f xs)
def endM (G : β → T) (q : Pt) : β → Option T × Env → Prop := fun a x => x.1 = some (G a) ∧ Mt q x.2
theorem l_map {g : MG} {me : MEx} {vs : List Nat} {F : A → T} {G : β → T} {q : Pt} {f : A → R β} {xs : List A} {t1 : List β → R α} (w : Wk p q) (hq : wipeE q vs = q) (hb : ∀ x, J q (Bg g (F x) (B me kS)) (f x) (endM G q)) (h : ∀ r, J q (K (.ol (r.map G))) (t1 r) Rel) :
    J p (Blc g mtYes me vs (xs.map F) K) ((tMapG f xs).bind t1) Rel := by
  have h2 := l_lc (p := p) (g := g) (mt := mtYes) (me := me) (vs := vs) (F := F) (G := G) (K := K) (Rel := Rel) (q := fun _ : Unit => q) (f := fun s x => (f x).bind fun y => .ok (some y, s)) (xs := xs) (s0 := ()) (t1 := fun r => t1 r.1) w (fun _ => hq) (fun s x ρ m => by
    have := hb x ρ m
    have e : Bg g (F x) (Bt mtYes fun b => iteG b (B me kS) kN) ρ = Bg g (F x) (B me kS) ρ := by
      unfold Bg Bt iteG mtYes
      congr 1
    rw [e]
    have h3 := this.bind (k := fun z => .ok z) (k' := fun y => .ok (some y, s)) (Rel' := endL G fun _ : Unit => q) (fun a z ⟨e1, e2⟩ => ⟨_, rfl, e1, e2⟩)
    have e4 : (Bg g (F x) (B me kS) ρ).bind (fun z => R.ok z) = Bg g (F x) (B me kS) ρ := by
      cases Bg g (F x) (B me kS) ρ <;> rfl
    rwa [e4] at h3) (fun r => h r.1)
  have e : (tMapG f xs).bind t1 = (tLcG (fun s x => (f x).bind fun y => .ok (some y, s)) xs ()).bind fun r => t1 r.1 := by
    unfold tMapG tLcG
    rw [tLc_map]
    cases lenOk xs <;> simp
  rw [e]
  exact h2
theorem e_m {G : β → T} {q : Pt} {v : T} {a : β} (e : v = G a) (w : Wk p q) : J p (kS v) (.ok a) (endM G q) := fun ρ m => ⟨_, rfl, by rw [e], w.mt m⟩
theorem e_l {G : β → T} {q : σ → Pt} {v : T} {a : β} {s : σ} (e : v = G a) (w : Wk p (q s)) : J p (kS v) (.ok (some a, s)) (endL G q) := fun ρ m => ⟨_, rfl, by rw [e]; rfl, w.mt m⟩
variable {KI : List T → Env → R Y}
def onItems (o : Option (List T)) (KI : List T → Env → R Y) : Env → R Y := fun ρ => (ofO o).bind fun ts => KI ts ρ
theorem i_list {m : MEx} (h : J p (B m fun v => onItems (items? v) KI) t Rel) : J p (Bi (miL m) KI) t Rel := fun ρ hm => by
  have := h ρ hm
  simpa [B, Bi, onItems, miL] using this
theorem i_on {o : Option (List T)} {ts : List T} (e : o = some ts) (h : J p (KI ts) t Rel) : J p (onItems o KI) t Rel := by subst e; exact h
def rgI (lo hi : Int) : List Int := (List.range (hi - lo).toNat).map fun i => lo + (i : Nat)
theorem rgI_items {lo hi : Int} : rangeItems lo hi = (rgI lo hi).map fun i => T.d (.int i) := by simp [rgI, rangeItems, Function.comp_def]
@[irreducible] def tRange (lo hi : Int) : R (List Int) := guard (small62 lo && small62 hi) (.ok (rgI lo hi))
def onR1 (KI : List T → Env → R Y) : List T → Env → R Y := fun ts => match ts with
  | [.d (.int j)] => fun ρ => guard (small62 j) (KI (rangeItems 0 j) ρ)
  | _ => fun _ => .bad
def onR2 (KI : List T → Env → R Y) : List T → Env → R Y := fun ts => match ts with
  | [.d (.int i), .d (.int j)] => fun ρ => guard (small62 i && small62 j) (KI (rangeItems i j) ρ)
  | _ => fun _ => .bad
theorem i_range1 {m : MA} (h : J p (Ba m (onR1 KI)) t Rel) : J p (Bi (miR1 m) KI) t Rel := fun ρ hm => by
  have := h ρ hm
  simp only [Ba, Bi] at this ⊢
  rw [e_miR1, bind_assocS]
  have e : (fun x : List T × Env => (rg1 x).bind fun y => KI y.1 y.2) = fun x => onR1 KI x.1 x.2 := by
    funext x
    obtain ⟨v, ρ'⟩ := x
    unfold rg1 onR1
    dsimp only
    split
    · unfold L3.guard
      try dsimp only
      split <;> rfl
    · rename_i h
      first
        | rfl
        | (split
           · exact (h _ rfl).elim
           · rfl)
  rw [e]
  exact this
theorem i_range2 {m : MA} (h : J p (Ba m (onR2 KI)) t Rel) : J p (Bi (miR2 m) KI) t Rel := fun ρ hm => by
  have := h ρ hm
  simp only [Ba, Bi] at this ⊢
  rw [e_miR2, bind_assocS]
  have e : (fun x : List T × Env => (rg2 x).bind fun y => KI y.1 y.2) = fun x => onR2 KI x.1 x.2 := by
    funext x
    obtain ⟨v, ρ'⟩ := x
    unfold rg2 onR2
    dsimp only
    split
    · unfold L3.guard
      try dsimp only
      split <;> rfl
    · rename_i h
      first
        | rfl
        | (split
           · exact (h _ _ rfl).elim
           · rfl)
  rw [e]
  exact this
theorem i_r1 {j : Int} {t1 : List Int → R α} (h : ∀ xs, J p (KI (xs.map fun i => T.d (.int i))) (t1 xs) Rel) : J p (onR1 KI [.d (.int j)]) ((tRange 0 j).bind t1) Rel := fun ρ m => by
  unfold onR1 tRange
  dsimp only
  have e0 : small62 0 = true := by decide
  rw [e0, Bool.true_and, rgI_items]
  cases small62 j with
  | false => exact trivial
  | true => exact h _ ρ m
theorem i_r2 {i j : Int} {t1 : List Int → R α} (h : ∀ xs, J p (KI (xs.map fun i => T.d (.int i))) (t1 xs) Rel) : J p (onR2 KI [.d (.int i), .d (.int j)]) ((tRange i j).bind t1) Rel := fun ρ m => by
  unfold onR2 tRange
  dsimp only
  rw [rgI_items]
  cases (small62 i && small62 j) with
  | false => exact trivial
  | true => exact h _ ρ m
def enumL {α : Type} (xs : List α) : List (Int × α) := xs.zipIdx.map fun z => ((z.2 : Int), z.1)
end
section
variable {Y α β : Type} {p : Pt} {t : R α} {Rel : α → Y → Prop} {K : T → Env → R Y} {KO : List (Option T) → Env → R Y}
def Bcall (rz : Bool) (n : Nat) (fm : List T → R (T × List T)) (ks : List (Option Nat)) (os : List (Option T)) (K : T → Env → R Y) : Env → R Y := fun ρ => (ofO (fillIo ks os ρ)).bind fun s => (if decide (s.1.length = n) then (if rz = true then fm s.1 else (fm s.1).nx) else .bad).bind fun z => (ofO (putIo (ks.filterMap id) z.2 s.2)).bind fun ρ' => K z.1 ρ'
theorem x_call {rz : Bool} {n : Nat} {fm : List T → R (T × List T)} {ks : List (Option Nat)} {mb : MB} (h : J p (Bb mb fun os => Bcall rz n fm ks os K) t Rel) : J p (B (mCallF rz false n fm ks mb) K) t Rel := fun ρ m => by
  have := h ρ m
  simpa [B, Bb, Bcall, mCallF] using this
theorem b_nil (h : J p (KO []) t Rel) : J p (Bb mbNil KO) t Rel := h
theorem b_cons {a : MEx} {r : MB} (h : J p (B a fun x => Bb r fun os => KO (some x :: os)) t Rel) : J p (Bb (mbCons a r) KO) t Rel := fun ρ m => by
  have := h ρ m
  simpa [B, Bb, mbCons] using this
theorem b_io {i : Nat} {r : MB} {u : T} (e : p[i]? = some (some u)) (h : J p (Bb r fun os => KO (none :: os)) t Rel) : J p (Bb (mbIo i r) KO) t Rel := fun ρ m => by
  have := h ρ m
  simp only [Bb] at this ⊢
  rw [e_mbIo, m.get e, e_mbIoK, bind_assocS]
  exact this
theorem Mt.fill : ∀ {ks : List (Option Nat)} {os : List (Option T)} {p p1 : Pt} {ts : List T} {ρ : Env}, Mt p ρ → fillIo ks os p = some (ts, p1) → ∃ ρ1, fillIo ks os ρ = some (ts, ρ1) ∧ Mt p1 ρ1
  | [], [], p, p1, ts, ρ, m, e => by
    simp at e
    obtain ⟨rfl, rfl⟩ := e
    exact ⟨ρ, rfl, m⟩
  | none :: ks, some u :: os, p, p1, ts, ρ, m, e => by
    rw [e_fill1] at e
    obtain ⟨r, e1, e2⟩ := Option.map_eq_some_iff.mp e
    obtain ⟨ρ1, e3, e4⟩ := m.fill (ks := ks) (os := os) (p1 := r.2) (ts := r.1) e1
    cases e2
    exact ⟨ρ1, by rw [e_fill1, e3]; rfl, e4⟩
  | some i :: ks, none :: os, p, p1, ts, ρ, m, e => by
    rw [e_fill2] at e
    cases e0 : p[i]? with
    | none => rw [e0] at e; cases e
    | some o =>
      cases o with
      | none => rw [e0] at e; cases e
      | some u =>
        rw [e0, e_fillK] at e
        obtain ⟨r, e1, e2⟩ := Option.map_eq_some_iff.mp e
        obtain ⟨ρ1, e3, e4⟩ := (m.unset (i := i) (x := none)).fill (ks := ks) (os := os) (p1 := r.2) (ts := r.1) e1
        cases e2
        exact ⟨ρ1, by rw [e_fill2, m.get e0, e_fillK, e3]; rfl, e4⟩
  | [], _ :: _, p, p1, ts, ρ, m, e => by cases ‹Option T› <;> cases e
  | none :: _, [], p, p1, ts, ρ, m, e => by cases e
  | none :: _, none :: _, p, p1, ts, ρ, m, e => by cases e
  | some _ :: _, [], p, p1, ts, ρ, m, e => by cases e
  | some _ :: _, some _ :: _, p, p1, ts, ρ, m, e => by cases e
theorem Mt.put : ∀ {is : List Nat} {os : List T} {p p1 : Pt} {ρ : Env}, Mt p ρ → putIo is os p = some p1 → ∃ ρ1, putIo is os ρ = some ρ1 ∧ Mt p1 ρ1
  | [], [], p, p1, ρ, m, e => by cases e; exact ⟨ρ, rfl, m⟩
  | i :: is, u :: os, p, p1, ρ, m, e => by
    rw [e_put1] at e
    obtain ⟨ρ1, e1, e2⟩ := (m.set (i := i) (t := u)).put e
    exact ⟨ρ1, by rw [e_put1]; exact e1, e2⟩
  | [], _ :: _, _, _, _, _, e => by cases e
  | _ :: _, [], _, _, _, _, e => by cases e
theorem Mt.outs : ∀ {io : List Nat} {p : Pt} {ρ : Env} {os : List T}, Mt p ρ → L3.outs io p = .ok os → L3.outs io ρ = .ok os
  | [], p, ρ, os, m, e => e
  | i :: io, p, ρ, os, m, e => by
    rw [e_outs1] at e ⊢
    cases e0 : p[i]? with
    | none => rw [e0] at e; cases e
    | some o =>
      cases o with
      | none => rw [e0] at e; cases e
      | some u =>
        rw [e0, e_outK] at e
        rw [m.get e0, e_outK]
        cases e1 : L3.outs io p with
        | ok os' => rw [m.outs e1]; rw [e1] at e; exact e
        | exc _ => rw [e1] at e; cases e
        | bad => rw [e1] at e; cases e
def Fn (fm : List T → R (T × List T)) (ts : List T) (t0 : R β) (F : β → T) (G : β → List T) : Prop := Rf (fm ts) t0 fun a z => z = (F a, G a)
theorem c_end {n : Nat} {fm : List T → R (T × List T)} {ks : List (Option Nat)} {os : List (Option T)} {ts : List T} {p1 : Pt} {p2 : β → Pt} {t0 : R β} {t1 : β → R α} {F : β → T} {G : β → List T} (hf : fillIo ks os p = some (ts, p1)) (hr : Fn fm ts t0 F G) (hn : ts.length = n) (hp : ∀ a, putIo (ks.filterMap id) (G a) p1 = some (p2 a)) (h : ∀ a, J (p2 a) (K (F a)) (t1 a) Rel) :
    J p (Bcall false n fm ks os K) (t0.nx.bind t1) Rel := fun ρ m => by
  obtain ⟨ρ1, e1, m1⟩ := m.fill hf
  unfold Bcall
  rw [e1]
  simp only [ofO_some, bind_okS, hn, decide_true, if_true]
  refine hr.nx.bind fun a z e => ?_
  subst e
  obtain ⟨ρ2, e2, m2⟩ := m1.put (hp a)
  rw [e2]
  exact h a _ m2
theorem fn_drop {fm : List T → R (T × List T)} {ts : List T} {t0 : R β} {F : β → T} {G : β → List T} (h : Fn fm ts t0 F G) : Fn (dropIo fm) ts t0 F fun _ => [] := by
  unfold Fn at h ⊢
  rw [e_dropIo]
  have := h.bind (k := dropIoK) (k' := fun a => .ok a) (Rel' := fun a z => z = (F a, [])) (fun a z e => by subst e; exact ⟨_, rfl, rfl⟩)
  have e : t0.bind (fun a => R.ok a) = t0 := by cases t0 <;> rfl
  rwa [e] at this
abbrev kF (io : List Nat) : SK (T × List T) := ⟨fun ρ => (outs io ρ).bind fun os => .ok (.d .none, os), fun v ρ => (outs io ρ).bind fun os => .ok (v, os), fun _ => .bad, fun _ => .bad⟩
theorem fn_j {io : List Nat} {k : Nat} {b : MS} {ts : List T} {t0 : R β} {F : β → T} {G : β → List T} {p : Pt} (e : p = ts.map some ++ List.replicate k none) (h : J p (Bs b (kF io)) t0 fun a z => z = (F a, G a)) : Fn (mFn io k b) ts t0 F G := by
  subst e
  have hm : ∀ (xs : Env), Mt xs xs := by
    intro xs
    induction xs with
    | nil => exact trivial
    | cons o xs ih => cases o with
      | none => exact ih
      | some t => exact ⟨rfl, ih⟩
  have := h _ (hm _)
  unfold Fn
  rw [e_mFn]
  have e : (b (ts.map some ++ List.replicate k none)).bind (fnK io) = Bs b (kF io) (ts.map some ++ List.replicate k none) := by
    unfold Bs
    congr 1
    funext o
    cases o <;> rfl
  rw [e]
  exact this
theorem f_ret {io : List Nat} {v : T} {os : List T} {a : β} {F : β → T} {G : β → List T} (e : outs io p = .ok os) (e1 : v = F a) (e2 : os = G a) : J p ((kF io).rt v) (.ok a) fun a z => z = (F a, G a) := fun ρ m => by
  refine ⟨(v, os), ?_, by rw [e1, e2]⟩
  show (outs io ρ).bind _ = _
  rw [m.outs e]
  rfl
end
section
variable {α β : Type}
abbrev dE (e : α → PyData) : α → T := fun x => .d (e x)
abbrev oL (f : α → T) : List α → T := fun xs => .ol (xs.map f)
abbrev eI : Int → PyData := .int
abbrev eB : Bool → PyData := .bool
abbrev eN : Unit → PyData := fun _ => .none
abbrev eL (e : α → PyData) : List α → PyData := fun xs => .list (xs.map e)
abbrev eO (e : α → PyData) : Option α → PyData := fun o => match o with | some a => e a | none => .none
abbrev eT2 {γ : Type} (e : α → PyData) (f : γ → PyData) : α × γ → PyData := fun x => .tuple [e x.1, f x.2]
abbrev eT3 {γ δ : Type} (e : α → PyData) (f : γ → PyData) (g : δ → PyData) : α × γ × δ → PyData := fun x => .tuple [e x.1, f x.2.1, g x.2.2]
theorem dmap {e : α → PyData} {xs : List α} : (xs.map e).map T.d = xs.map (dE e) := by simp [Function.comp_def]
theorem dmapI {e : α → PyData} {xs : List α} : items? (.d (.list (xs.map e))) = some (xs.map (dE e)) := congrArg some dmap
theorem fz_d {x : PyData} : T.fz (.d x) = some x := e_fzD
theorem fz_ol {f : α → T} {e : α → PyData} {xs : List α} (h : ∀ x, T.fz (f x) = some (e x)) : T.fz (.ol (xs.map f)) = some (.list (xs.map e)) := by
  have : T.fzAll (xs.map f) = some (xs.map e) := by
    induction xs with
    | nil => simp [T.fzAll]
    | cons x xs ih => simp [h, ih]
  rw [e_fzOl, this]
  rfl
theorem lst_d {xs : List PyData} : T.lst? (.d (.list xs)) = some xs := rfl
def tOp (b : Bool) (x : β) : R β := guard b (.ok x)
theorem ro_guard {b : Bool} {x : β} {Z : β → RV} {r : R RV} (e : r = guard b (.ok (Z x))) : Ro r (tOp b x) Z := by
  subst e
  unfold tOp
  cases b with
  | false => exact ⟨(fun c z => nomatch z), trivial⟩
  | true => exact ⟨(fun c z => nomatch z), ⟨_, rfl, rfl⟩⟩
def tMul (a b : Int) : R Int := tOp (mulOk a b) (a * b)
def tFdiv (a b : Int) : R Int := tOp (divOk a b) (a.fdiv b)
def tMod (a b : Int) : R Int := tOp (decide (b ≠ 0)) (a.fmod b)
def tPow (a b : Int) : R Int := tOp (powOk a b) (a ^ b.toNat)
theorem ro_mul {a b : Int} : Ro (opMulI (.d (.int a)) (.d (.int b))) (tMul a b) fun x => .v (.d (.int x)) := ro_guard rfl
theorem ro_fdiv {a b : Int} : Ro (opFdiv (.d (.int a)) (.d (.int b))) (tFdiv a b) fun x => .v (.d (.int x)) := ro_guard rfl
theorem ro_mod {a b : Int} : Ro (opMod (.d (.int a)) (.d (.int b))) (tMod a b) fun x => .v (.d (.int x)) := ro_guard rfl
theorem ro_pow {a b : Int} : Ro (opPow (.d (.int a)) (.d (.int b))) (tPow a b) fun x => .v (.d (.int x)) := ro_guard rfl
def tGet (o : Option β) : R β := ofO o
theorem ro_ofO {o : Option β} {Z : β → RV} {r : R RV} (e : r = (ofO o).bind fun x => .ok (Z x)) : Ro r (tGet o) Z := by
  subst e
  unfold tGet
  cases o with
  | none => exact ⟨(fun c z => nomatch z), trivial⟩
  | some x => exact ⟨(fun c z => nomatch z), ⟨_, rfl, rfl⟩⟩
theorem atI_map {f : α → β} {xs : List α} {i : Int} : atI (xs.map f) i = (atI xs i).map f := by
  unfold atI
  rw [List.length_map]
  cases ixN xs.length i with
  | none => rfl
  | some k => simp
def tIdx (xs : List β) (i : Int) : R β := tGet (atI xs i)
theorem ro_idxR {e : β → PyData} {xs : List β} {i : Int} : Ro (opIdx (.rd (xs.map e)) (.d (.int i))) (tIdx xs i) fun x => .v (.d (e x)) := ro_ofO (by
  show (ofO (atI (xs.map e) i)).bind _ = _
  rw [atI_map]
  cases atI xs i <;> rfl)
theorem ro_idxO {f : β → T} {xs : List β} {i : Int} : Ro (opIdx (.ol (xs.map f)) (.d (.int i))) (tIdx xs i) fun x => .v (f x) := ro_ofO (by
  show (ofO (atI (xs.map f) i)).bind _ = _
  rw [atI_map]
  cases atI xs i <;> rfl)
def tCat (xs ys : List β) : R (List β) := tOp (decide (xs.length + ys.length ≤ sLine)) (xs ++ ys)
theorem ro_cat {u v : T} {e : β → PyData} {xs ys : List β} (hu : u.lst? = some (xs.map e)) (hv : v.lst? = some (ys.map e)) : Ro (opAdd u v) (tCat xs ys) fun zs => .nl (zs.map e) := ro_guard (by
  have : opAdd u v = match u.lst?, v.lst? with
    | some xs, some ys => guard (decide (xs.length + ys.length ≤ sLine)) (.ok (.nl (xs ++ ys)))
    | _, _ => .bad := by
    unfold opAdd
    split <;> first | rfl | (simp [T.lst?] at hu)
  rw [this, hu, hv]
  simp)
def tLen (xs : List β) : Int := xs.length
theorem len_l {e : β → PyData} {xs : List β} : opLen [.d (.list (xs.map e))] = .ok (.v (.d (.int (tLen xs)))) := by simp [tLen]
theorem len_r {e : β → PyData} {xs : List β} : opLen [.rd (xs.map e)] = .ok (.v (.d (.int (tLen xs)))) := by simp [tLen]
def tMax (i j : Int) : Int := if j > i then j else i
def tMin (i j : Int) : Int := if j < i then j else i
theorem list_of {u : T} {ds : List PyData} (e : u.seq? = some ds) : opListOf [u] = .ok (.nl ds) := by rw [e_listOf, e]; rfl
theorem cut_map {f : α → β} {xs : List α} {lo hi : Option Int} : cutG (xs.map f) lo hi = (cutG xs lo hi).map f := by
  unfold cutG
  rw [List.length_map, List.map_take, List.map_drop]
def tCut (xs : List β) (lo hi : Option Int) : List β := cutG xs lo hi
theorem o_okN {Y : Type} {p : Pt} {Rel : α → Y → Prop} {K : T → Env → R Y} {e : β → PyData} {xs : List β} {r : R RV} {t : R α} (h0 : r = .ok (.nl (xs.map e))) (h : J p (K (.ol (xs.map (dE e)))) t Rel) : J p (Bo r K) t Rel := by
  refine o_ok h0 ?_
  rw [RV.toT, dmap]
  exact h
theorem o_rN {Y : Type} {p : Pt} {Rel : α → Y → Prop} {K : T → Env → R Y} {e : β → PyData} {r : R RV} {t0 : R (List β)} {t1 : List β → R α} (h0 : Ro r t0 fun zs => .nl (zs.map e)) (h : ∀ zs, J p (K (.ol (zs.map (dE e)))) (t1 zs) Rel) : J p (Bo r K) (t0.bind t1) Rel := by
  refine o_r h0 fun zs => ?_
  rw [RV.toT, dmap]
  exact h zs
structure Nice (e : α → PyData) (k : Nat) : Prop where
  inj : ∀ a b, e a = e b → a = b
  plk : ∀ a n, plk (n + k) (e a) = true
theorem nice_I : Nice eI 0 := ⟨fun a b h => by injection h, fun a n => by simp [L3.plk]⟩
theorem nice_N : Nice eN 0 := ⟨fun a b h => rfl, fun a n => by simp [L3.plk]⟩
theorem nice_Q : Nice fr 1 := ⟨fun a b h => fr_inj h, fun a n => plk_fr⟩
theorem map_inj {e : α → PyData} (h : ∀ a b, e a = e b → a = b) : ∀ {xs ys : List α}, xs.map e = ys.map e → xs = ys
  | [], [], _ => rfl
  | x :: xs, y :: ys, z => by
    simp only [List.map_cons, List.cons.injEq] at z
    rw [h _ _ z.1, map_inj h z.2]
  | [], _ :: _, z => by simp at z
  | _ :: _, [], z => by simp at z
theorem Nice.list {e : α → PyData} {k : Nat} (h : Nice e k) : Nice (eL e) (k + 1) := ⟨fun a b z => map_inj h.inj (by injection z), fun a n => by
  show L3.plk ((n + k) + 1) _ = true
  simp only [L3.plk]
  exact plkAll_map fun x _ => h.plk x n⟩
theorem Nice.up {e : α → PyData} {k m : Nat} (h : Nice e k) (l : k ≤ m) : Nice e m := ⟨h.inj, fun a n => by
  have := h.plk a (n + (m - k))
  rwa [show n + (m - k) + k = n + m by omega] at this⟩
theorem Nice.t2 {γ : Type} {e : α → PyData} {f : γ → PyData} {k : Nat} (h : Nice e k) (h2 : Nice f k) : Nice (eT2 e f) (k + 1) := ⟨fun a b z => by
  have z : [e a.1, f a.2] = [e b.1, f b.2] := by injection z
  simp only [List.cons.injEq, and_true] at z
  exact Prod.ext (h.inj _ _ z.1) (h2.inj _ _ z.2), fun a n => by
  show L3.plk ((n + k) + 1) _ = true
  simp [L3.plk, L3.plkAll, h.plk, h2.plk]⟩
theorem Nice.t3 {γ δ : Type} {e : α → PyData} {f : γ → PyData} {g : δ → PyData} {k : Nat} (h : Nice e k) (h2 : Nice f k) (h3 : Nice g k) : Nice (eT3 e f g) (k + 1) := ⟨fun a b z => by
  have z : [e a.1, f a.2.1, g a.2.2] = [e b.1, f b.2.1, g b.2.2] := by injection z
  simp only [List.cons.injEq, and_true] at z
  exact Prod.ext (h.inj _ _ z.1) (Prod.ext (h2.inj _ _ z.2.1) (h3.inj _ _ z.2.2)), fun a n => by
  show L3.plk ((n + k) + 1) _ = true
  simp [L3.plk, L3.plkAll, h.plk, h2.plk, h3.plk]⟩
theorem Nice.pl {e : α → PyData} {k : Nat} (h : Nice e k) (l : k ≤ 60) (a : α) : pl (e a) := by
  have := h.plk a (60 - k)
  rwa [show 60 - k + k = 60 by omega] at this
theorem eq_nice {e : α → PyData} {k : Nat} [DecidableEq α] (n : Nice e k) {u v : T} {a b : α} (hu : u.toD = some (e a)) (hv : v.toD = some (e b)) (l : k ≤ 60 := by decide) : opEq u v = .ok (.v (.d (.bool (decide (a = b))))) := by
  rw [opEq_pl hu hv (n.pl l a) (n.pl l b)]
  by_cases h : a = b
  · simp [h]
  · have : e a ≠ e b := fun z => h (n.inj _ _ z)
    simp [h, this]
theorem ne_nice {e : α → PyData} {k : Nat} [DecidableEq α] (n : Nice e k) {u v : T} {a b : α} (hu : u.toD = some (e a)) (hv : v.toD = some (e b)) (l : k ≤ 60 := by decide) : opNe u v = .ok (.v (.d (.bool (!decide (a = b))))) := by
  rw [opNe_pl hu hv (n.pl l a) (n.pl l b)]
  by_cases h : a = b
  · simp [h]
  · have : e a ≠ e b := fun z => h (n.inj _ _ z)
    simp [h, this]
theorem toD_d {x : PyData} : T.toD (.d x) = some x := e_toDD
end
section
variable {Y α β : Type} {p : Pt} {t : R α} {Rel : α → Y → Prop} {K : T → Env → R Y} {i : Nat}
def onMeth (i : Nat) (op : List T → List T → Option (T × List T)) (K : T → Env → R Y) : List T → Env → R Y := fun us ρ => (methK i [] op (us, ρ)).bind fun z => K z.1 z.2
def tApp (xs : List β) (x : β) : R (List β) := tOp (decide (xs.length < sLine)) (xs ++ [x])
theorem m_append {f : β → T} {xs : List β} {x : β} {u : T} {t1 : List β → R α} (e : p[i]? = some (some (.ol (xs.map f)))) (eu : u = f x) (h : ∀ zs, J (p.set i (some (.ol (zs.map f)))) (K (.d .none)) (t1 zs) Rel) :
    J p (onMeth i opAppend K [u]) ((tApp xs x).bind t1) Rel := fun ρ m => by
  have hg := m.get e
  have e2 : lstAt [] ρ[i]? = some (xs.map f) := by rw [hg]; rfl
  show Rf ((methK i [] _ ([u], ρ)).bind _) _ _
  rw [e_methK, e2]
  simp only [ofO_some, bind_okS, e_append, List.length_map]
  unfold tApp tOp
  cases hl : decide (xs.length < sLine) with
  | false => exact trivial
  | true =>
    have e3 : putAt i [] (xs.map f ++ [u]) ρ = some (ρ.set i (some (.ol ((xs ++ [x]).map f)))) := by
      rw [e_putAt, hg, e_putK]
      subst eu
      simp [T.put?]
    simp only [if_true, ofO_some, bind_okS, e3, e_methK4, guard_t]
    exact h _ _ m.set
theorem x_meth {op : List T → List T → Option (T × List T)} {f : β → T} {xs : List β} {ma : MA} (e : p[i]? = some (some (.ol (xs.map f)))) (h : J p (Ba ma (onMeth i op K)) t Rel) : J p (B (mMeth i lHere op ma) K) t Rel := fun ρ m => by
  have := h ρ m
  simp only [B, Ba, onMeth] at this ⊢
  rw [e_mMeth, e_lHere]
  have e2 : lstAt [] ρ[i]? = some (xs.map f) := by rw [m.get e]; rfl
  simp only [ofO_some, bind_okS, e2, bind_assocS]
  exact this
def tSet (xs : List β) (j : Int) (x : β) : R (List β) := (ofO (ixN xs.length j)).bind fun k => .ok (xs.set k x)
theorem g_item {f : β → T} {xs : List β} {x : β} {v : T} {j : Int} {mi : MP} {KE : Env → R Y} {t1 : List β → R α} (e : p[i]? = some (some (.ol (xs.map f)))) (ev : v = f x) (hj : ∀ ρ, Mt p ρ → mi ρ = some (.d (.int j))) (h : ∀ zs, J (p.set i (some (.ol (zs.map f)))) KE (t1 zs) Rel) :
    J p (Bg (mgItem i lHere mi) v KE) ((tSet xs j x).bind t1) Rel := fun ρ m => by
  have hg := m.get e
  have e2 : lstAt [] ρ[i]? = some (xs.map f) := by rw [hg]; rfl
  unfold Bg tSet
  rw [e_mgItem, e_lHere, hj ρ m]
  simp only [Option.bind_some, e_int?, e2, List.length_map]
  cases hk : ixN xs.length j with
  | none => exact trivial
  | some k =>
    have e3 : putAt i [] ((xs.map f).set k v) ρ = some (ρ.set i (some (.ol ((xs.set k x).map f)))) := by
      rw [e_putAt, hg, e_putK]
      subst ev
      simp [T.put?, List.map_set]
    simp only [Option.bind_some, e3, ofO_some, bind_okS]
    exact h _ _ m.set
theorem pv_var {u : T} (e : p[i]? = some (some u)) : ∀ ρ, Mt p ρ → pVar i ρ = some u := fun ρ m => by rw [e_pVar, m.get e]; rfl
end
section
variable {Y α β : Type} {p : Pt} {t : R α} {Rel : α → Y → Prop} {K : T → Env → R Y} {i : Nat}
theorem wk_nil : Wk [] [] := trivial
theorem wk_none {o : Option T} {p q : Pt} (h : Wk p q) : Wk (o :: p) (none :: q) := by cases o <;> exact h
theorem wk_some {u : T} {p q : Pt} (h : Wk p q) : Wk (some u :: p) (some u :: q) := ⟨rfl, h⟩
def onLst (K : T → Env → R Y) : List T → Env → R Y := fun us => K (.ol us)
theorem x_lstO {a : MA} (h : J p (Ba a (onLst K)) t Rel) : J p (B (mLst a) K) t Rel := x_lst h
theorem l_lst {f : β → T} {us : List T} (xs : List β) (e : us = xs.map f) (h : J p (K (.ol (xs.map f))) t Rel) : J p (onLst K us) t Rel := by subst e; exact h
def onTup (K : T → Env → R Y) : List T → Env → R Y := fun us => K (mkTup us)
theorem x_tupO {a : MA} (h : J p (Ba a (onTup K)) t Rel) : J p (B (mTup a) K) t Rel := x_tup h
theorem l_tup {us : List T} (u : T) (e : mkTup us = u) (h : J p (K u) t Rel) : J p (onTup K us) t Rel := by subst e; exact h
theorem dec_self {b : Bool} : b = decide (b = true) := by simp
theorem tup_neg {q : Rat} : mkTup [.d (.int (0 - q.num)), .d (.int ((q.den : Nat) : Int))] = .d (fr (-q)) := by
  have : (0 : Int) - q.num = (-q).num := by rw [Rat.neg_num]; omega
  rw [this]
  show T.d (.tuple [.int (-q).num, .int ((q.den : Nat) : Int)]) = .d (.tuple [.int (-q).num, .int (((-q).den : Nat) : Int)])
  rw [Rat.neg_den]
end
section
def rAdd (q r : Rat) : R Rat := tOp (decide (Ok2 q r)) (q + r)
def rSub (q r : Rat) : R Rat := tOp (decide (Ok2 q r)) (q - r)
def rMul (q r : Rat) : R Rat := tOp (decide (Ok2 q r)) (q * r)
def rLt (q r : Rat) : R Bool := tOp (decide (hq q + hq r ≤ 400000)) (decide (q < r))
def rMk (t b : Int) : R Rat := tOp (decide (b ≠ 0 ∧ ib b ≤ 9000)) (Rat.divInt t b)
theorem fn_of {β : Type} {b : Bool} {a : β} {m : List T → R (T × List T)} {ts : List T} {F : β → T} (h : b = true → m ts = .ok (F a, [])) : Fn m ts (tOp b a) F fun _ => [] := by
  unfold Fn tOp
  cases b with
  | false => exact trivial
  | true => exact ⟨_, h rfl, rfl⟩
end
section
variable {Y α β : Type} {p : Pt} {t : R α} {Rel : α → Y → Prop} {K : T → Env → R Y} {i : Nat}
def onDisp (ks : List Key) (K : T → Env → R Y) : List T → Env → R Y := fun us ρ => L3.guard (decide (us.length = ks.length ∧ ks.Nodup ∧ ks.length ≤ 15)) (K (.od ks us) ρ)
theorem x_disp {ks : List Key} {a : MA} (h : J p (Ba a (onDisp ks K)) t Rel) : J p (B (mDisp ks a) K) t Rel := fun ρ m => by
  have := h ρ m
  simp only [B, Ba, onDisp, mDisp] at this ⊢
  rw [bind_assocS]
  have e : ∀ r : List T × Env, (L3.guard (decide (r.1.length = ks.length ∧ ks.Nodup ∧ ks.length ≤ 15)) (.ok (T.od ks r.1, r.2))).bind (fun x => K x.1 x.2) = L3.guard (decide (r.1.length = ks.length ∧ ks.Nodup ∧ ks.length ≤ 15)) (K (.od ks r.1) r.2) := fun r => by
    unfold L3.guard
    split <;> rfl
  simp only [e]
  exact this
theorem l_disp {ks : List Key} {us : List T} (u : T) (e : T.od ks us = u) (hg : decide (us.length = ks.length ∧ ks.Nodup ∧ ks.length ≤ 15) = true) (h : J p (K u) t Rel) : J p (onDisp ks K us) t Rel := fun ρ m => by
  subst e
  unfold onDisp
  rw [hg]
  exact h ρ m
def onKS (i : Nat) (k : Key) (KE : Env → R Y) : T → Env → R Y := fun v ρ => (ofO (atKo [] ρ[i]?)).bind fun tc => match tc with
  | .od ks ts => L3.guard (decide (ks.length < sLine)) ((ofO (putAtK i [] (.od (putT ks ts k v).1 (putT ks ts k v).2) ρ)).bind KE)
  | _ => .bad
theorem s_keySet {κ : SK Y} {k : PyData} {kk : Key} {me : MEx} (hk : PyData.key k = some kk) (h : J p (B me (onKS i kk κ.nx)) t Rel) : J p (Bs (mKeySet i kHere (pC k) me) κ) t Rel := fun ρ m => by
  have := h ρ m
  simp only [B, Bs] at this ⊢
  unfold mKeySet
  rw [bind_assocS]
  cases er : me ρ with
  | bad => rw [er] at this; exact this
  | exc x => rw [er] at this; exact this
  | ok r =>
    rw [er] at this
    have e1 : kHere r.2 = some [] := rfl
    have e2 : (pC k r.2).bind T.key = some kk := hk
    simp only [bind_okS] at this ⊢
    rw [e1, e2]
    simp only [ofO_some, bind_okS, bind_assocS] at this ⊢
    unfold onKS at this
    cases e3 : atKo [] r.2[i]? with
    | none => rw [e3] at this; exact this
    | some tc =>
      rw [e3] at this
      simp only [ofO_some, bind_okS] at this ⊢
      cases tc with
      | od ks ts =>
        dsimp only at this ⊢
        cases hg : decide (ks.length < sLine) with
        | false => rw [hg] at this; exact this
        | true =>
          rw [hg] at this
          simp only [guard_t, bind_assocS, bind_okS] at this ⊢
          exact this
      | _ => exact this
theorem ks_end {KE : Env → R Y} {kk : Key} {ks : List Key} {ts : List T} {v : T} (u : T) (n : Nat) (e : p[i]? = some (some (.od ks ts))) (hk : kAt ks kk = some n) (hl : decide (ks.length < sLine) = true) (eu : T.od ks (ts.set n v) = u) (h : J (p.set i (some u)) KE t Rel) : J p (onKS i kk KE v) t Rel := fun ρ m => by
  subst eu
  have hg := m.get e
  unfold onKS
  rw [hg]
  have e1 : atKo [] (some (some (T.od ks ts))) = some (T.od ks ts) := rfl
  have e2 : putT ks ts kk v = (ks, ts.set n v) := by unfold putT; rw [hk]
  have e3 : putAtK i [] (.od ks (ts.set n v)) ρ = some (ρ.set i (some (.od ks (ts.set n v)))) := by
    unfold putAtK
    rw [hg]
    rfl
  simp only [e1, ofO_some, bind_okS, hl, guard_t, e2, e3]
  exact h _ m.set
theorem ks_endN {KE : Env → R Y} {kk : Key} {ks : List Key} {ts : List T} {v : T} {t1 : β → R α} (F : β → T) (n : Nat) (a : β) (e : p[i]? = some (some (.od ks ts))) (hk : kAt ks kk = some n) (hl : decide (ks.length < sLine) = true) (eu : T.od ks (ts.set n v) = F a) (h : ∀ a, J (p.set i (some (F a))) KE (t1 a) Rel) : J p (onKS i kk KE v) ((R.ok a).bind t1) Rel := ks_end (F a) n e hk hl eu (h a)
theorem v_key {K : T → Env → R Y} {ks : List Key} {ts : List T} {k : PyData} {kk : Key} {n : Nat} (u : T) (hk : PyData.key k = some kk) (hn : kAt ks kk = some n) (hu : ts[n]? = some u) (h : J p (K u) t Rel) : J p (Bv (opKey (.od ks ts) (.d k)) K) t Rel := by
  have e : opKey (.od ks ts) (.d k) = .ok (.v u) := by
    unfold opKey
    have : T.key (.d k) = some kk := hk
    rw [this]
    simp [hn, hu]
  exact v_ok e h
end
section
variable {α β : Type}
theorem fz_ol3 {t u v : T} {x y z : PyData} (h : t.fz = some x) (k : u.fz = some y) (l : v.fz = some z) : T.fz (.ol [t, u, v]) = some (.list [x, y, z]) := by simp [h, k, l]
theorem fz_ot3 {t u v : T} {x y z : PyData} (h : t.fz = some x) (k : u.fz = some y) (l : v.fz = some z) : T.fz (.ot [t, u, v]) = some (.tuple [x, y, z]) := by simp [h, k, l]
@[irreducible] def tRep (xs : List β) (k : Int) : R (List β) := tOp (decide (-(2 ^ 62) ≤ k ∧ k < 2 ^ 62 ∧ xs.length * k.toNat ≤ sLine)) (List.replicate k.toNat xs).flatten
theorem ro_rep {u : T} {e : β → PyData} {xs : List β} {k : Int} (hu : u.lst? = some (xs.map e)) : Ro (opRep u (.d (.int k))) (tRep xs k) fun zs => .nl (zs.map e) := by
  unfold tRep
  exact ro_guard (by
  unfold opRep
  rw [hu]
  dsimp only
  rw [List.length_map, List.map_flatten, List.map_replicate])
end
section
variable {α β : Type}
theorem s_augIx {Y : Type} {p : Pt} {Rel : α → Y → Prop} {κ : SK Y} {i : Nat} {mi me : MP} {f : Int → Int → Int} {xs : List Int} {j y : Int} {t1 : List Int → R α} (e : p[i]? = some (some (.ol (xs.map (dE eI))))) (hj : ∀ ρ, Mt p ρ → mi ρ = some (.d (.int j))) (hy : ∀ ρ, Mt p ρ → me ρ = some (.d (.int y))) (h : ∀ zs, J (p.set i (some (.ol (zs.map (dE eI))))) κ.nx (t1 zs) Rel) :
    J p (Bs (mAugIx i lHere mi f me) κ) ((tIdx xs j).bind fun x => (tSet xs j (f x y)).bind t1) Rel := fun ρ m => by
  have hg := m.get e
  have e2 : lstAt [] ρ[i]? = some (xs.map (dE eI)) := by rw [hg]; rfl
  unfold Bs mAugIx
  rw [e_lHere, hj ρ m, hy ρ m]
  simp only [ofO_some, bind_okS, Option.bind_some, e_int?]
  rw [e2]
  simp only [ofO_some, bind_okS, Option.bind_some, e_int?, List.length_map]
  unfold tIdx tGet tSet atI
  cases hk : ixN xs.length j with
  | none => exact trivial
  | some k =>
    simp only [ofO_some, bind_okS, Option.bind_some]
    cases hx : xs[k]? with
    | none => exact trivial
    | some x =>
      have h2 : (xs.map (dE eI))[k]? = some (.d (.int x)) := by rw [List.getElem?_map, hx]; rfl
      have e3 : putAt i [] ((xs.map (dE eI)).set k (.d (.int (f x y)))) ρ = some (ρ.set i (some (.ol ((xs.set k (f x y)).map (dE eI))))) := by
        rw [e_putAt, hg, e_putK]
        simp [T.put?, List.map_set]
      rw [h2]
      simp only [Option.bind_some, e_int?, ofO_some, bind_okS, e3, SK.ap]
      exact h _ _ m.set
end
section
variable {Y α β : Type} {p : Pt} {t : R α} {Rel : α → Y → Prop} {κ : SK Y} {i : Nat} {K : T → Env → R Y} {KI : List T → Env → R Y}
theorem s_thenFz {s : MS} (h : J p (Bs s ⟨fun ρ => (fzSlot i ρ).bind κ.nx, κ.rt, κ.bk, κ.ct⟩) t Rel) : J p (Bs (mThenFz i s) κ) t Rel := fun ρ m => by
  have := h ρ m
  simp only [Bs] at this ⊢
  unfold mThenFz
  rw [bind_assocS]
  have e : (fun o => (fzNext i o).bind κ.ap) = (⟨fun ρ => (fzSlot i ρ).bind κ.nx, κ.rt, κ.bk, κ.ct⟩ : SK Y).ap := by
    funext o
    cases o with
    | next ρ => unfold fzNext; rw [bind_assocS]; rfl
    | _ => rfl
  rw [e]
  exact this
theorem n_fz {u : T} {v : PyData} {KE : Env → R Y} (e : p[i]? = some (some u)) (f : u.fz = some v) (h : J (p.set i (some (.d v))) KE t Rel) : J p (fun ρ => (fzSlot i ρ).bind KE) t Rel := fun ρ m => by
  have e1 : fzSlot i ρ = .ok (ρ.set i (some (.d v))) := by
    unfold fzSlot
    rw [m.get e]
    dsimp only
    rw [f]
  show Rf ((fzSlot i ρ).bind KE) t Rel
  rw [e1]
  exact h _ m.set
def dnI (i j : Int) : List Int := (List.range (i - j).toNat).map fun k => i + (k : Nat) * (-1)
@[irreducible] def tDown (i j : Int) : R (List Int) := tOp (small62 i && small62 j) (dnI i j)
def onO (m : MO) (KO : Option Int → Env → R Y) : Env → R Y := fun ρ => (ofO (m ρ)).bind fun o => KO o ρ
theorem o_none {KO : Option Int → Env → R Y} (h : J p (KO none) t Rel) : J p (onO oNone KO) t Rel := h
def onI (KO : Option Int → Env → R Y) : T → Env → R Y := fun v ρ => match v with
  | .d (.int i) => KO (some i) ρ
  | _ => .bad
theorem o_some {m : MP} {KO : Option Int → Env → R Y} (h : J p (Bp m (onI KO)) t Rel) : J p (onO (oSome m) KO) t Rel := fun ρ hm => by
  have := h ρ hm
  simp only [Bp, onO] at this ⊢
  rw [e_oSome]
  cases e : m ρ with
  | none => rw [e] at this; exact this
  | some v =>
    rw [e] at this
    cases v with
    | d d => cases d <;> exact this
    | _ => exact this
theorem o_int {j : Int} {KO : Option Int → Env → R Y} (h : J p (KO (some j)) t Rel) : J p (onI KO (.d (.int j))) t Rel := h
def onSl (op : T → Option Int → Option Int → Option RV) (v : T) (lo hi : Option Int) (K : T → Env → R Y) : Env → R Y := fun ρ => (ofO (op v lo hi)).bind fun z => K z.toT ρ
theorem x_sl {op : T → Option Int → Option Int → Option RV} {m : MP} {ml mh : MO} (h : J p (Bp m fun v => onO ml fun lo => onO mh fun hi => onSl op v lo hi K) t Rel) : J p (B (mSl op m ml mh) K) t Rel := fun ρ hm => by
  have := h ρ hm
  simpa [B, Bp, onO, onSl, mSl] using this
theorem l_slL {e : β → PyData} {u : T} {xs : List β} {lo hi : Option Int} (hu : opSlL u lo hi = some (.nl (cutG (xs.map e) lo hi))) (h : J p (K (.ol ((tCut xs lo hi).map (dE e)))) t Rel) : J p (onSl opSlL u lo hi K) t Rel := fun ρ m => by
  unfold onSl
  rw [hu, cut_map]
  simp only [ofO_some, bind_okS, RV.toT, dmap]
  exact h ρ m
theorem sl_o {e : β → PyData} {xs : List β} {lo hi : Option Int} : opSlL (.ol (xs.map (dE e))) lo hi = some (.nl (cutG (xs.map e) lo hi)) := by
  rw [e_slO, show T.allD (xs.map (dE e)) = some (xs.map e) from e_allDMapL]
  rfl
end
section
variable {Y α β : Type} {p : Pt} {t : R α} {Rel : α → Y → Prop} {K : T → Env → R Y} {i : Nat}
@[irreducible] def tIns (xs : List β) (j : Int) (x : β) : R (List β) := tOp (decide (xs.length < sLine ∧ 0 ≤ j ∧ j < 2 ^ 63)) (xs.take j.toNat ++ [x] ++ xs.drop j.toNat)
end
section
variable {Y α : Type} {p : Pt} {t : R α} {Rel : α → Y → Prop} {κ : SK Y} {G : Env → R Y} {v : T}
theorem n_seq {r : T → Env → R Y} {b c : Env → R Y} (h : J p G t Rel) : J p (⟨G, r, b, c⟩ : SK Y).nx t Rel := h
theorem r_seq (h : J p (κ.rt v) t Rel) : J p ((⟨G, κ.rt, κ.bk, κ.ct⟩ : SK Y).rt v) t Rel := h
end
section
variable {Y α β : Type} {p : Pt} {t : R α} {Rel : α → Y → Prop} {K : T → Env → R Y} {i : Nat}
theorem x_preFz {m : MEx} {u : T} {v : PyData} (e : p[i]? = some (some u)) (f : u.fz = some v) (h : J (p.set i (some (.d v))) (B m K) t Rel) : J p (B (mPreFz i m) K) t Rel := fun ρ hm => by
  have e1 : fzSlot i ρ = .ok (ρ.set i (some (.d v))) := by
    unfold fzSlot
    rw [hm.get e]
    dsimp only
    rw [f]
  have := h _ (hm.set (i := i) (t := .d v))
  unfold B mPreFz at *
  rw [e1]
  exact this
theorem l_fix {us : List T} (u : T) (e : T.ol us = u) (h : J p (K u) t Rel) : J p (onLst K us) t Rel := by subst e; exact h
def onMethH (i : Nat) (c : Int) (op : List T → List T → Option (T × List T)) (us ts : List T) (K : T → Env → R Y) : List T → Env → R Y := fun as ρ => (ofO (op ts as)).bind fun z => (ofO (putAt i [c] z.2 (ρ.set i (some (.ol us))))).bind fun ρ' => K z.1 ρ'
theorem x_methH {op : List T → List T → Option (T × List T)} {c : Int} {us : List T} (ts : List T) {ma : MA} (e : p[i]? = some (some (.ol us))) (el : lstAt [c] (some (some (.ol us))) = some ts) (h : J (p.set i none) (Ba ma (onMethH i c op us ts K)) t Rel) : J p (B (mMethH i (lIx lHere (pC (.int c))) op ma) K) t Rel := fun ρ m => by
  have hg := m.get e
  have := h _ (m.unset (i := i) (x := none))
  simp only [B, Ba] at this ⊢
  unfold mMethH
  have e1 : lIx lHere (pC (.int c)) ρ = some [c] := rfl
  rw [e1]
  simp only [ofO_some, bind_okS]
  rw [hg]
  have ej : (some (some (T.ol us))).join = some (T.ol us) := rfl
  rw [ej, el]
  simp only [ofO_some, bind_okS, bind_assocS]
  unfold onMethH at this
  exact this
theorem m_appendH {f : β → T} {xs : List β} {x : β} {c : Int} {us : List T} {u : T} {t1 : List β → R α} (F : List β → T) (hi : Nat.ble (i + 1) p.length = true) (eu : u = f x) (ef : ∀ zs : List β, T.put? [c] (.ol (zs.map f)) (.ol us) = some (F zs)) (h : ∀ zs, J (p.set i (some (F zs))) (K (.d .none)) (t1 zs) Rel) :
    J p (onMethH i c opAppend us (xs.map f) K [u]) ((tApp xs x).bind t1) Rel := fun ρ m => by
  have hl : i < ρ.length := by rw [← m.len]; exact Nat.le_of_ble_eq_true hi
  unfold onMethH
  rw [e_append]
  unfold tApp tOp
  rw [List.length_map]
  cases hh : decide (xs.length < sLine) with
  | false => exact trivial
  | true =>
    have e3 : putAt i [c] ((xs.map f) ++ [u]) (ρ.set i (some (.ol us))) = some (ρ.set i (some (F (xs ++ [x])))) := by
      subst eu
      have h1 : (xs.map f) ++ [f x] = (xs ++ [x]).map f := by simp
      rw [e_putAt, List.getElem?_set_self hl, e_putK, h1, ef]
      simp
    simp only [if_true, ofO_some, bind_okS, e3, guard_t]
    exact h _ _ m.set
end
@[simp] theorem tOp_t {β : Type} {x : β} : tOp true x = .ok x := (rfl)
end L4
namespace Sr
open PySem PySem.Spec PyProof.Rows L2 L3 L4
theorem fn_times {q r : Rat} : Fn m_times [.d (fr q), .d (fr r)] (rMul q r) (dE fr) fun _ => [] := fn_of fun h => times_eqW (of_decide_eq_true h)
theorem lf_loop {mt : MT} {mb : MS} {x y : Option T} (ht : ∀ a b : Int, mt [x, y, some (.d (.int a)), some (.d (.int b))] = .ok (decide (0 < b), [x, y, some (.d (.int a)), some (.d (.int b))]))
    (hb : ∀ a b : Int, b ≠ 0 → mb [x, y, some (.d (.int a)), some (.d (.int b))] = .ok (.next [x, y, some (.d (.int b)), some (.d (.int (a.fmod b)))])) :
    ∀ (n : Nat) (a b : Int), b.natAbs ≤ n → 0 ≤ a → 0 ≤ b → mWhile mt mb [x, y, some (.d (.int a)), some (.d (.int b))] = .ok (.next [x, y, some (.d (.int (Int.gcd a b : Nat))), some (.d (.int 0))]) := by
  intro n
  induction n with
  | zero =>
    intro a b h ha _
    have : b = 0 := by omega
    subst this
    rw [mWhile_eq, ht]
    simp
    omega
  | succ n ih =>
    intro a b h ha hb0
    by_cases z : b = 0
    · subst z
      rw [mWhile_eq, ht]
      simp
      omega
    · have hm := fmod_abs a b z
      have := ih b (a.fmod b) (by omega) hb0 (Int.fmod_nonneg_of_pos a (by omega))
      have hp : 0 < b := by omega
      rw [mWhile_eq, ht]
      simp [hp, hb _ _ z, this, gcd_fmod]
theorem lf_eq {t b : Int} (hb : b ≠ 0) (hs : ib b ≤ 9000) : m__law_f [.d (.int t), .d (.int b)] = .ok (.d (fr (Rat.divInt t b)), []) := by
  have hd1 : divOk t (lowM t b) = true := divOk_ib (lowM_ne hb) (Nat.le_trans (lowM_ib hb) hs)
  have hd2 : divOk b (lowM t b) = true := divOk_ib (lowM_ne hb) (Nat.le_trans (lowM_ib hb) hs)
  have e := fr_low (t := t) hb
  have hg : Int.gcd (t.natAbs : Int) (b.natAbs : Int) = Int.gcd t b := by simp [Int.gcd]
  have hw := lf_loop (x := some (.d (.int t))) (y := some (.d (.int b))) (mt := mTest (mLift (pBin opGt (pVar 3) (pC (.int 0))))) (mb := mPar 2 3 (mCons (mVar 3) (mCons (mLift (pBin opMod (pVar 2) (pVar 3))) (mNil)))) (fun a b => by simp) (fun a b h => by simp [h]) b.natAbs (t.natAbs : Int) (b.natAbs : Int) (by simp) (by omega) (by omega)
  rw [hg] at hw
  unfold m__law_f
  unfold lowM at hd1 hd2 e
  by_cases h : b < 0
  · rw [if_pos h] at hd1 hd2 e
    simp at hd1 hd2 e
    simp [hw, h, hd1, hd2, e]
  · rw [if_neg h] at hd1 hd2 e
    simp [hw, h, hd1, hd2, e]
theorem fn_lf {t b : Int} : Fn m__law_f [.d (.int t), .d (.int b)] (rMk t b) (dE fr) fun _ => [] := fn_of fun h => by
  obtain ⟨h1, h2⟩ := of_decide_eq_true h
  exact lf_eq h1 h2
theorem den_ne (q r : Rat) : (q.den : Int) * r.den ≠ 0 := by
  have := q.den_nz
  have := r.den_nz
  exact Int.mul_ne_zero (by omega) (by omega)
theorem fn_lplus3 {q r : Rat} : Fn m__law_plus_3 [.d (fr q), .d (fr r)] (rAdd q r) (dE fr) fun _ => [] := fn_of fun h => by
  obtain ⟨hd, h⟩ := of_decide_eq_true h
  have a := hq_num q
  have b := hq_num r
  have c := hq_denI q
  have d := hq_denI r
  have m := dq_bot q r
  have h1 : mulOk q.num r.den = true := mulOk_ib (by omega)
  have h2 : mulOk r.num q.den = true := mulOk_ib (by omega)
  have h3 : mulOk q.den r.den = true := mulOk_ib (by omega)
  unfold m__law_plus_3
  rw [fr_def, fr_def]
  simp [h1, h2, h3, lf_eq (den_ne q r) (by omega), add_divInt q r]
end Sr
namespace L4
open PySem PySem.Spec PyProof.Rows L2 L3
section
variable {X Y α β γ δ : Type} {p : Pt} {t t2 : R α} {Rel : α → Y → Prop} {K : T → Env → R Y} {i : Nat} {κ : SK Y}
inductive Fzp : Pt → Pt → Prop
  | nil : Fzp [] []
  | none {o : Option T} {a b : Pt} : Fzp a b → Fzp (o :: a) (none :: b)
  | some {u : T} {x : PyData} {a b : Pt} : u.fz = some x → Fzp a b → Fzp (some u :: a) (some (.d x) :: b)
theorem Fzp.mt : ∀ {a b : Pt} {ρ : Env}, Fzp a b → Mt a ρ → Mt b (fzEnv ρ)
  | _, _, [], .nil, _ => trivial
  | _, _, o :: ρ, .none (o := Option.none) h, m => h.mt (ρ := ρ) m
  | _, _, o :: ρ, .none (o := Option.some _) h, m => h.mt (ρ := ρ) m.2
  | _, _, o :: ρ, .some (u := u) (x := x) e h, m => by
    refine ⟨?_, h.mt (ρ := ρ) m.2⟩
    show fzO o = _
    rw [m.1]
    show (u.fz).map T.d = _
    rw [e]; rfl
  | _, _, [], .none (o := Option.none) h, m => m.elim
  | _, _, [], .none (o := Option.some _) h, m => m.elim
  | _, _, [], .some e h, m => m.elim
  | _, _, _ :: _, .nil, m => m.elim
theorem calm_fr (q : Rat) : calm (fr q) = true := rfl
instance decW : DecidableEq (List Rat × List Rat × Rat) := inferInstance
instance decWW : DecidableEq (List (List Rat × List Rat × Rat) × List (List Rat × List Rat × Rat)) := inferInstance
instance decRule : DecidableEq (List (List (List Rat × List Rat × Rat) × List (List Rat × List Rat × Rat)) × List (List Rat × List Rat × Rat)) := inferInstance
theorem Nice.opt {e : β → PyData} {k : Nat} (h : Nice e k) (hn : ∀ a, e a ≠ .none) : Nice (eO e) k := ⟨fun a b z => by
  cases a with
  | none => cases b with
    | none => rfl
    | some b => exact (hn b z.symm).elim
  | some a => cases b with
    | none => exact (hn a z).elim
    | some b => rw [h.inj _ _ z], fun a n => by
  cases a with
  | none => exact (nice_N.up (Nat.zero_le k)).plk () n
  | some a => exact h.plk a n⟩
end
end L4
namespace Sr
open PySem PySem.Spec PyProof.Rows L2 L3 L4
end Sr
namespace Sr
open PySem PySem.Spec PyProof.Rows L2 L3 L4
end Sr
namespace Sx
abbrev Dc (α : Type) := List (Nat × α)
section
variable {α : Type}
def keys (d : Dc α) : List Nat := d.map Prod.fst
def dget : Dc α → Nat → Option α
  | [], _ => none
  | (j, v) :: r, k => if j = k then some v else dget r k
def dput : Dc α → Nat → α → Dc α
  | [], k, v => [(k, v)]
  | (j, w) :: r, k, v => if j = k then (j, v) :: r else (j, w) :: dput r k v
def ddel : Dc α → Nat → Dc α
  | [], _ => []
  | (j, w) :: r, k => if j = k then r else (j, w) :: ddel r k
theorem keys_cons {x : Nat × α} {d : Dc α} : keys (x :: d) = x.1 :: keys d := rfl
theorem keys_app {d e : Dc α} : keys (d ++ e) = keys d ++ keys e := List.map_append
theorem keys_map {β : Type} {d : Dc α} {f : Nat × α → β} : keys (d.map fun x => (x.1, f x)) = keys d := by simp [keys]
theorem get_none {d : Dc α} {k : Nat} : dget d k = none ↔ k ∉ keys d := by
  induction d with
  | nil => simp [dget, keys]
  | cons x d ih =>
    obtain ⟨j, v⟩ := x
    rw [dget, keys_cons]
    by_cases h : j = k
    · simp [h]
    · simp [h, ih, Ne.symm h]
theorem get_mem {d : Dc α} {k : Nat} {v : α} (h : dget d k = some v) : (k, v) ∈ d := by
  induction d with
  | nil => simp [dget] at h
  | cons x d ih =>
    obtain ⟨j, w⟩ := x
    rw [dget] at h
    by_cases e : j = k
    · rw [if_pos e] at h; cases h; subst e; exact List.mem_cons_self
    · rw [if_neg e] at h; exact List.mem_cons_of_mem _ (ih h)
theorem mem_get {d : Dc α} (nd : (keys d).Nodup) {k : Nat} {v : α} (h : (k, v) ∈ d) : dget d k = some v := by
  induction d with
  | nil => simp at h
  | cons x d ih =>
    obtain ⟨j, w⟩ := x
    rw [keys_cons, List.nodup_cons] at nd
    rw [dget]
    rcases List.mem_cons.mp h with e | e
    · cases e; simp
    · have : j ≠ k := fun z => nd.1 (by rw [z]; exact List.mem_map.mpr ⟨_, e, rfl⟩)
      rw [if_neg this]
      exact ih nd.2 e
theorem mem_keys {d : Dc α} {k : Nat} : k ∈ keys d ↔ ∃ v, dget d k = some v := by
  cases h : dget d k with
  | none => simp [get_none.mp h]
  | some v => simp; exact List.mem_map.mpr ⟨_, get_mem h, rfl⟩
theorem keys_put {d : Dc α} {k : Nat} {v : α} : (k ∈ keys d → keys (dput d k v) = keys d) ∧ (k ∉ keys d → dput d k v = d ++ [(k, v)]) := by
  induction d with
  | nil => simp [dput, keys]
  | cons x d ih =>
    obtain ⟨j, w⟩ := x
    rw [dput, keys_cons]
    by_cases e : j = k
    · subst e; simp [keys_cons]
    · rw [if_neg e]
      refine ⟨fun h => ?_, fun h => ?_⟩
      · rcases List.mem_cons.mp h with z | z
        · exact (e z.symm).elim
        · rw [keys_cons, ih.1 z]
      · rw [ih.2 fun z => h (List.mem_cons_of_mem _ z)]; rfl
theorem mem_put {d : Dc α} {k j : Nat} {v : α} : j ∈ keys (dput d k v) ↔ j ∈ keys d ∨ j = k := by
  by_cases h : k ∈ keys d
  · rw [keys_put.1 h]
    exact ⟨.inl, fun z => z.elim id fun e => e ▸ h⟩
  · rw [keys_put.2 h, keys_app]; simp [keys]
theorem put_nodup {d : Dc α} {k : Nat} {v : α} (nd : (keys d).Nodup) : (keys (dput d k v)).Nodup := by
  by_cases h : k ∈ keys d
  · rw [keys_put.1 h]; exact nd
  · rw [keys_put.2 h, keys_app, List.nodup_append]
    exact ⟨nd, by simp [keys], fun a ha b hb e => by simp [keys] at hb; subst hb; subst e; exact h ha⟩
theorem put_all {d : Dc α} {k : Nat} {v : α} {P : Nat × α → Prop} (h : ∀ x ∈ d, P x) (hv : P (k, v)) : ∀ x ∈ dput d k v, P x := by
  induction d with
  | nil => intro x hx; simp [dput] at hx; subst hx; exact hv
  | cons y d ih =>
    obtain ⟨j, w⟩ := y
    intro x hx
    rw [dput] at hx
    by_cases e : j = k
    · rw [if_pos e] at hx
      rcases List.mem_cons.mp hx with z | z
      · subst z; rw [e]; exact hv
      · exact h x (List.mem_cons_of_mem _ z)
    · rw [if_neg e] at hx
      rcases List.mem_cons.mp hx with z | z
      · subst z; exact h _ List.mem_cons_self
      · exact ih (fun x hx => h x (List.mem_cons_of_mem _ hx)) x z
theorem del_sub {d : Dc α} {k : Nat} : (ddel d k).Sublist d := by
  induction d with
  | nil => exact .refl _
  | cons y d ih =>
    obtain ⟨j, w⟩ := y
    rw [ddel]
    split
    · exact List.sublist_cons_self _ _
    · exact ih.cons₂ _
theorem del_nodup {d : Dc α} {k : Nat} (nd : (keys d).Nodup) : (keys (ddel d k)).Nodup := nd.sublist (del_sub.map _)
theorem mem_del {d : Dc α} (nd : (keys d).Nodup) {k j : Nat} : j ∈ keys (ddel d k) ↔ j ∈ keys d ∧ j ≠ k := by
  induction d with
  | nil => simp [ddel, keys]
  | cons y d ih =>
    obtain ⟨i, w⟩ := y
    rw [keys_cons, List.nodup_cons] at nd
    rw [ddel]
    by_cases e : i = k
    · rw [if_pos e]
      subst e
      rw [keys_cons]
      refine ⟨fun h => ⟨List.mem_cons_of_mem _ h, fun z => nd.1 (z ▸ h)⟩, fun h => ?_⟩
      rcases List.mem_cons.mp h.1 with z | z
      · exact (h.2 z).elim
      · exact z
    · rw [if_neg e, keys_cons, keys_cons, List.mem_cons, List.mem_cons, ih nd.2]
      refine ⟨fun h => h.elim (fun z => ⟨.inl z, fun y => e (z.symm.trans y)⟩) fun z => ⟨.inr z.1, z.2⟩, fun h => h.1.elim .inl fun z => .inr ⟨z, h.2⟩⟩
theorem get_del {d : Dc α} (nd : (keys d).Nodup) {k j : Nat} : dget (ddel d k) j = if j = k then none else dget d j := by
  induction d with
  | nil => simp [ddel, dget]
  | cons y d ih =>
    obtain ⟨i, w⟩ := y
    rw [keys_cons, List.nodup_cons] at nd
    rw [ddel]
    by_cases e : i = k
    · rw [if_pos e]
      subst e
      by_cases h : j = i
      · subst h; rw [if_pos rfl]; exact get_none.mpr nd.1
      · rw [if_neg h, dget, if_neg (Ne.symm h)]
    · rw [if_neg e, dget, dget, ih nd.2]
      by_cases h : j = k
      · subst h; simp [e]
      · simp [h]
theorem get_app {d e : Dc α} {k : Nat} : dget (d ++ e) k = (dget d k).or (dget e k) := by
  induction d with
  | nil => simp [dget]
  | cons y d ih =>
    obtain ⟨i, w⟩ := y
    rw [List.cons_append, dget, dget, ih]
    by_cases h : i = k
    · simp [h]
    · simp [h]
theorem get_map {β : Type} {d : Dc α} {f : Nat × α → β} {k : Nat} : dget (d.map fun x => (x.1, f x)) k = (dget d k).map fun v => f (k, v) := by
  induction d with
  | nil => rfl
  | cons y d ih =>
    obtain ⟨i, w⟩ := y
    rw [List.map_cons, dget, dget, ih]
    by_cases h : i = k
    · simp [h]
    · simp [h]
end
abbrev Rw := Dc Rat
def rowv (r : Rw) (k : Nat) : Rat := (dget r k).getD 0
def dotD : Rw → (Nat → Rat) → Rat
  | [], _ => 0
  | (j, v) :: r, z => v * z j + dotD r z
theorem rowv_cons {j k : Nat} {v : Rat} {r : Rw} : rowv ((j, v) :: r) k = if j = k then v else rowv r k := by
  unfold rowv
  rw [dget]
  by_cases h : j = k
  · simp [h]
  · simp [h]
theorem rowv_no {r : Rw} {k : Nat} (h : k ∉ keys r) : rowv r k = 0 := by
  unfold rowv; rw [get_none.mpr h]; rfl
theorem rowv_mem {r : Rw} (nd : (keys r).Nodup) {k : Nat} {v : Rat} (h : (k, v) ∈ r) : rowv r k = v := by
  unfold rowv; rw [mem_get nd h]; rfl
theorem dotD_put {r : Rw} {k : Nat} {v : Rat} {z : Nat → Rat} : dotD (dput r k v) z = dotD r z + (v - rowv r k) * z k := by
  induction r with
  | nil => simp [dput, dotD, rowv, dget]; grind
  | cons y r ih =>
    obtain ⟨j, w⟩ := y
    rw [dput, rowv_cons]
    by_cases h : j = k
    · rw [if_pos h, if_pos h, dotD, dotD, h]; grind
    · rw [if_neg h, if_neg h, dotD, dotD, ih]; grind
theorem dotD_del {r : Rw} {k : Nat} {z : Nat → Rat} : dotD (ddel r k) z = dotD r z - rowv r k * z k := by
  induction r with
  | nil => simp [ddel, dotD, rowv, dget]; grind
  | cons y r ih =>
    obtain ⟨j, w⟩ := y
    rw [ddel, rowv_cons]
    by_cases h : j = k
    · rw [if_pos h, if_pos h, dotD, h]; grind
    · rw [if_neg h, if_neg h, dotD, dotD, ih]; grind
theorem dotD_congr {r : Rw} {z z' : Nat → Rat} (h : ∀ j ∈ keys r, z j = z' j) : dotD r z = dotD r z' := by
  induction r with
  | nil => rfl
  | cons y r ih =>
    obtain ⟨j, w⟩ := y
    rw [dotD, dotD, h j List.mem_cons_self, ih fun i hi => h i (List.mem_cons_of_mem _ hi)]
def updZ (z : Nat → Rat) (k : Nat) (v : Rat) : Nat → Rat := fun j => if j = k then v else z j
theorem dotD_upd {r : Rw} (nd : (keys r).Nodup) {z : Nat → Rat} {k : Nat} {v : Rat} : dotD r (updZ z k v) = dotD r z + rowv r k * (v - z k) := by
  induction r with
  | nil => simp [dotD, rowv, dget]; grind
  | cons y r ih =>
    obtain ⟨j, w⟩ := y
    rw [keys_cons, List.nodup_cons] at nd
    rw [dotD, dotD, rowv_cons]
    by_cases h : j = k
    · have e : rowv r k = 0 := rowv_no (h ▸ nd.1)
      rw [ih nd.2, if_pos h, e]
      have : updZ z k v j = v := by simp [updZ, h]
      rw [this, h]; grind
    · have : updZ z k v j = z j := by simp [updZ, h]
      rw [ih nd.2, if_neg h, this]; grind
def putOn (one other : Rw) (share : Rat) : Rw := other.foldl (fun one x => if rowv one x.1 + share * x.2 = 0 then ddel one x.1 else dput one x.1 (rowv one x.1 + share * x.2)) one
theorem dotD_putOn {share : Rat} {z : Nat → Rat} : ∀ {other one : Rw}, dotD (putOn one other share) z = dotD one z + share * dotD other z
  | [], one => by simp [putOn, dotD]; grind
  | (k, v) :: other, one => by
    have e : putOn one ((k, v) :: other) share = putOn (if rowv one k + share * v = 0 then ddel one k else dput one k (rowv one k + share * v)) other share := rfl
    rw [e, dotD_putOn, dotD]
    split
    · rename_i h
      rw [dotD_del]
      have : rowv one k = -(share * v) := by grind
      rw [this]; grind
    · rw [dotD_put]; grind
structure RowK (P : Nat → Prop) (r : Rw) : Prop where
  nd : (keys r).Nodup
  ks : ∀ j ∈ keys r, P j
  nz : ∀ x ∈ r, x.2 ≠ 0
theorem RowK.imp {P Q : Nat → Prop} {r : Rw} (h : RowK P r) (k : ∀ j, P j → Q j) : RowK Q r := ⟨h.nd, fun j hj => k j (h.ks j hj), h.nz⟩
theorem RowK.del {P : Nat → Prop} {r : Rw} {k : Nat} (h : RowK P r) : RowK (fun j => P j ∧ j ≠ k) (ddel r k) := ⟨del_nodup h.nd, fun j hj => by
  have := (mem_del h.nd).mp hj
  exact ⟨h.ks j this.1, this.2⟩, fun x hx => h.nz x (del_sub.subset hx)⟩
theorem RowK.putOn {P : Nat → Prop} {share : Rat} : ∀ {other one : Rw}, RowK P one → (∀ j ∈ keys other, P j) → RowK P (Sx.putOn one other share)
  | [], one, h, _ => h
  | (k, v) :: other, one, h, ho => by
    have e : Sx.putOn one ((k, v) :: other) share = Sx.putOn (if rowv one k + share * v = 0 then ddel one k else dput one k (rowv one k + share * v)) other share := rfl
    rw [e]
    refine RowK.putOn ?_ fun j hj => ho j (List.mem_cons_of_mem _ hj)
    split
    · exact h.del.imp fun j hj => hj.1
    · rename_i hnz
      refine ⟨put_nodup h.nd, fun j hj => ?_, put_all h.nz hnz⟩
      rcases mem_put.mp hj with z | z
      · exact h.ks j z
      · subst z; exact ho _ List.mem_cons_self
theorem dotD_map {r : Rw} {c : Rat} {z : Nat → Rat} : dotD (r.map fun x => (x.1, 0 - x.2 / c)) z = -(dotD r z / c) := by
  induction r with
  | nil => simp [dotD]; grind
  | cons y r ih =>
    obtain ⟨j, w⟩ := y
    rw [List.map_cons, dotD, dotD, ih]
    grind
end Sx
namespace Sx
structure St where
  ws : List Rat
  sums : Dc Rw
def St.w (s : St) (j : Nat) : Rat := s.ws.getD j 0
def St.row (s : St) (p : Nat) : Rw := (dget s.sums p).getD []
def Yof (s : St) (z : Nat → Rat) (j : Nat) : Rat := match dget s.sums j with
  | some r => s.w j + dotD r z
  | none => z j
def wsAll (q : Nat) (step : Rat) (rest : Dc Rw) (ws : List Rat) : List Rat := rest.foldl (fun ws x => if rowv x.2 q ≠ 0 then ws.set x.1 (ws.getD x.1 0 + rowv x.2 q * step) else ws) ws
def thereOf (p : Nat) (many : Rat) (here : Rw) : Rw := (p, 1 / many) :: here.map fun x => (x.1, 0 - x.2 / many)
def rowN (q : Nat) (there : Rw) (r : Rw) : Rw := if rowv r q ≠ 0 then putOn (ddel r q) there (rowv r q) else ddel r q
def exch (s : St) (p q : Nat) : St :=
  let here := s.row p
  let many := rowv here q
  let step := (0 - s.w p) / many
  let there := thereOf p many (ddel here q)
  let rest := ddel s.sums p
  let ws1 := (s.ws.set p 0).set q ((s.ws.set p 0).getD q 0 + step)
  ⟨wsAll q step rest ws1, rest.map (fun x => (x.1, rowN q there x.2)) ++ [(q, there)]⟩
theorem wsAll_len {q : Nat} {step : Rat} : ∀ {rest : Dc Rw} {ws : List Rat}, (wsAll q step rest ws).length = ws.length
  | [], ws => rfl
  | (k, r) :: rest, ws => by
    have e : wsAll q step ((k, r) :: rest) ws = wsAll q step rest (if rowv r q ≠ 0 then ws.set k (ws.getD k 0 + rowv r q * step) else ws) := rfl
    rw [e, wsAll_len]
    split <;> simp
theorem set_getD {ws : List Rat} {k j : Nat} {v : Rat} (h : k < ws.length) : (ws.set k v).getD j 0 = if j = k then v else ws.getD j 0 := by
  rw [List.getD_eq_getElem?_getD, List.getD_eq_getElem?_getD]
  by_cases e : j = k
  · subst e; simp [h]
  · rw [List.getElem?_set_ne (Ne.symm e), if_neg e]
theorem wsAll_get {q : Nat} {step : Rat} : ∀ {rest : Dc Rw} {ws : List Rat}, (keys rest).Nodup → (∀ k ∈ keys rest, k < ws.length) → ∀ j, (wsAll q step rest ws).getD j 0 = match dget rest j with | some r => ws.getD j 0 + rowv r q * step | none => ws.getD j 0
  | [], ws, _, _, j => rfl
  | (k, r) :: rest, ws, nd, lt, j => by
    rw [keys_cons, List.nodup_cons] at nd
    have e : wsAll q step ((k, r) :: rest) ws = wsAll q step rest (if rowv r q ≠ 0 then ws.set k (ws.getD k 0 + rowv r q * step) else ws) := rfl
    have hk : k < ws.length := lt k List.mem_cons_self
    have e2 : ∀ i, (if rowv r q ≠ 0 then ws.set k (ws.getD k 0 + rowv r q * step) else ws).getD i 0 = if i = k then ws.getD k 0 + rowv r q * step else ws.getD i 0 := fun i => by
      split
      · exact set_getD hk
      · rename_i h
        have h0 : rowv r q = 0 := by simpa using h
        rw [h0]
        by_cases z : i = k
        · subst z; rw [if_pos rfl]; grind
        · rw [if_neg z]
    have el : (if rowv r q ≠ 0 then ws.set k (ws.getD k 0 + rowv r q * step) else ws).length = ws.length := by split <;> simp
    rw [e, wsAll_get nd.2 (fun i hi => by rw [el]; exact lt i (List.mem_cons_of_mem _ hi)) j, dget]
    by_cases z : k = j
    · subst z
      rw [if_pos rfl, get_none.mpr nd.1]
      dsimp only
      rw [e2, if_pos rfl]
    · rw [if_neg z]
      cases dget rest j with
      | none => dsimp only; rw [e2, if_neg (Ne.symm z)]
      | some r' => dsimp only; rw [e2, if_neg (Ne.symm z)]
structure Shape (n : Nat) (s : St) : Prop where
  len : s.ws.length = n
  nd : (keys s.sums).Nodup
  lt : ∀ k ∈ keys s.sums, k < n
  rk : ∀ k r, dget s.sums k = some r → RowK (fun j => j < n ∧ j ∉ keys s.sums) r
  zero : ∀ j, j ∉ keys s.sums → s.w j = 0
section
variable {n p q : Nat} {s : St} {here : Rw} (S : Shape n s) (hp : dget s.sums p = some here) (hq : rowv here q ≠ 0)
include S hp hq
theorem q_key : q ∈ keys here := Classical.byContradiction fun h => hq (rowv_no h)
theorem q_free : q < n ∧ q ∉ keys s.sums := (S.rk p here hp).ks q (q_key S hp hq)
theorem p_key : p ∈ keys s.sums := mem_keys.mpr ⟨_, hp⟩
theorem pq_ne : p ≠ q := fun e => (q_free S hp hq).2 (e ▸ p_key S hp hq)
theorem row_p : s.row p = here := by unfold St.row; rw [hp]; rfl
theorem there_k : RowK (fun j => j < n ∧ (j = p ∨ j ∉ keys s.sums ∧ j ≠ q)) (thereOf p (rowv here q) (ddel here q)) := by
  have r := S.rk p here hp
  have rd := r.del (k := q)
  have hpn : p < n := S.lt p (p_key S hp hq)
  refine ⟨?_, fun j hj => ?_, fun x hx => ?_⟩
  · unfold thereOf
    rw [keys_cons, List.nodup_cons, keys_map]
    exact ⟨fun h => (rd.ks p h).1.2 (p_key S hp hq), rd.nd⟩
  · unfold thereOf at hj
    rw [keys_cons, keys_map] at hj
    rcases List.mem_cons.mp hj with e | e
    · subst e; exact ⟨hpn, .inl rfl⟩
    · have := rd.ks j e; exact ⟨this.1.1, .inr ⟨this.1.2, this.2⟩⟩
  · unfold thereOf at hx
    rcases List.mem_cons.mp hx with e | e
    · subst e
      show 1 / rowv here q ≠ 0
      intro z
      have : 1 / rowv here q * rowv here q = 1 := by rw [Rat.div_mul_cancel hq]
      rw [z] at this
      grind
    · obtain ⟨y, hy, e⟩ := List.mem_map.mp e
      subst e
      have h1 := rd.nz y hy
      show 0 - y.2 / rowv here q ≠ 0
      intro z
      have h2 : y.2 / rowv here q = 0 := by grind
      have h3 : y.2 / rowv here q * rowv here q = y.2 := by rw [Rat.div_mul_cancel hq]
      rw [h2] at h3
      exact h1 (by rw [← h3]; grind)
theorem exch_keys : keys (exch s p q).sums = keys (ddel s.sums p) ++ [q] := by
  unfold exch
  dsimp only
  rw [keys_app, keys_map]
  rfl
theorem exch_mem {j : Nat} : j ∈ keys (exch s p q).sums ↔ (j ∈ keys s.sums ∧ j ≠ p) ∨ j = q := by
  rw [exch_keys S hp hq, List.mem_append, mem_del S.nd]
  simp
theorem exch_get {j : Nat} : dget (exch s p q).sums j = if j = q then some (thereOf p (rowv here q) (ddel here q)) else if j = p then none else (dget s.sums j).map (rowN q (thereOf p (rowv here q) (ddel here q))) := by
  unfold exch
  dsimp only
  rw [row_p S hp hq, get_app, get_map, get_del S.nd]
  have h1 := q_free S hp hq
  by_cases e : j = q
  · subst e
    have : dget s.sums j = none := get_none.mpr h1.2
    rw [if_pos rfl, this]
    by_cases e2 : j = p
    · rw [if_pos e2]; simp [dget]
    · rw [if_neg e2]; simp [dget]
  · rw [if_neg e]
    have h2 : dget [(q, thereOf p (rowv here q) (ddel here q))] j = none := by simp [dget, Ne.symm e]
    rw [h2]
    by_cases e2 : j = p
    · rw [if_pos e2, if_pos e2]; rfl
    · rw [if_neg e2, if_neg e2]
      cases dget s.sums j <;> rfl
theorem exch_w {j : Nat} : (exch s p q).w j = if j = p then 0 else if j = q then (0 - s.w p) / rowv here q else match dget s.sums j with | some r => s.w j + rowv r q * ((0 - s.w p) / rowv here q) | none => s.w j := by
  have h1 := q_free S hp hq
  have h2 := pq_ne S hp hq
  have hpn : p < n := S.lt p (p_key S hp hq)
  unfold St.w exch
  dsimp only
  rw [row_p S hp hq]
  have l0 : q < (s.ws.set p 0).length := by rw [List.length_set, S.len]; exact h1.1
  rw [wsAll_get (del_nodup S.nd) (fun k hk => by rw [List.length_set, List.length_set, S.len]; exact S.lt k ((mem_del S.nd).mp hk).1), get_del S.nd, set_getD l0, set_getD (by rw [S.len]; exact hpn), set_getD (by rw [S.len]; exact hpn)]
  rw [if_neg (Ne.symm h2)]
  have hz : s.ws.getD q 0 = 0 := S.zero q h1.2
  rw [hz]
  by_cases e : j = p
  · subst e
    simp [h2]
  · rw [if_neg e, if_neg e]
    by_cases e2 : j = q
    · subst e2
      have : dget s.sums j = none := get_none.mpr h1.2
      rw [if_pos rfl, if_neg e, if_pos rfl, this]
      show 0 + (0 - s.w p) / rowv here j = (0 - s.w p) / rowv here j
      grind
    · simp only [if_neg e2, if_neg e]
      rfl
theorem exch_shape : Shape n (exch s p q) := by
  have h1 := q_free S hp hq
  have hpn : p < n := S.lt p (p_key S hp hq)
  have tk := there_k S hp hq
  refine ⟨?_, ?_, fun k hk => ?_, fun k r hr => ?_, fun j hj => ?_⟩
  · unfold exch
    dsimp only
    rw [wsAll_len, List.length_set, List.length_set, S.len]
  · rw [exch_keys S hp hq, List.nodup_append]
    refine ⟨del_nodup S.nd, by simp, fun a ha b hb e => ?_⟩
    simp at hb
    subst hb; subst e
    exact h1.2 ((mem_del S.nd).mp ha).1
  · rcases (exch_mem S hp hq).mp hk with z | z
    · exact S.lt k z.1
    · subst z; exact h1.1
  · have goal : ∀ j, (j < n ∧ (j = p ∨ j ∉ keys s.sums ∧ j ≠ q)) → j < n ∧ j ∉ keys (exch s p q).sums := fun j hj => ⟨hj.1, fun z => by
      rcases (exch_mem S hp hq).mp z with y | y
      · rcases hj.2 with x | x
        · exact y.2 x
        · exact x.1 y.1
      · rcases hj.2 with x | x
        · exact pq_ne S hp hq (x.symm.trans y)
        · exact x.2 y⟩
    rw [exch_get S hp hq] at hr
    split at hr
    · cases hr
      exact tk.imp goal
    · split at hr
      · cases hr
      · obtain ⟨r0, e1, e2⟩ := Option.map_eq_some_iff.mp hr
        subst e2
        have rr := S.rk k r0 e1
        unfold rowN
        have rd : RowK (fun j => j < n ∧ (j = p ∨ j ∉ keys s.sums ∧ j ≠ q)) (ddel r0 q) := (rr.del (k := q)).imp fun j hj => ⟨hj.1.1, .inr ⟨hj.1.2, hj.2⟩⟩
        split
        · exact (rd.putOn tk.ks).imp goal
        · exact rd.imp goal
  · rw [exch_w S hp hq]
    have h2 : j ≠ q := fun e => hj ((exch_mem S hp hq).mpr (.inr e))
    by_cases e : j = p
    · rw [if_pos e]
    · rw [if_neg e, if_neg h2]
      have h3 : j ∉ keys s.sums := fun z => hj ((exch_mem S hp hq).mpr (.inl ⟨z, e⟩))
      rw [get_none.mpr h3]
      exact S.zero j h3
theorem exch_Y {z : Nat → Rat} : ∀ j, Yof (exch s p q) z j = Yof s (updZ z q ((0 - s.w p) / rowv here q + (z p - dotD (ddel here q) z) / rowv here q)) j := by
  intro j
  have h1 := q_free S hp hq
  have h2 := pq_ne S hp hq
  have r := S.rk p here hp
  unfold Yof
  rw [exch_get S hp hq, exch_w S hp hq]
  generalize hm : rowv here q = m at hq ⊢
  have hdot : dotD (thereOf p m (ddel here q)) z = z p / m - dotD (ddel here q) z / m := by
    unfold thereOf
    rw [dotD, dotD_map]
    grind
  by_cases e : j = q
  · subst e
    rw [if_pos rfl, if_neg (Ne.symm h2), if_pos rfl, get_none.mpr h1.2]
    dsimp only
    rw [hdot]
    have : updZ z j ((0 - s.w p) / m + (z p - dotD (ddel here j) z) / m) j = (0 - s.w p) / m + (z p - dotD (ddel here j) z) / m := by simp [updZ]
    rw [this]
    grind
  · rw [if_neg e]
    by_cases e2 : j = p
    · subst e2
      rw [if_pos rfl, hp]
      dsimp only
      rw [dotD_upd r.nd, hm, dotD_del, hm]
      grind
    · rw [if_neg e2, if_neg e2, if_neg e]
      cases hj : dget s.sums j with
      | none =>
        show z j = _
        simp [updZ, e]
      | some r0 =>
        have rr := S.rk j r0 hj
        show s.w j + rowv r0 q * ((0 - s.w p) / m) + dotD (rowN q (thereOf p m (ddel here q)) r0) z = s.w j + dotD r0 _
        rw [dotD_upd rr.nd]
        have hr : dotD (rowN q (thereOf p m (ddel here q)) r0) z = dotD r0 z - rowv r0 q * z q + rowv r0 q * (z p / m - dotD (ddel here q) z / m) := by
          unfold rowN
          split
          · rw [dotD_putOn, dotD_del, hdot]
          · rename_i h0
            have h0 : rowv r0 q = 0 := by simpa using h0
            rw [dotD_del, h0]; grind
        rw [hr]
        grind
end
end Sx
namespace Sx
def dotF : List Rat → Nat → (Nat → Rat) → Rat
  | [], _, _ => 0
  | x :: b, i, Y => x * Y i + dotF b (i + 1) Y
theorem dotF_congr {Y Y' : Nat → Rat} : ∀ {b : List Rat} {i : Nat}, (∀ j, i ≤ j → j < i + b.length → Y j = Y' j) → dotF b i Y = dotF b i Y'
  | [], i, _ => rfl
  | x :: b, i, h => by
    rw [dotF, dotF, h i (Nat.le_refl _) (by simp), dotF_congr fun j h1 h2 => h j (by omega) (by simp; omega)]
def Space (rows : List (List Rat × Rat)) (f : Nat) (Y : Nat → Rat) : Prop := ∀ k (h : k < rows.length), Y (f + k) = dotF rows[k].1 0 Y + rows[k].2
structure Inv (rows : List (List Rat × Rat)) (f : Nat) (s : St) : Prop where
  sh : Shape (f + rows.length) s
  a : ∀ Y, Space rows f Y → ∀ j, Yof s Y j = Y j
  b : ∀ z, Space rows f (Yof s z)
  cnt : s.sums.length = rows.length
section
variable {rows : List (List Rat × Rat)} {f : Nat} {s : St}
theorem Inv.pt (I : Inv rows f s) : Space rows f s.w := by
  have e : Yof s (fun _ => 0) = s.w := by
    funext j
    unfold Yof
    cases h : dget s.sums j with
    | none => exact (I.sh.zero j (get_none.mp h)).symm
    | some r =>
      have : dotD r (fun _ => 0) = 0 := by
        clear h
        induction r with
        | nil => rfl
        | cons y r ih => rw [dotD, ih]; grind
      dsimp only
      rw [this]; grind
  rw [← e]
  exact I.b _
theorem del_len {α : Type} {d : Dc α} {k : Nat} (h : k ∈ keys d) : (ddel d k).length + 1 = d.length := by
  induction d with
  | nil => simp [keys] at h
  | cons y d ih =>
    obtain ⟨j, w⟩ := y
    rw [ddel]
    by_cases e : j = k
    · rw [if_pos e]; rfl
    · rw [if_neg e, List.length_cons, List.length_cons, ih]
      rcases List.mem_cons.mp h with z | z
      · exact (e z.symm).elim
      · exact z
theorem Inv.exch (I : Inv rows f s) {p q : Nat} {here : Rw} (hp : dget s.sums p = some here) (hq : rowv here q ≠ 0) : Inv rows f (exch s p q) := by
  have S := I.sh
  refine ⟨exch_shape S hp hq, fun Y hY j => ?_, fun z => ?_, ?_⟩
  · rw [exch_Y S hp hq]
    have hy := I.a Y hY p
    unfold Yof at hy
    rw [hp] at hy
    dsimp only at hy
    have hd := dotD_del (r := here) (k := q) (z := Y)
    have e : updZ Y q ((0 - s.w p) / rowv here q + (Y p - dotD (ddel here q) Y) / rowv here q) = Y := by
      funext i
      unfold updZ
      split
      · rename_i h
        subst h
        generalize rowv here i = m at *
        have : (0 - s.w p) / m + (Y p - dotD (ddel here i) Y) / m = Y i := by
          rw [hd]
          grind
        exact this
      · rfl
    rw [e]
    exact I.a Y hY j
  · have e : Yof (Sx.exch s p q) z = Yof s (updZ z q ((0 - s.w p) / rowv here q + (z p - dotD (ddel here q) z) / rowv here q)) := funext (exch_Y S hp hq)
    rw [e]
    exact I.b _
  · have e : (keys (Sx.exch s p q).sums).length = (ddel s.sums p).length + 1 := by
      rw [exch_keys S hp hq, List.length_append]
      simp [keys]
    have e2 : (keys (Sx.exch s p q).sums).length = (Sx.exch s p q).sums.length := by simp [keys]
    rw [← e2, e, del_len (p_key S hp hq), I.cnt]
end
def rowOf : List Rat → Nat → Rw
  | [], _ => []
  | x :: b, i => if x ≠ 0 then (i, x) :: rowOf b (i + 1) else rowOf b (i + 1)
def sums0 : List (List Rat × Rat) → Nat → Dc Rw
  | [], _ => []
  | r :: rs, k => (k, rowOf r.1 0) :: sums0 rs (k + 1)
def st0 (rows : List (List Rat × Rat)) (f : Nat) : St := ⟨List.replicate f 0 ++ rows.map Prod.snd, sums0 rows f⟩
structure Low (f : Nat) (s : St) (p : Nat) : Prop where
  mem : p ∈ keys s.sums
  ge : f ≤ p
  neg : s.w p < 0
  least : ∀ p' ∈ keys s.sums, f ≤ p' → s.w p' < 0 → p ≤ p'
structure Giv (f : Nat) (here : Rw) (q : Nat) : Prop where
  mem : q ∈ keys here
  ok : q < f ∨ 0 < rowv here q
  least : ∀ q' ∈ keys here, (q' < f ∨ 0 < rowv here q') → q ≤ q'
structure Step (f : Nat) (s s' : St) (p q : Nat) : Prop where
  low : Low f s p
  giv : Giv f (s.row p) q
  eq : s' = exch s p q
section
variable {rows : List (List Rat × Rat)} {f : Nat}
theorem row_get {s : St} {p : Nat} (h : p ∈ keys s.sums) : dget s.sums p = some (s.row p) := by
  obtain ⟨r, hr⟩ := mem_keys.mp h
  unfold St.row
  rw [hr]; rfl
theorem Giv.ne {s : St} {n p q : Nat} (S : Shape n s) (hp : p ∈ keys s.sums) (g : Giv f (s.row p) q) : rowv (s.row p) q ≠ 0 := by
  have r := S.rk p _ (row_get hp)
  obtain ⟨v, hv⟩ := mem_keys.mp g.mem
  unfold rowv
  rw [hv]
  exact r.nz _ (get_mem hv)
theorem Step.inv {s s' : St} {p q : Nat} (I : Inv rows f s) (h : Step f s s' p q) : Inv rows f s' := by
  rw [h.eq]
  exact I.exch (row_get h.low.mem) (h.giv.ne I.sh h.low.mem)
theorem Step.mem {s s' : St} {p q : Nat} (I : Inv rows f s) (h : Step f s s' p q) {j : Nat} : j ∈ keys s'.sums ↔ (j ∈ keys s.sums ∧ j ≠ p) ∨ j = q := by
  rw [h.eq]
  exact exch_mem I.sh (row_get h.low.mem) (h.giv.ne I.sh h.low.mem)
structure Walk (rows : List (List Rat × Rat)) (f n : Nat) (st : Nat → St) (p q : Nat → Nat) : Prop where
  inv : Inv rows f (st 0)
  step : ∀ i, i < n → Step f (st i) (st (i + 1)) (p i) (q i)
variable {n : Nat} {st : Nat → St} {p q : Nat → Nat}
theorem Walk.invs (W : Walk rows f n st p q) : ∀ i, i ≤ n → Inv rows f (st i)
  | 0, _ => W.inv
  | i + 1, h => (W.step i (by omega)).inv (W.invs i (by omega))
theorem Walk.stays (W : Walk rows f n st p q) {j a : Nat} : ∀ {b : Nat}, a ≤ b → b ≤ n → (∀ i, a ≤ i → i < b → p i ≠ j) → j ∈ keys (st a).sums → j ∈ keys (st b).sums
  | 0, h, _, _, m => by have : a = 0 := by omega
                        subst this; exact m
  | b + 1, h, hb, hp, m => by
    by_cases e : a = b + 1
    · subst e; exact m
    · have := W.stays (b := b) (by omega) (by omega) (fun i h1 h2 => hp i h1 (by omega)) m
      exact ((W.step b (by omega)).mem (W.invs b (by omega))).mpr (.inl ⟨this, fun z => hp b (by omega) (by omega) z.symm⟩)
theorem Walk.out (W : Walk rows f n st p q) {j a : Nat} : ∀ {b : Nat}, a ≤ b → b ≤ n → (∀ i, a ≤ i → i < b → q i ≠ j) → j ∉ keys (st a).sums → j ∉ keys (st b).sums
  | 0, h, _, _, m => by have : a = 0 := by omega
                        subst this; exact m
  | b + 1, h, hb, hq, m => by
    by_cases e : a = b + 1
    · subst e; exact m
    · have := W.out (b := b) (by omega) (by omega) (fun i h1 h2 => hq i h1 (by omega)) m
      intro z
      rcases ((W.step b (by omega)).mem (W.invs b (by omega))).mp z with y | y
      · exact this y.1
      · exact hq b (by omega) (by omega) y.symm
end
end Sx
namespace Sx
theorem nodup_sub_len {α : Type} [BEq α] [LawfulBEq α] : ∀ {l m : List α}, l.Nodup → (∀ x ∈ l, x ∈ m) → l.length ≤ m.length
  | [], m, _, _ => Nat.zero_le _
  | x :: l, m, nd, h => by
    rw [List.nodup_cons] at nd
    have hx := h x List.mem_cons_self
    have := nodup_sub_len (l := l) (m := m.erase x) nd.2 fun y hy => by
      have hne : y ≠ x := fun e => nd.1 (e ▸ hy)
      exact (List.mem_erase_of_ne hne).mpr (h y (List.mem_cons_of_mem _ hy))
    rw [List.length_erase_of_mem hx] at this
    have : 0 < m.length := List.length_pos_of_mem hx
    rw [List.length_cons]
    omega
section
variable {rows : List (List Rat × Rat)} {f n : Nat} {st : Nat → St} {p q : Nat → Nat}
end
section
variable {rows : List (List Rat × Rat)} {f : Nat} {s : St}
theorem Inv.choice (I : Inv rows f s) (h : ∀ p ∈ keys s.sums, f ≤ p → ¬ s.w p < 0) : ∀ k (hk : k < rows.length), 0 ≤ dotF rows[k].1 0 s.w + rows[k].2 := fun k hk => by
  rw [← I.pt k hk]
  by_cases m : f + k ∈ keys s.sums
  · have := h _ m (by omega); grind
  · rw [I.sh.zero _ m]; exact Rat.le_refl
theorem dotF_set {v : Rat} {Y : Nat → Rat} : ∀ {l : List Rat} {i k : Nat}, i < l.length → dotF (l.set i v) k Y = dotF l k Y + (v - l.getD i 0) * Y (k + i)
  | x :: l, 0, k, _ => by simp [dotF]; grind
  | x :: l, i + 1, k, h => by
    have := dotF_set (v := v) (Y := Y) (l := l) (i := i) (k := k + 1) (by simpa using h)
    rw [List.set_cons_succ, dotF, dotF, this]
    simp only [List.getD_cons_succ]
    rw [show k + 1 + i = k + (i + 1) by omega]
    grind
  | [], _, _, h => by simp at h
theorem dotF_rep {Y : Nat → Rat} : ∀ {m k : Nat}, dotF (List.replicate m 0) k Y = 0
  | 0, k => rfl
  | m + 1, k => by rw [List.replicate_succ, dotF, dotF_rep]; grind
def wtsFrom (f : Nat) (r : Rw) (l : List Rat) : List Rat := r.foldl (fun l x => l.set (x.1 - f) (0 - x.2)) l
def wts (f m : Nat) (s : St) (p : Nat) : List Rat := wtsFrom f (s.row p) ((List.replicate m 0).set (p - f) 1)
theorem wtsFrom_len {f : Nat} : ∀ {r : Rw} {l : List Rat}, (wtsFrom f r l).length = l.length
  | [], l => rfl
  | x :: r, l => by
    have e : wtsFrom f (x :: r) l = wtsFrom f r (l.set (x.1 - f) (0 - x.2)) := rfl
    rw [e, wtsFrom_len]; simp
theorem wtsFrom_dot {f : Nat} {Y : Nat → Rat} : ∀ {r : Rw} {l : List Rat}, (keys r).Nodup → (∀ j ∈ keys r, f ≤ j ∧ j - f < l.length ∧ l.getD (j - f) 0 = 0) → dotF (wtsFrom f r l) f Y = dotF l f Y - dotD r Y
  | [], l, _, _ => by simp [wtsFrom, dotD]; grind
  | (j, v) :: r, l, nd, h => by
    have e : wtsFrom f ((j, v) :: r) l = wtsFrom f r (l.set (j - f) (0 - v)) := rfl
    rw [keys_cons, List.nodup_cons] at nd
    obtain ⟨h1, h2, h3⟩ := h j List.mem_cons_self
    rw [e, wtsFrom_dot nd.2 fun i hi => ?_, dotF_set h2, h3, dotD, show f + (j - f) = j by omega]
    · grind
    · obtain ⟨g1, g2, g3⟩ := h i (List.mem_cons_of_mem _ hi)
      have ne : i ≠ j := fun z => nd.1 (z ▸ hi)
      refine ⟨g1, by simpa using g2, ?_⟩
      rw [set_getD h2, if_neg (by omega)]
      exact g3
theorem wtsFrom_all {f : Nat} {P : Rat → Prop} : ∀ {r : Rw} {l : List Rat}, (∀ x ∈ l, P x) → (∀ x ∈ r, P (0 - x.2)) → ∀ x ∈ wtsFrom f r l, P x
  | [], l, h, _ => h
  | y :: r, l, h, k => by
    have e : wtsFrom f (y :: r) l = wtsFrom f r (l.set (y.1 - f) (0 - y.2)) := rfl
    rw [e]
    refine wtsFrom_all (fun x hx => ?_) fun x hx => k x (List.mem_cons_of_mem _ hx)
    rcases List.mem_or_eq_of_mem_set hx with z | z
    · exact h x z
    · subst z; exact k y List.mem_cons_self
def nzc (l : List Rat) : Nat := (l.filter fun x => decide (x ≠ 0)).length
theorem nzc_cons {x : Rat} {l : List Rat} : nzc (x :: l) = (if x = 0 then 0 else 1) + nzc l := by
  unfold nzc
  rw [List.filter_cons]
  by_cases h : x = 0
  · simp [h]
  · simp [h]; omega
theorem nzc_set {v : Rat} : ∀ {l : List Rat} {i : Nat}, nzc (l.set i v) ≤ nzc l + 1
  | [], _ => by simp [nzc]
  | x :: l, 0 => by
    rw [List.set_cons_zero, nzc_cons, nzc_cons]
    split <;> split <;> omega
  | x :: l, i + 1 => by
    rw [List.set_cons_succ, nzc_cons, nzc_cons]
    have := nzc_set (v := v) (l := l) (i := i)
    omega
theorem nzc_zero {m : Nat} : nzc (List.replicate m 0) = 0 := by
  unfold nzc
  rw [List.filter_eq_nil_iff.mpr fun x hx => by rw [(List.mem_replicate.mp hx).2]; simp]
  rfl
theorem nzc_wts {f : Nat} : ∀ {r : Rw} {l : List Rat}, nzc (wtsFrom f r l) ≤ nzc l + r.length
  | [], l => by unfold wtsFrom; simp
  | x :: r, l => by
    have e : wtsFrom f (x :: r) l = wtsFrom f r (l.set (x.1 - f) (0 - x.2)) := rfl
    rw [e, List.length_cons]
    have h1 := nzc_wts (f := f) (r := r) (l := l.set (x.1 - f) (0 - x.2))
    have h2 := nzc_set (v := 0 - x.2) (l := l) (i := x.1 - f)
    omega
theorem Inv.rowlen (I : Inv rows f s) {p : Nat} (hp : p ∈ keys s.sums) : (s.row p).length ≤ f := by
  have rk := I.sh.rk _ _ (row_get hp)
  have nd : (keys (s.row p) ++ keys s.sums).Nodup := List.nodup_append.mpr ⟨rk.nd, I.sh.nd, fun a ha b hb e => (rk.ks a ha).2 (e ▸ hb)⟩
  have := nodup_sub_len nd (m := List.range (f + rows.length)) fun x hx => by
    rcases List.mem_append.mp hx with h | h
    · exact List.mem_range.mpr (rk.ks x h).1
    · exact List.mem_range.mpr (I.sh.lt x h)
  have c := I.cnt
  rw [List.length_append, List.length_range] at this
  unfold keys at this
  rw [List.length_map, List.length_map] at this
  omega
structure Bars (rows : List (List Rat × Rat)) (f : Nat) (l : List Rat) : Prop where
  len : l.length = rows.length
  nn : ∀ x ∈ l, 0 ≤ x
  few : nzc l ≤ f + 1
  neg : ∃ c : Rat, c < 0 ∧ ∀ Y : Nat → Rat, Space rows f Y → dotF l f Y = c
theorem Inv.bars (I : Inv rows f s) {p : Nat} (hp : p ∈ keys s.sums) (hf : f ≤ p) (hw : s.w p < 0) (hg : ∀ q ∈ keys (s.row p), ¬ (q < f ∨ 0 < rowv (s.row p) q)) : Bars rows f (wts f rows.length s p) := by
  have g := row_get hp
  have rk := I.sh.rk _ _ g
  have hlt := I.sh.lt p hp
  have hpl : p - f < (List.replicate rows.length (0 : Rat)).length := by rw [List.length_replicate]; omega
  refine ⟨by unfold wts; rw [wtsFrom_len]; simp, ?_, ?_, s.w p, hw, fun Y hY => ?_⟩
  · refine wtsFrom_all (P := fun x => 0 ≤ x) (fun x hx => ?_) fun x hx => ?_
    · rcases List.mem_or_eq_of_mem_set hx with z | z
      · have := List.eq_of_mem_replicate z
        rw [this]; exact Rat.le_refl
      · subst z; decide +kernel
    · have k : x.1 ∈ keys (s.row p) := List.mem_map.mpr ⟨_, hx, rfl⟩
      have h1 := hg _ k
      have h2 := rowv_mem rk.nd (k := x.1) (v := x.2) hx
      rw [h2] at h1
      show 0 ≤ 0 - x.2
      grind
  · have h1 := nzc_wts (f := f) (r := s.row p) (l := (List.replicate rows.length 0).set (p - f) 1)
    have h2 := nzc_set (v := 1) (l := List.replicate rows.length (0 : Rat)) (i := p - f)
    rw [nzc_zero] at h2
    have h3 := I.rowlen hp
    show nzc (wtsFrom f (s.row p) ((List.replicate rows.length 0).set (p - f) 1)) ≤ f + 1
    omega
  · have ea := I.a Y hY p
    unfold Yof at ea
    rw [g] at ea
    dsimp only at ea
    unfold wts
    rw [wtsFrom_dot rk.nd fun j hj => ?_, dotF_set hpl, dotF_rep, show f + (p - f) = p by omega]
    · have : (List.replicate rows.length (0 : Rat)).getD (p - f) 0 = 0 := by
        rw [List.getD_eq_getElem?_getD]
        simp [List.getElem?_replicate]
        split <;> rfl
      rw [this]
      grind
    · have h1 := hg j hj
      have h2 := rk.ks j hj
      have ne : j ≠ p := fun e => h2.2 (e ▸ hp)
      refine ⟨by omega, by simp; omega, ?_⟩
      rw [set_getD hpl, if_neg (by omega), List.getD_eq_getElem?_getD]
      simp [List.getElem?_replicate]
      split <;> rfl
end
section
abbrev V3 := Rat × Rat × Rat
def det3 (u v w : V3) : Rat := u.1 * (v.2.1 * w.2.2 - v.2.2 * w.2.1) - u.2.1 * (v.1 * w.2.2 - v.2.2 * w.1) + u.2.2 * (v.1 * w.2.1 - v.2.1 * w.1)
def comb (x y z : Rat) (u v w : V3) : V3 := (x * u.1 + y * v.1 + z * w.1, x * u.2.1 + y * v.2.1 + z * w.2.1, x * u.2.2 + y * v.2.2 + z * w.2.2)
theorem det_1 {x y z : Rat} {u v w a b : V3} : det3 (comb x y z u v w) a b = x * det3 u a b + y * det3 v a b + z * det3 w a b := by
  unfold det3 comb; dsimp only; grind
theorem det_2 {x y z : Rat} {u v w a b : V3} : det3 a (comb x y z u v w) b = x * det3 a u b + y * det3 a v b + z * det3 a w b := by
  unfold det3 comb; dsimp only; grind
theorem det_3 {x y z : Rat} {u v w a b : V3} : det3 a b (comb x y z u v w) = x * det3 a b u + y * det3 a b v + z * det3 a b w := by
  unfold det3 comb; dsimp only; grind
theorem det_12 {u w : V3} : det3 u u w = 0 := by unfold det3; grind
theorem det_13 {u w : V3} : det3 u w u = 0 := by unfold det3; grind
theorem det_23 {u w : V3} : det3 w u u = 0 := by unfold det3; grind
theorem det_sw12 {u v w : V3} : det3 v u w = -det3 u v w := by unfold det3; grind
theorem det_sw23 {u v w : V3} : det3 u w v = -det3 u v w := by unfold det3; grind
theorem det_sw13 {u v w : V3} : det3 w v u = -det3 u v w := by unfold det3; grind
theorem det_ne {u v w : V3} {x0 y0 z0 x1 y1 z1 x2 y2 z2 : Rat} (h0 : comb x0 y0 z0 u v w = (1, 0, 0)) (h1 : comb x1 y1 z1 u v w = (0, 1, 0)) (h2 : comb x2 y2 z2 u v w = (0, 0, 1)) : det3 u v w ≠ 0 := fun hd => by
  have e : det3 ((1, 0, 0) : V3) (0, 1, 0) (0, 0, 1) = 1 := by decide +kernel
  have z : ∀ a ∈ [u, v, w], ∀ b ∈ [u, v, w], ∀ c ∈ [u, v, w], det3 a b c = 0 := by
    have s1 := det_sw12 (u := u) (v := v) (w := w)
    have s2 := det_sw23 (u := u) (v := v) (w := w)
    have s3 := det_sw13 (u := u) (v := v) (w := w)
    have s4 := det_sw12 (u := u) (v := w) (w := v)
    have s5 := det_sw12 (u := v) (v := w) (w := u)
    have s6 := det_sw23 (u := v) (v := w) (w := u)
    intro a ha b hb c hc
    simp only [List.mem_cons, List.not_mem_nil, or_false] at ha hb hc
    rcases ha with ha | ha | ha <;> rcases hb with hb | hb | hb <;> rcases hc with hc | hc | hc <;> subst ha <;> subst hb <;> subst hc <;> first | exact det_12 | exact det_13 | exact det_23 | grind
  have z3 : ∀ a ∈ [u, v, w], ∀ b ∈ [u, v, w], det3 a b (0, 0, 1) = 0 := fun a ha b hb => by
    rw [← h2, det_3, z a ha b hb u (by simp), z a ha b hb v (by simp), z a ha b hb w (by simp)]; grind
  have z2 : ∀ a ∈ [u, v, w], det3 a (0, 1, 0) (0, 0, 1) = 0 := fun a ha => by
    rw [← h1, det_2, z3 a ha u (by simp), z3 a ha v (by simp), z3 a ha w (by simp)]; grind
  rw [← h0, det_1, z2 u (by simp), z2 v (by simp), z2 w (by simp)] at e
  exact absurd e (by grind)
end
end Sx
namespace Sx
open L3
section
variable {rows : List (List Rat × Rat)} {f : Nat}
def cf (rows : List (List Rat × Rat)) (f j i : Nat) : Rat := if j < f then (if j = i then 1 else 0) else if h : j - f < rows.length then (rows[j - f]'h).1.getD i 0 else (if j - (f + rows.length) = i then 1 else 0)
def Yp (rows : List (List Rat × Rat)) (f : Nat) (x : Nat → Rat) (j : Nat) : Rat := if j < f then x j else if h : j - f < rows.length then dotF (rows[j - f]'h).1 0 x + (rows[j - f]'h).2 else 0
theorem space_Yp (hl : ∀ r ∈ rows, r.1.length = f) (x : Nat → Rat) : Space rows f (Yp rows f x) := fun k h => by
  have e : Yp rows f x (f + k) = dotF rows[k].1 0 x + rows[k].2 := by
    unfold Yp
    rw [if_neg (by omega), dif_pos (by omega : f + k - f < rows.length)]
    simp only [Nat.add_sub_cancel_left]
  rw [e]
  congr 1
  refine dotF_congr fun j _ h2 => ?_
  rw [hl _ (List.getElem_mem h)] at h2
  unfold Yp
  rw [if_pos (by omega)]
theorem dotF_zero : ∀ {b : List Rat} {k : Nat}, dotF b k (fun _ => 0) = 0
  | [], _ => rfl
  | x :: b, k => by rw [dotF, dotF_zero]; grind
theorem dotF_unit {i : Nat} : ∀ {b : List Rat} {k : Nat}, dotF b k (fun j => if j = i then 1 else 0) = if k ≤ i then b.getD (i - k) 0 else 0
  | [], k => by simp [dotF]
  | x :: b, k => by
    rw [dotF, dotF_unit]
    by_cases h : k = i
    · subst h
      simp; grind
    · rw [if_neg h]
      by_cases h2 : k ≤ i
      · rw [if_pos h2, if_pos (by omega), show i - k = (i - (k + 1)) + 1 by omega]
        simp; grind
      · rw [if_neg h2, if_neg (by omega)]; grind
theorem dotD_sub {r : Rw} {y z : Nat → Rat} : dotD r y - dotD r z = dotD r fun j => y j - z j := by
  induction r with
  | nil => simp [dotD]; grind
  | cons x r ih =>
    obtain ⟨j, v⟩ := x
    rw [dotD, dotD, dotD, ← ih]; grind
theorem dotD_z {r : Rw} {z : Nat → Rat} (h : ∀ j ∈ keys r, z j = 0) : dotD r z = 0 := by
  induction r with
  | nil => rfl
  | cons x r ih =>
    obtain ⟨j, v⟩ := x
    rw [dotD, h j List.mem_cons_self, ih fun i hi => h i (List.mem_cons_of_mem _ hi)]; grind
theorem Yp_unit {i j : Nat} (hi : i < f) (hj : j < f + rows.length) : Yp rows f (fun k => if k = i then 1 else 0) j - Yp rows f (fun _ => 0) j = cf rows f j i := by
  unfold Yp cf
  by_cases h : j < f
  · rw [if_pos h, if_pos h, if_pos h]; grind
  · rw [if_neg h, if_neg h, if_neg h, dif_pos (by omega), dif_pos (by omega), dif_pos (by omega), dotF_unit, dotF_zero, if_pos (Nat.zero_le _)]
    simp only [Nat.sub_zero]
    grind
theorem cf_ge (hl : ∀ r ∈ rows, r.1.length = f) {i j : Nat} (hi : f ≤ i) (hj : j < f + rows.length) : cf rows f j i = 0 := by
  unfold cf
  by_cases h : j < f
  · rw [if_pos h, if_neg (by omega)]
  · rw [if_neg h, dif_pos (by omega)]
    have l := hl _ (List.getElem_mem (show j - f < rows.length by omega))
    rw [List.getD_eq_getElem?_getD, List.getElem?_eq_none (by omega)]
    rfl
theorem cf_virt {i k : Nat} : cf rows f (f + rows.length + i) k = if i = k then 1 else 0 := by
  unfold cf
  rw [if_neg (by omega), dif_neg (by omega)]
  simp only [Nat.add_sub_cancel_left]
theorem Inv.coef {s : St} (I : Inv rows f s) (hl : ∀ r ∈ rows, r.1.length = f) {p i : Nat} (hp : p ∈ keys s.sums) : cf rows f p i = dotD (s.row p) (fun j => cf rows f j i) := by
  have g := row_get hp
  have rk := I.sh.rk _ _ g
  have hpn := I.sh.lt p hp
  by_cases hi : i < f
  · have e1 := I.a _ (space_Yp hl (fun k => if k = i then 1 else 0)) p
    have e0 := I.a _ (space_Yp hl (fun _ => 0)) p
    unfold Yof at e1 e0
    rw [g] at e1 e0
    dsimp only at e1 e0
    rw [← Yp_unit hi hpn, ← e1, ← e0]
    have : dotD (s.row p) (fun j => cf rows f j i) = dotD (s.row p) (Yp rows f fun k => if k = i then 1 else 0) - dotD (s.row p) (Yp rows f fun _ => 0) := by
      rw [dotD_sub]
      exact dotD_congr fun j hj => (Yp_unit hi (rk.ks j hj).1).symm
    rw [this]; grind
  · rw [cf_ge hl (by omega) hpn, dotD_z fun j hj => cf_ge hl (by omega) (rk.ks j hj).1]
theorem Inv.worth {s : St} (I : Inv rows f s) (hl : ∀ r ∈ rows, r.1.length = f) {p : Nat} (hp : p ∈ keys s.sums) : s.w p = Yp rows f (fun _ => 0) p - dotD (s.row p) (Yp rows f fun _ => 0) := by
  have e0 := I.a _ (space_Yp hl (fun _ => 0)) p
  unfold Yof at e0
  rw [row_get hp] at e0
  dsimp only at e0
  grind
def nbs (n : Nat) (s : St) : List Nat := (List.range n).filter fun j => decide (j ∉ keys s.sums)
theorem nbs_len {s : St} (I : Inv rows f s) : (nbs (f + rows.length) s).length = f := by
  have h1 : ((List.range (f + rows.length)).filter fun j => decide (j ∈ keys s.sums)).length = rows.length := by
    have nd : ((List.range (f + rows.length)).filter fun j => decide (j ∈ keys s.sums)).Nodup := List.nodup_range.sublist List.filter_sublist
    have a := nodup_sub_len (l := (List.range (f + rows.length)).filter fun j => decide (j ∈ keys s.sums)) (m := keys s.sums) nd fun x hx => of_decide_eq_true (List.mem_filter.mp hx).2
    have b := nodup_sub_len (l := keys s.sums) (m := (List.range (f + rows.length)).filter fun j => decide (j ∈ keys s.sums)) I.sh.nd fun x hx => List.mem_filter.mpr ⟨List.mem_range.mpr (I.sh.lt x hx), decide_eq_true hx⟩
    have c : (keys s.sums).length = rows.length := by rw [← I.cnt]; simp [keys]
    omega
  have en : (fun j => decide (j ∉ keys s.sums)) = fun j => !decide (j ∈ keys s.sums) := by funext j; simp
  have h2 : ∀ l : List Nat, (l.filter fun j => decide (j ∈ keys s.sums)).length + (l.filter fun j => decide (j ∉ keys s.sums)).length = l.length := by
    intro l
    rw [en]
    induction l with
    | nil => rfl
    | cons x l ih =>
      by_cases h : x ∈ keys s.sums
      · simp [h]; omega
      · simp [h]; omega
  have := h2 (List.range (f + rows.length))
  rw [h1, List.length_range] at this
  unfold nbs
  omega
def nb3 (n f : Nat) (s : St) : List Nat := nbs n s ++ List.range' (n + f) (3 - f)
theorem nb3_nd {n : Nat} {s : St} : (nb3 n f s).Nodup := by
  unfold nb3
  rw [List.nodup_append]
  refine ⟨List.nodup_range.sublist List.filter_sublist, List.nodup_range' _, fun a ha b hb e => ?_⟩
  have h1 := List.mem_range.mp (List.mem_filter.mp ha).1
  have h2 := (List.mem_range'_1.mp hb).1
  omega
def sumL (L : List Nat) (h : Nat → Rat) : Rat := (L.map h).sum
theorem sumL_cons {x : Nat} {L : List Nat} {h : Nat → Rat} : sumL (x :: L) h = h x + sumL L h := by simp [sumL]
theorem sumL_one {j : Nat} {c : Rat} : ∀ {L : List Nat}, L.Nodup → j ∈ L → sumL L (fun i => if j = i then c else 0) = c
  | x :: L, nd, h => by
    rw [List.nodup_cons] at nd
    rw [sumL_cons]
    by_cases e : j = x
    · subst e
      have : sumL L (fun i => if j = i then c else 0) = 0 := by
        have hn := nd.1
        clear nd h
        induction L with
        | nil => rfl
        | cons y L ih =>
          rw [sumL_cons, ih (fun z => hn (List.mem_cons_of_mem _ z)), if_neg (fun z => hn (by rw [z]; exact List.mem_cons_self))]; grind
      rw [this, if_pos rfl]; grind
    · rw [if_neg e, sumL_one nd.2 (by rcases List.mem_cons.mp h with z | z; exact (e z).elim; exact z)]; grind
theorem sumL_add {g h : Nat → Rat} : ∀ {L : List Nat}, sumL L (fun i => g i + h i) = sumL L g + sumL L h
  | [] => by simp [sumL]; grind
  | x :: L => by rw [sumL_cons, sumL_cons, sumL_cons, sumL_add]; grind
theorem dotD_list {g : Nat → Rat} : ∀ {r : Rw} {L : List Nat}, L.Nodup → (keys r).Nodup → (∀ j ∈ keys r, j ∈ L) → dotD r g = sumL L (fun i => rowv r i * g i)
  | [], L, _, _, _ => by
    have : ∀ L : List Nat, sumL L (fun i => rowv [] i * g i) = 0 := fun L => by
      induction L with
      | nil => rfl
      | cons x L ih => rw [sumL_cons, ih]; simp [rowv, dget]; grind
    rw [this]; rfl
  | (j, v) :: r, L, nl, nd, h => by
    rw [keys_cons, List.nodup_cons] at nd
    have ih := dotD_list (g := g) (r := r) nl nd.2 fun i hi => h i (List.mem_cons_of_mem _ hi)
    have e : (fun i => rowv ((j, v) :: r) i * g i) = fun i => (if j = i then v * g j else 0) + rowv r i * g i := by
      funext i
      rw [rowv_cons]
      by_cases z : j = i
      · subst z
        rw [if_pos rfl, if_pos rfl, rowv_no nd.1]; grind
      · rw [if_neg z, if_neg z]; grind
    rw [e, sumL_add, sumL_one nl (h j List.mem_cons_self), dotD, ih]
def vec (rows : List (List Rat × Rat)) (f j : Nat) : V3 := (cf rows f j 0, cf rows f j 1, cf rows f j 2)
theorem Inv.entry {s : St} (I : Inv rows f s) (hl : ∀ r ∈ rows, r.1.length = f) (hf : f ≤ 3) {p : Nat} (hp : p ∈ keys s.sums) : ∃ x0 x1 x2, det3 (vec rows f x0) (vec rows f x1) (vec rows f x2) ≠ 0 ∧ ∀ j ∈ keys (s.row p),
    (j = x0 ∧ rowv (s.row p) j = det3 (vec rows f p) (vec rows f x1) (vec rows f x2) / det3 (vec rows f x0) (vec rows f x1) (vec rows f x2)) ∨
    (j = x1 ∧ rowv (s.row p) j = det3 (vec rows f x0) (vec rows f p) (vec rows f x2) / det3 (vec rows f x0) (vec rows f x1) (vec rows f x2)) ∨
    (j = x2 ∧ rowv (s.row p) j = det3 (vec rows f x0) (vec rows f x1) (vec rows f p) / det3 (vec rows f x0) (vec rows f x1) (vec rows f x2)) := by
  have len : (nb3 (f + rows.length) f s).length = 3 := by
    unfold nb3
    rw [List.length_append, nbs_len I, List.length_range']; omega
  have nd := nb3_nd (n := f + rows.length) (f := f) (s := s)
  have sub : ∀ p ∈ keys s.sums, ∀ j ∈ keys (s.row p), j ∈ nb3 (f + rows.length) f s := fun p hp j hj => by
    have rk := I.sh.rk _ _ (row_get hp)
    have := rk.ks j hj
    exact List.mem_append_left _ (List.mem_filter.mpr ⟨List.mem_range.mpr this.1, decide_eq_true this.2⟩)
  have own : ∀ j, j ∉ keys s.sums → j < f + rows.length → j ∈ nb3 (f + rows.length) f s := fun j h1 h2 => List.mem_append_left _ (List.mem_filter.mpr ⟨List.mem_range.mpr h2, decide_eq_true h1⟩)
  have virt : ∀ i, f ≤ i → i < 3 → f + rows.length + i ∈ nb3 (f + rows.length) f s := fun i h1 h2 => List.mem_append_right _ (List.mem_range'_1.mpr ⟨by omega, by omega⟩)
  generalize nb3 (f + rows.length) f s = L at *
  match L, len with
  | [x0, x1, x2], _ =>
    have cb : ∀ p ∈ keys s.sums, vec rows f p = comb (rowv (s.row p) x0) (rowv (s.row p) x1) (rowv (s.row p) x2) (vec rows f x0) (vec rows f x1) (vec rows f x2) := fun p hp => by
      have rk := I.sh.rk _ _ (row_get hp)
      have c : ∀ i, cf rows f p i = rowv (s.row p) x0 * cf rows f x0 i + rowv (s.row p) x1 * cf rows f x1 i + rowv (s.row p) x2 * cf rows f x2 i := fun i => by
        rw [I.coef hl hp, dotD_list nd rk.nd (sub p hp)]
        simp [sumL]; grind
      unfold vec comb
      dsimp only
      rw [← c 0, ← c 1, ← c 2]
    have any : ∀ j, (j ∈ keys s.sums ∨ j ∈ [x0, x1, x2]) → ∃ x y z, comb x y z (vec rows f x0) (vec rows f x1) (vec rows f x2) = vec rows f j := fun j h => by
      rcases h with h | h
      · exact ⟨_, _, _, (cb j h).symm⟩
      · simp only [List.mem_cons, List.not_mem_nil, or_false] at h
        rcases h with h | h | h <;> subst h
        · exact ⟨1, 0, 0, by unfold comb vec; simp; grind⟩
        · exact ⟨0, 1, 0, by unfold comb vec; simp; grind⟩
        · exact ⟨0, 0, 1, by unfold comb vec; simp; grind⟩
    have unit : ∀ i, i < 3 → ∃ x y z, comb x y z (vec rows f x0) (vec rows f x1) (vec rows f x2) = ((if i = 0 then 1 else 0, if i = 1 then 1 else 0, if i = 2 then 1 else 0) : V3) := fun i hi => by
      by_cases h : i < f
      · obtain ⟨x, y, z, e⟩ := any i (by
          by_cases m : i ∈ keys s.sums
          · exact .inl m
          · exact .inr (own i m (by omega)))
        refine ⟨x, y, z, e.trans ?_⟩
        unfold vec cf
        simp only [if_pos h]
      · obtain ⟨x, y, z, e⟩ := any (f + rows.length + i) (.inr (virt i (by omega) hi))
        refine ⟨x, y, z, e.trans ?_⟩
        unfold vec
        rw [cf_virt, cf_virt, cf_virt]
    obtain ⟨a0, b0, c0, e0⟩ := unit 0 (by omega)
    obtain ⟨a1, b1, c1, e1⟩ := unit 1 (by omega)
    obtain ⟨a2, b2, c2, e2⟩ := unit 2 (by omega)
    have dn := det_ne (by simpa using e0) (by simpa using e1) (by simpa using e2)
    have cp := cb p hp
    have quot : ∀ {x y d : Rat}, d ≠ 0 → y = x * d → x = y / d := fun hd e => by rw [e]; exact (Rat.mul_div_cancel hd).symm
    refine ⟨x0, x1, x2, dn, fun j hj => ?_⟩
    have hj' := sub p hp j hj
    simp only [List.mem_cons, List.not_mem_nil, or_false] at hj'
    rcases hj' with h | h | h <;> subst h
    · exact .inl ⟨rfl, quot dn (by rw [cp, det_1, det_12, det_13]; grind)⟩
    · exact .inr (.inl ⟨rfl, quot dn (by rw [cp, det_2, det_12, det_23]; grind)⟩)
    · exact .inr (.inr ⟨rfl, quot dn (by rw [cp, det_3, det_13, det_23]; grind)⟩)
theorem cf_hq {a : Nat} (ha : 1 ≤ a) (hs : ∀ r ∈ rows, ∀ x ∈ r.1, hq x ≤ a) (j i : Nat) : hq (cf rows f j i) ≤ a := by
  have h0 : hq (0 : Rat) = 1 := by decide +kernel
  have h1 : hq (1 : Rat) = 1 := by decide +kernel
  unfold cf
  split
  · split <;> omega
  · split
    · rename_i h
      rw [List.getD_eq_getElem?_getD]
      cases e : (rows[j - f]'h).1[i]? with
      | none => simp; omega
      | some x => exact hs _ (List.getElem_mem h) x (List.mem_of_getElem? e)
    · split <;> omega
structure Wh (l n : Nat) (v : V3) (L x y z : Int) : Prop where
  pos : 0 < L
  ib : ib L ≤ l
  e1 : v.1 * (L : Rat) = (x : Rat)
  e2 : v.2.1 * (L : Rat) = (y : Rat)
  e3 : v.2.2 * (L : Rat) = (z : Rat)
  b1 : L3.ib x ≤ n
  b2 : L3.ib y ≤ n
  b3 : L3.ib z ≤ n
theorem ib_mul' {i j : Int} : ib (i * j) ≤ ib i + ib j := by
  unfold ib
  rw [Int.natAbs_mul]
  exact bl_mul
theorem num_den (q : Rat) : q * ((q.den : Int) : Rat) = (q.num : Rat) := by
  have h : ((q.den : Int) : Rat) ≠ 0 := by
    intro h
    have h2 : ((q.den : Int) : Rat) = ((0 : Int) : Rat) := h
    have := Rat.intCast_inj.mp h2
    have := q.den_nz
    omega
  have e : q = (q.num : Rat) / ((q.den : Int) : Rat) := by
    rw [← Rat.divInt_eq_div, Rat.num_divInt_den]
  conv => lhs; lhs; rw [e]
  rw [Rat.div_mul_cancel h]
theorem wh_of {a : Nat} {v : V3} (hv : hq v.1 ≤ a ∧ hq v.2.1 ≤ a ∧ hq v.2.2 ≤ a) : ∃ L x y z, Wh (3 * a) (3 * a) v L x y z := by
  obtain ⟨q, r, t⟩ := v
  obtain ⟨h1, h2, h3⟩ := hv
  dsimp only at h1 h2 h3
  have p1 := q.den_pos
  have p2 := r.den_pos
  have p3 := t.den_pos
  have d1 := hq_denI q
  have d2 := hq_denI r
  have d3 := hq_denI t
  have n1 := hq_num q
  have n2 := hq_num r
  have n3 := hq_num t
  have m1 := ib_mul' (i := (q.den : Int) * r.den) (j := t.den)
  have m2 := ib_mul' (i := (q.den : Int)) (j := r.den)
  have k1 := ib_mul' (i := q.num * r.den) (j := t.den)
  have k2 := ib_mul' (i := q.num) (j := r.den)
  have k3 := ib_mul' (i := r.num * q.den) (j := t.den)
  have k4 := ib_mul' (i := r.num) (j := q.den)
  have k5 := ib_mul' (i := t.num * q.den) (j := r.den)
  have k6 := ib_mul' (i := t.num) (j := q.den)
  have e1 := num_den q
  have e2 := num_den r
  have e3 := num_den t
  refine ⟨(q.den : Int) * r.den * t.den, q.num * r.den * t.den, r.num * q.den * t.den, t.num * q.den * r.den, Int.mul_pos (Int.mul_pos (by omega) (by omega)) (by omega), by omega, ?_, ?_, ?_, by omega, by omega, by omega⟩
  · simp only [Rat.intCast_mul]
    rw [← e1]; grind
  · simp only [Rat.intCast_mul]
    rw [← e2]; grind
  · simp only [Rat.intCast_mul]
    rw [← e3]; grind
def zdet (a1 a2 a3 b1 b2 b3 c1 c2 c3 : Int) : Int := a1 * (b2 * c3 - b3 * c2) - a2 * (b1 * c3 - b3 * c1) + a3 * (b1 * c2 - b2 * c1)
theorem ib_add' {i j : Int} : ib (i + j) ≤ max (ib i) (ib j) + 1 := by
  unfold ib
  refine Nat.le_trans (bl_mono (Int.natAbs_add_le i j)) bl_add
theorem ib_sub' {i j : Int} : ib (i - j) ≤ max (ib i) (ib j) + 1 := by
  have := ib_add' (i := i) (j := -j)
  rw [ib_neg] at this
  rwa [Int.sub_eq_add_neg]
theorem zdet_ib {n : Nat} {a1 a2 a3 b1 b2 b3 c1 c2 c3 : Int} (h1 : ib a1 ≤ n) (h2 : ib a2 ≤ n) (h3 : ib a3 ≤ n) (h4 : ib b1 ≤ n) (h5 : ib b2 ≤ n) (h6 : ib b3 ≤ n) (h7 : ib c1 ≤ n) (h8 : ib c2 ≤ n) (h9 : ib c3 ≤ n) : ib (zdet a1 a2 a3 b1 b2 b3 c1 c2 c3) ≤ 3 * n + 3 := by
  have m : ∀ {x y z u v : Int}, ib x ≤ n → ib y ≤ n → ib z ≤ n → ib u ≤ n → ib v ≤ n → ib (x * (y * z - u * v)) ≤ 3 * n + 1 := fun {x y z u v} g1 g2 g3 g4 g5 => by
    have k1 := ib_mul' (i := x) (j := y * z - u * v)
    have k2 := ib_sub' (i := y * z) (j := u * v)
    have k3 := ib_mul' (i := y) (j := z)
    have k4 := ib_mul' (i := u) (j := v)
    omega
  unfold zdet
  have g1 := m h1 h5 h9 h6 h8
  have g2 := m h2 h4 h9 h6 h7
  have g3 := m h3 h4 h8 h5 h7
  have k1 := ib_sub' (i := a1 * (b2 * c3 - b3 * c2)) (j := a2 * (b1 * c3 - b3 * c1))
  have k2 := ib_add' (i := a1 * (b2 * c3 - b3 * c2) - a2 * (b1 * c3 - b3 * c1)) (j := a3 * (b1 * c2 - b2 * c1))
  omega
theorem wh_det {l n : Nat} {u v w : V3} {A B C a1 a2 a3 b1 b2 b3 c1 c2 c3 : Int} (hu : Wh l n u A a1 a2 a3) (hv : Wh l n v B b1 b2 b3) (hw : Wh l n w C c1 c2 c3) : det3 u v w * ((A : Rat) * B * C) = ((zdet a1 a2 a3 b1 b2 b3 c1 c2 c3 : Int) : Rat) ∧ ib (zdet a1 a2 a3 b1 b2 b3 c1 c2 c3) ≤ 3 * n + 3 := by
  refine ⟨?_, zdet_ib hu.b1 hu.b2 hu.b3 hv.b1 hv.b2 hv.b3 hw.b1 hw.b2 hw.b3⟩
  unfold zdet
  simp only [Rat.intCast_mul, Rat.intCast_sub, Rat.intCast_add]
  rw [← hu.e1, ← hu.e2, ← hu.e3, ← hv.e1, ← hv.e2, ← hv.e3, ← hw.e1, ← hw.e2, ← hw.e3]
  unfold det3
  grind
theorem cast_ne {z : Int} (h : z ≠ 0) : (z : Rat) ≠ 0 := fun e => by
  have e2 : (z : Rat) = ((0 : Int) : Rat) := e
  exact h (Rat.intCast_inj.mp e2)
theorem Inv.bottom {s : St} (I : Inv rows f s) (hl : ∀ r ∈ rows, r.1.length = f) (hf : f ≤ 3) {a : Nat} (ha : 1 ≤ a) (hs : ∀ r ∈ rows, ∀ x ∈ r.1, hq x ≤ a) {p : Nat} (hp : p ∈ keys s.sums) : ∃ G : Int, G ≠ 0 ∧ ib G ≤ 12 * a + 3 ∧ ∀ j ∈ keys (s.row p), ∃ z : Int, ib z ≤ 12 * a + 3 ∧ rowv (s.row p) j = (z : Rat) / (G : Rat) := by
  obtain ⟨x0, x1, x2, dn, hj⟩ := I.entry hl hf hp
  have v : ∀ j, hq (vec rows f j).1 ≤ a ∧ hq (vec rows f j).2.1 ≤ a ∧ hq (vec rows f j).2.2 ≤ a := fun j => ⟨cf_hq ha hs j 0, cf_hq ha hs j 1, cf_hq ha hs j 2⟩
  obtain ⟨P, p1, p2, p3, wp⟩ := wh_of (v p)
  obtain ⟨A, a1, a2, a3, wa⟩ := wh_of (v x0)
  obtain ⟨B, b1, b2, b3, wb⟩ := wh_of (v x1)
  obtain ⟨C, c1, c2, c3, wc⟩ := wh_of (v x2)
  obtain ⟨eD, bD⟩ := wh_det wa wb wc
  obtain ⟨e0, b0⟩ := wh_det wp wb wc
  obtain ⟨e1, b1'⟩ := wh_det wa wp wc
  obtain ⟨e2, b2'⟩ := wh_det wa wb wp
  generalize zdet a1 a2 a3 b1 b2 b3 c1 c2 c3 = D at *
  generalize zdet p1 p2 p3 b1 b2 b3 c1 c2 c3 = D0 at *
  generalize zdet a1 a2 a3 p1 p2 p3 c1 c2 c3 = D1 at *
  generalize zdet a1 a2 a3 b1 b2 b3 p1 p2 p3 = D2 at *
  have nA := cast_ne (show A ≠ 0 by have := wa.pos; omega)
  have nB := cast_ne (show B ≠ 0 by have := wb.pos; omega)
  have nC := cast_ne (show C ≠ 0 by have := wc.pos; omega)
  have nP := cast_ne (show P ≠ 0 by have := wp.pos; omega)
  have nD : D ≠ 0 := by
    intro h
    subst h
    have z : ((0 : Int) : Rat) = 0 := rfl
    rw [z] at eD
    rcases Rat.mul_eq_zero.mp eD with h | h
    · exact dn h
    · rcases Rat.mul_eq_zero.mp h with h | h
      · rcases Rat.mul_eq_zero.mp h with h | h
        · exact nA h
        · exact nB h
      · exact nC h
  have nDr := cast_ne nD
  have g : ∀ {X : Int}, ib X ≤ 3 * a → ∀ {Y : Int}, ib Y ≤ 3 * (3 * a) + 3 → ib (Y * X) ≤ 12 * a + 3 := fun {X} hX {Y} hY => by
    have := ib_mul' (i := Y) (j := X)
    omega
  have q : ∀ {N d u v : Rat}, d ≠ 0 → v ≠ 0 → N * v = u * d → N / d = u / v := fun {N d u v} hd hv e => by
    have h1 : N / d = (N * v) / (d * v) := by
      rw [Rat.div_def, Rat.div_def, Rat.inv_mul_rev]
      have : v * v⁻¹ = 1 := Rat.mul_inv_cancel _ hv
      grind
    have h2 : u / v = (u * d) / (d * v) := by
      rw [Rat.div_def, Rat.div_def, Rat.inv_mul_rev]
      have : d * d⁻¹ = 1 := Rat.mul_inv_cancel _ hd
      grind
    rw [h1, h2, e]
  refine ⟨D * P, Int.mul_ne_zero nD (by have := wp.pos; omega), g wp.ib bD, fun j hj' => ?_⟩
  have nDP : ((D * P : Int) : Rat) ≠ 0 := cast_ne (Int.mul_ne_zero nD (by have := wp.pos; omega))
  rcases hj j hj' with ⟨_, e⟩ | ⟨_, e⟩ | ⟨_, e⟩
  · refine ⟨D0 * A, g wa.ib b0, e.trans (q dn nDP ?_)⟩
    simp only [Rat.intCast_mul]
    rw [← eD, ← e0]; grind
  · refine ⟨D1 * B, g wb.ib b1', e.trans (q dn nDP ?_)⟩
    simp only [Rat.intCast_mul]
    rw [← eD, ← e1]; grind
  · refine ⟨D2 * C, g wc.ib b2', e.trans (q dn nDP ?_)⟩
    simp only [Rat.intCast_mul]
    rw [← eD, ← e2]; grind
theorem Inv.entry_hq {s : St} (I : Inv rows f s) (hl : ∀ r ∈ rows, r.1.length = f) (hf : f ≤ 3) {a : Nat} (ha : 1 ≤ a) (hs : ∀ r ∈ rows, ∀ x ∈ r.1, hq x ≤ a) {p : Nat} {r : Rw} (hp : dget s.sums p = some r) : ∀ x ∈ r, hq x.2 ≤ 12 * a + 10 := fun x hx => by
  have hk : p ∈ keys s.sums := mem_keys.mpr ⟨r, hp⟩
  have er : s.row p = r := by unfold St.row; rw [hp]; rfl
  have rk := I.sh.rk _ _ hp
  obtain ⟨G, nG, bG, h⟩ := I.bottom hl hf ha hs hk
  obtain ⟨z, bz, e⟩ := h x.1 (by rw [er]; exact List.mem_map.mpr ⟨_, hx, rfl⟩)
  rw [er, rowv_mem rk.nd (v := x.2) hx] at e
  rw [e, ← Rat.divInt_eq_div]
  exact Nat.le_trans (hq_divInt bz bG (by omega)) (by omega)
end
end Sx
namespace Sr
open PySem PySem.Spec PyProof.Rows L2 L3 L4 Sx
abbrev En := List (Option T)
section
variable {α : Type}
def ksOf (d : Dc α) : List Key := d.map fun x => .inl (x.1 : Int)
theorem kAt_ks : ∀ {d : Dc α} {k : Nat}, (match dget d k with
    | none => kAt (ksOf d) (.inl (k : Int)) = none ∧ dput d k = fun v => d ++ [(k, v)]
    | some v => ∃ n, kAt (ksOf d) (.inl (k : Int)) = some n ∧ d[n]? = some (k, v) ∧ d.eraseIdx n = ddel d k ∧ ∀ w, d.set n (k, w) = dput d k w)
  | [], k => by simp [dget, ksOf, kAt]; funext v; rfl
  | (j, w) :: d, k => by
    have ih := kAt_ks (d := d) (k := k)
    have e : ksOf ((j, w) :: d) = .inl (j : Int) :: ksOf d := rfl
    rw [e, dget]
    by_cases h : j = k
    · subst h
      rw [if_pos rfl]
      dsimp only
      exact ⟨0, by simp [kAt], rfl, by simp [ddel], fun w' => by simp [dput]⟩
    · rw [if_neg h]
      have ne : ¬ ((Sum.inl (j : Int) : Key) = Sum.inl (k : Int)) := fun z => h (by cases z; omega)
      cases hd : dget d k with
      | none =>
        rw [hd] at ih
        dsimp only at ih ⊢
        refine ⟨by simp [kAt, ne, ih.1], ?_⟩
        funext v
        have := congrFun ih.2 v
        rw [dput, if_neg h, this]; rfl
      | some v =>
        rw [hd] at ih
        dsimp only at ih ⊢
        obtain ⟨n, h1, h2, h3, h4⟩ := ih
        exact ⟨n + 1, by simp [kAt, ne, h1], by simpa using h2, by simp [ddel, h, h3], fun w' => by simp [dput, h, h4 w']⟩
theorem kAt_some' {d : Dc α} {k : Nat} {v : α} (h : dget d k = some v) : ∃ n, kAt (ksOf d) (.inl (k : Int)) = some n ∧ d[n]? = some (k, v) ∧ d.eraseIdx n = ddel d k ∧ ∀ w, d.set n (k, w) = dput d k w := by
  have := kAt_ks (d := d) (k := k)
  rw [h] at this
  exact this
variable {tv : α → T}
end
@[simp] theorem len_ksOf {α : Type} {d : Dc α} : (ksOf d).length = d.length := by simp [ksOf]
@[simp] theorem atK_nil {t : T} : T.atK [] t = some t := (rfl)
@[simp] theorem atKo_nil {t : T} : atKo [] (some (some t)) = some t := (rfl)
@[simp] theorem atKo_some' {p : List PK} {t : T} : atKo p (some (some t)) = T.atK p t := (rfl)
@[simp] theorem kHere_eq {ρ : En} : kHere ρ = some [] := (rfl)
@[simp] theorem noFd_d {x : PyData} : T.noFd (.d x) = true := by simp [T.noFd]
theorem noFdA_map {β : Type} {f : β → T} (h : ∀ x, (f x).noFd = true) : ∀ {xs : List β}, T.noFdA (xs.map f) = true
  | [] => by simp [T.noFdA]
  | x :: xs => by simp [T.noFdA, h x, noFdA_map h (xs := xs)]
abbrev tvD : Rat → T := fun q => T.d (fr q)
def rwT (r : Rw) : T := .od (ksOf r) (r.map fun x => tvD x.2)
def shK (f : Nat) (ws : List Rat) (t : T) : T := .ob "Sheet" ["free", "worths", "sums"] [.d (.int f), .ol (ws.map tvD), t]
def smF (a : Addr) (d : Dc Rw) : T := .fd a (ksOf d) (d.map fun x => rwT x.2)
theorem k_sums : kAt (["free", "worths", "sums"] : List Str) ("sums" : Str) = some 2 := by decide +kernel
section
variable {f : Nat} {ws : List Rat} {t : T} {p : List PK}
theorem atK_sums : T.atK (.fld "sums" :: p) (shK f ws t) = T.atK p t := by
  show (kAt (["free", "worths", "sums"] : List Str) ("sums" : Str)).bind _ = _
  rw [k_sums]; rfl
theorem kfld {i : Nat} {mp : MLK} {q : List PK} {g : Str} {ρ : En} (h : mp ρ = some q) (h2 : atKo q ρ[i]? = some (shK f ws t)) : kFldC i mp "Sheet" g ρ = some (q ++ [.fld g]) := by
  unfold kFldC
  rw [h]
  simp only [Option.bind_some, h2]
  rfl
end
end Sr
namespace L4
open PySem PySem.Spec PyProof.Rows L2 L3
section
variable {α β σ γ δ : Type} {P : δ → Prop} {E : Str → Prop}
theorem st_ok {a : α} {k : α → R δ} (h : Then (k a) P E) : Then ((R.ok a).bind k) P E := h
theorem st_end {a : δ} (h : P a) : Then (R.ok a) P E := h
theorem st_call {t : R α} {k : α → R δ} {Q : α → Prop} (h : Then t Q (fun _ => False)) (hk : ∀ a, Q a → Then (k a) P E) : Then (t.nx.bind k) P E := then_bindI (then_nx h) hk
theorem st_callE {t : R α} {k : α → R δ} {a : α} (h : t = .ok a) (hk : Then (k a) P E) : Then (t.nx.bind k) P E := by rw [h]; exact hk
theorem st_bind {t : R α} {k : α → R δ} {Q : α → Prop} (h : Then t Q E) (hk : ∀ a, Q a → Then (k a) P E) : Then (t.bind k) P E := then_bindI h hk
theorem st_op {b : Bool} {x : β} {k : β → R δ} (hb : b = true) (h : Then (k x) P E) : Then ((tOp b x).bind k) P E := by subst hb; exact h
theorem st_opN {b : Bool} {x : β} {k : β → R δ} (hb : b = true) (h : Then (k x) P E) : Then ((tOp b x).nx.bind k) P E := by subst hb; exact h
theorem st_mul {a b : Int} {k : Int → R δ} (hb : mulOk a b = true) (h : Then (k (a * b)) P E) : Then ((tMul a b).bind k) P E := st_op hb h
theorem st_mod {a b : Int} {k : Int → R δ} (hb : b ≠ 0) (h : Then (k (a.fmod b)) P E) : Then ((tMod a b).bind k) P E := st_op (decide_eq_true hb) h
theorem st_fdiv {a b : Int} {k : Int → R δ} (hb : divOk a b = true) (h : Then (k (a.fdiv b)) P E) : Then ((tFdiv a b).bind k) P E := st_op hb h
theorem st_add {q r : Rat} {k : Rat → R δ} (hb : hq q + hq r ≤ 9000) (h : ∀ z, z = q + r → hq z ≤ hq q + hq r + 1 → Then (k z) P E) : Then ((rAdd q r).nx.bind k) P E := st_opN (decide_eq_true (ok2_of hb)) (h _ rfl (hq_add q r))
theorem hq_zero : hq 0 = 1 := by decide +kernel
theorem hq_one : hq 1 = 1 := by decide +kernel
theorem hq_lone : hq (-1) = 1 := by decide +kernel
theorem st_neg {r : Rat} {k : Rat → R δ} (hb : hq r ≤ 8000) (h : ∀ z, z = -r → hq z = hq r → Then (k z) P E) : Then ((rSub 0 r).nx.bind k) P E := st_opN (decide_eq_true (ok2_of (by rw [hq_zero]; omega))) (by
  have : (0 : Rat) - r = -r := by grind
  rw [this]
  exact h _ rfl (hq_neg r))
theorem st_times {q r : Rat} {k : Rat → R δ} (hb : hq q + hq r ≤ 9000) (h : ∀ z, z = q * r → hq z ≤ hq q + hq r → Then (k z) P E) : Then ((rMul q r).nx.bind k) P E := st_opN (decide_eq_true (ok2_of hb)) (h _ rfl (hq_mul q r))
theorem st_lt {q r : Rat} {k : Bool → R δ} (hb : hq q + hq r ≤ 400000) (h : Then (k (decide (q < r))) P E) : Then ((rLt q r).nx.bind k) P E := st_opN (decide_eq_true hb) h
theorem st_addW {q r : Rat} {k : Rat → R δ} (hd : dq q + dq r ≤ 9000) (hb : hq q + hq r ≤ 400000) (h : ∀ z, z = q + r → hq z ≤ hq q + hq r + 1 → dq z ≤ dq q + dq r → Then (k z) P E) : Then ((rAdd q r).nx.bind k) P E := st_opN (decide_eq_true ⟨hd, hb⟩) (h _ rfl (hq_add q r) (dq_add q r))
theorem dq_zero : dq 0 = 1 := by decide +kernel
theorem st_timesW {q r : Rat} {k : Rat → R δ} (hd : dq q + dq r ≤ 9000) (hb : hq q + hq r ≤ 400000) (h : ∀ z, z = q * r → hq z ≤ hq q + hq r → dq z ≤ dq q + dq r → Then (k z) P E) : Then ((rMul q r).nx.bind k) P E := st_opN (decide_eq_true ⟨hd, hb⟩) (h _ rfl (hq_mul q r) (dq_mul q r))
theorem st_mk {t b : Int} {k : Rat → R δ} (m : Nat) (h0 : b ≠ 0) (h1 : ib b ≤ m) (h2 : ib t ≤ m) (m1 : 1 ≤ m) (m2 : m ≤ 9000) (h : ∀ z, z = Rat.divInt t b → hq z ≤ m → Then (k z) P E) : Then ((rMk t b).nx.bind k) P E := st_opN (decide_eq_true ⟨h0, by omega⟩) (h _ rfl (hq_divInt h2 h1 m1))
theorem hq_int {n : Int} {m : Nat} (h : ib n ≤ m) (h1 : 1 ≤ m) : hq (n : Rat) ≤ m := hq_le.mpr ⟨h, Nat.le_trans (show bl 1 ≤ 1 by decide) h1⟩
theorem st_idx {xs : List β} {i : Int} {k : β → R δ} (n : Nat) (hi : i = n) (h : n < xs.length) (hk : Then (k xs[n]) P E) : Then ((tIdx xs i).bind k) P E := by
  unfold tIdx tGet
  subst hi
  rw [e_atIn, List.getElem?_eq_getElem h]
  exact hk
theorem st_idxM {xs : List β} {i : Int} {k : β → R δ} (h0 : 0 ≤ i) (h1 : i < xs.length) (hk : ∀ x ∈ xs, Then (k x) P E) : Then ((tIdx xs i).bind k) P E :=
  st_idx i.toNat (by omega) (by omega) (hk _ (List.getElem_mem _))
theorem st_app {xs : List β} {x : β} {k : List β → R δ} (h : xs.length < 16777216) (hk : Then (k (xs ++ [x])) P E) : Then ((tApp xs x).bind k) P E := st_op (decide_eq_true h) hk
theorem st_cat {xs ys : List β} {k : List β → R δ} (h : xs.length + ys.length ≤ 16777216) (hk : Then (k (xs ++ ys)) P E) : Then ((tCat xs ys).bind k) P E := st_op (decide_eq_true h) hk
theorem st_ins0 {xs : List β} {x : β} {k : List β → R δ} (h : xs.length < 16777216) (hk : Then (k (x :: xs)) P E) : Then ((tIns xs 0 x).bind k) P E := by
  unfold tIns
  exact st_op (decide_eq_true ⟨h, by omega, by omega⟩) hk
theorem st_set {xs : List β} {i : Int} {x : β} {k : List β → R δ} (n : Nat) (hi : i = n) (h : n < xs.length) (hk : Then (k (xs.set n x)) P E) : Then ((tSet xs i x).bind k) P E := by
  unfold tSet
  subst hi
  rw [e_ixN h]
  exact hk
theorem st_range {lo hi : Int} {k : List Int → R δ} (h1 : -(2 ^ 60) ≤ lo) (h2 : lo ≤ 2 ^ 60) (h3 : -(2 ^ 60) ≤ hi) (h4 : hi ≤ 2 ^ 60) (h : Then (k (rgI lo hi)) P E) : Then ((tRange lo hi).bind k) P E := by
  unfold tRange
  have e1 : small62 lo = true := decide_eq_true (by omega)
  have e2 : small62 hi = true := decide_eq_true (by omega)
  rw [e1, e2]
  exact h
theorem st_down {i j : Int} {k : List Int → R δ} (h1 : -(2 ^ 60) ≤ i) (h2 : i ≤ 2 ^ 60) (h3 : -(2 ^ 60) ≤ j) (h4 : j ≤ 2 ^ 60) (h : Then (k (dnI i j)) P E) : Then ((tDown i j).bind k) P E := by
  unfold tDown
  exact st_op (by
    have e1 : small62 i = true := decide_eq_true (by omega)
    have e2 : small62 j = true := decide_eq_true (by omega)
    rw [e1, e2]; rfl) h
@[simp] theorem len_rgI {lo hi : Int} : (rgI lo hi).length = (hi - lo).toNat := by simp [rgI]
theorem get_rgI {lo hi : Int} {i : Nat} {x : Int} (h : (rgI lo hi)[i]? = some x) : x = lo + i ∧ i < (hi - lo).toNat := by
  unfold rgI at h
  rw [List.getElem?_map] at h
  obtain ⟨z, e1, e2⟩ := Option.map_eq_some_iff.mp h
  obtain ⟨h1, h2⟩ := List.getElem?_eq_some_iff.mp e1
  simp at h1 h2
  omega
@[simp] theorem len_dnI {i j : Int} : (dnI i j).length = (i - j).toNat := by simp [dnI]
@[simp] theorem tLen_eq {xs : List β} : tLen xs = (xs.length : Int) := (rfl)
@[simp] theorem len_enumL {xs : List β} : (enumL xs).length = xs.length := by simp [enumL]
theorem get_enumL {xs : List β} {i : Nat} {z : Int × β} (h : (enumL xs)[i]? = some z) : z.1 = i ∧ xs[i]? = some z.2 := by
  unfold enumL at h
  rw [List.getElem?_map] at h
  obtain ⟨y, e1, e2⟩ := Option.map_eq_some_iff.mp h
  subst e2
  rw [List.getElem?_zipIdx] at e1
  obtain ⟨u, e3, e4⟩ := Option.map_eq_some_iff.mp e1
  subst e4
  exact ⟨by simp, e3⟩
theorem mem_enumL {xs : List β} {z : Int × β} (h : z ∈ enumL xs) : ∃ i : Nat, z.1 = i ∧ ∃ hi : i < xs.length, xs[i] = z.2 := by
  obtain ⟨i, h1, h2⟩ := List.getElem_of_mem h
  have e := get_enumL (xs := xs) (i := i) (z := z) (by rw [List.getElem?_eq_getElem h1, h2])
  obtain ⟨e1, e2⟩ := e
  obtain ⟨h3, h4⟩ := List.getElem?_eq_some_iff.mp e2
  exact ⟨i, e1, h3, h4⟩
inductive All2 (Q : α → β → Prop) : List α → List β → Prop
  | nil : All2 Q [] []
  | cons {x : α} {y : β} {xs : List α} {ys : List β} : Q x y → All2 Q xs ys → All2 Q (x :: xs) (y :: ys)
theorem All2.len {Q : α → β → Prop} : ∀ {xs : List α} {ys : List β}, All2 Q xs ys → ys.length = xs.length
  | _, _, .nil => rfl
  | _, _, .cons _ r => by simp [r.len]
theorem All2.all {Q : α → β → Prop} {S : β → Prop} : ∀ {xs : List α} {ys : List β}, All2 Q xs ys → (∀ x ∈ xs, ∀ y, Q x y → S y) → ∀ y ∈ ys, S y
  | _, _, .nil, _, y, h => by simp at h
  | _, _, .cons q r, k, y, h => by
    rcases List.mem_cons.mp h with e | e
    · subst e; exact k _ List.mem_cons_self _ q
    · exact r.all (fun x hx => k x (List.mem_cons_of_mem _ hx)) y e
theorem All2.get {Q : α → β → Prop} : ∀ {xs : List α} {ys : List β}, All2 Q xs ys → ∀ {i : Nat} (h1 : i < xs.length) (h2 : i < ys.length), Q xs[i] ys[i]
  | _, _, .cons q r, 0, _, _ => q
  | _, _, .cons q r, i + 1, h1, h2 => r.get (by simpa using h1) (by simpa using h2)
theorem map_ok {f : α → R β} {g : α → β} : ∀ {xs : List α}, (∀ x ∈ xs, f x = .ok (g x)) → tMap f xs = .ok (xs.map g)
  | [], _ => rfl
  | x :: xs, h => by
    unfold tMap
    rw [h x List.mem_cons_self, map_ok fun z hz => h z (List.mem_cons_of_mem _ hz)]
    rfl
theorem st_mapF {f : α → R β} {xs : List α} {k : List β → R δ} (g : α → β) (hl : xs.length ≤ 16777216) (h : ∀ x ∈ xs, f x = .ok (g x)) (hk : Then (k (xs.map g)) P E) : Then ((tMapG f xs).bind k) P E := by
  unfold tMapG
  have e : lenOk xs = true := decide_eq_true hl
  rw [e, guard_t, map_ok h]
  exact hk
theorem fm_ok {f : α → R (Option α)} {p : α → Bool} : ∀ {xs : List α}, (∀ x ∈ xs, f x = .ok (if p x = true then some x else none)) → tFm f xs = .ok (xs.filter p)
  | [], _ => rfl
  | x :: xs, h => by
    unfold tFm
    rw [h x List.mem_cons_self, fm_ok fun z hz => h z (List.mem_cons_of_mem _ hz)]
    cases e : p x <;> simp [e]
theorem st_fmF {f : α → R (Option α)} {xs : List α} {k : List α → R δ} (p : α → Bool) (hl : xs.length ≤ 16777216) (h : ∀ x ∈ xs, f x = .ok (if p x = true then some x else none)) (hk : Then (k (xs.filter p)) P E) : Then ((tFmG f xs).bind k) P E := by
  unfold tFmG
  have e : lenOk xs = true := decide_eq_true hl
  rw [e, guard_t, fm_ok h]
  exact hk
theorem then_fold {f : σ → α → R σ} (I : Nat → σ → Prop) {xs : List α} : ∀ {i : Nat} {s : σ}, I i s → (∀ j x s, xs[j]? = some x → I (i + j) s → Then (f s x) (I (i + j + 1)) E) → Then (tFold f xs s) (I (i + xs.length)) E := by
  induction xs with
  | nil => intro i s h _; exact h
  | cons x xs ih =>
    intro i s h hs
    unfold tFold
    refine then_bindI (hs 0 x s rfl h) fun s' h' => ?_
    have := ih (i := i + 1) (s := s') h' fun j y t hy ht => by
      have e := hs (j + 1) y t (by simpa using hy) (by rwa [show i + (j + 1) = i + 1 + j by omega])
      rwa [show i + (j + 1) + 1 = i + 1 + j + 1 by omega] at e
    rwa [show i + 1 + xs.length = i + (x :: xs).length by simp; omega] at this
theorem st_fold {f : σ → α → R σ} {xs : List α} {s0 : σ} {k : σ → R δ} (I : Nat → σ → Prop) (h0 : I 0 s0) (h : ∀ j x s, xs[j]? = some x → I j s → Then (f s x) (I (j + 1)) E) (hk : ∀ s, I xs.length s → Then (k s) P E) : Then ((tFold f xs s0).bind k) P E := by
  refine then_bindI (then_fold I h0 fun j x s hx hs => ?_) fun s hs => hk s (by rwa [Nat.zero_add] at hs)
  rw [Nat.zero_add] at hs ⊢
  exact h j x s hx hs
theorem then_loop {f : σ → α → R (Fl σ γ)} (I : Nat → σ → Prop) (D : σ → Prop) (Rt : γ → Prop) {xs : List α} : ∀ {i : Nat} {s : σ}, I i s → (∀ s, I (i + xs.length) s → D s) → (∀ j x s, xs[j]? = some x → I (i + j) s → Then (f s x) (fun r => match r with | .nx s => I (i + j + 1) s | .bk s => D s | .rt r => Rt r) E) → Then (tLoop f xs s) (fun r => match r with | .nx s => D s | .rt r => Rt r | .bk _ => False) E := by
  induction xs with
  | nil => intro i s h hd _; exact hd s h
  | cons x xs ih =>
    intro i s h hd hs
    unfold tLoop
    refine then_bindI (hs 0 x s rfl h) fun r h' => ?_
    cases r with
    | nx s' =>
      refine ih (i := i + 1) (s := s') h' (fun s hh => hd s (by rwa [show i + (x :: xs).length = i + 1 + xs.length by simp; omega])) fun j y t hy ht => ?_
      have e := hs (j + 1) y t (by simpa using hy) (by rwa [show i + (j + 1) = i + 1 + j by omega])
      rwa [show i + (j + 1) + 1 = i + 1 + j + 1 by omega] at e
    | bk s' => exact h'
    | rt r => exact h'
theorem st_loop {f : σ → α → R (Fl σ γ)} {xs : List α} {s0 : σ} {k : σ → R δ} {kr : γ → R δ} (I : Nat → σ → Prop) (D : σ → Prop) (Rt : γ → Prop) (h0 : I 0 s0) (hd : ∀ s, I xs.length s → D s) (h : ∀ j x s, xs[j]? = some x → I j s → Then (f s x) (fun r => match r with | .nx s => I (j + 1) s | .bk s => D s | .rt r => Rt r) E) (hk : ∀ s, D s → Then (k s) P E) (hr : ∀ r, Rt r → Then (kr r) P E) : Then ((tLoop f xs s0).bind fun z => z.on k kr) P E := by
  refine then_bindI (then_loop I D Rt h0 (fun s hs => hd s (by rwa [Nat.zero_add] at hs)) fun j x s hx hs => ?_) fun z hz => ?_
  · rw [Nat.zero_add] at hs ⊢
    exact h j x s hx hs
  · cases z with
    | nx s => exact hk s hz
    | rt r => exact hr r hz
    | bk _ => exact hz.elim
theorem then_lc {f : σ → α → R (Option β × σ)} (I : Nat → σ → Prop) (S : β → Prop) {xs : List α} : ∀ {i : Nat} {acc : List β} {s : σ}, I i s → (∀ y ∈ acc, S y) → (∀ j x s, xs[j]? = some x → I (i + j) s → Then (f s x) (fun r => (∃ y, r.1 = some y ∧ S y) ∧ I (i + j + 1) r.2) E) → Then (tLc f xs acc s) (fun r => r.1.length = acc.length + xs.length ∧ (∀ y ∈ r.1, S y) ∧ I (i + xs.length) r.2) E := by
  induction xs with
  | nil => intro i acc s h ha _; exact ⟨rfl, ha, h⟩
  | cons x xs ih =>
    intro i acc s h ha hs
    unfold tLc
    refine then_bindI (hs 0 x s rfl h) fun r ⟨⟨y, ey, sy⟩, h'⟩ => ?_
    rw [ey]
    have := ih (i := i + 1) (acc := acc ++ [y]) (s := r.2) h' (fun z hz => by
      rcases List.mem_append.mp hz with e | e
      · exact ha z e
      · simp at e; subst e; exact sy) fun j z t hz ht => by
      have e := hs (j + 1) z t (by simpa using hz) (by rwa [show i + (j + 1) = i + 1 + j by omega])
      rwa [show i + (j + 1) + 1 = i + 1 + j + 1 by omega] at e
    refine this.imp fun r ⟨l, a, b⟩ => ⟨by simp at l ⊢; omega, a, by rwa [show i + 1 + xs.length = i + (x :: xs).length by simp; omega] at b⟩
theorem st_lc {f : σ → α → R (Option β × σ)} {xs : List α} {s0 : σ} {k : List β × σ → R δ} (I : Nat → σ → Prop) (S : β → Prop) (hl : xs.length ≤ 16777216) (h0 : I 0 s0) (h : ∀ j x s, xs[j]? = some x → I j s → Then (f s x) (fun r => (∃ y, r.1 = some y ∧ S y) ∧ I (j + 1) r.2) E) (hk : ∀ r, r.1.length = xs.length → (∀ y ∈ r.1, S y) → I xs.length r.2 → Then (k r) P E) : Then ((tLcG f xs s0).bind k) P E := by
  unfold tLcG
  have e : lenOk xs = true := decide_eq_true hl
  rw [e, guard_t]
  refine then_bindI (then_lc I S h0 (by simp) fun j x s hx hs => ?_) fun r ⟨l, a, b⟩ => hk r (by simpa using l) a (by rwa [Nat.zero_add] at b)
  rw [Nat.zero_add] at hs ⊢
  exact h j x s hx hs
theorem Fn.spec {fm : List T → R (T × List T)} {ts : List T} {t0 : R β} {F : β → T} {G : β → List T} {Q : β → Prop} (h : Fn fm ts t0 F G) (k : Then t0 Q E) : Then (fm ts) (fun z => ∃ a, z = (F a, G a) ∧ Q a) E := (Rf.then h k)
theorem Fn.eq {fm : List T → R (T × List T)} {ts : List T} {t0 : R β} {F : β → T} {G : β → List T} {a : β} (h : Fn fm ts t0 F G) (k : t0 = .ok a) : fm ts = .ok (F a, G a) := by
  unfold Fn at h
  subst k
  obtain ⟨z, e, ez⟩ := h
  rw [e, ez]
theorem of_then {t : R β} {Q : β → Prop} (h : Then t Q (fun _ => False)) : ∃ a, t = .ok a ∧ Q a := by
  cases t with
  | ok a => exact ⟨a, rfl, h⟩
  | exc c => exact h.elim
  | bad => exact h.elim
end
end L4
namespace Sr
open PySem PySem.Spec PyProof.Rows L2 L3 L4 Sx
@[simp] theorem e_mPop2 {i : Nat} {mp : MLK} {mk md : MP} {ρ : En} : mPop2 i mp mk md ρ = (ofO (mp ρ)).bind fun p => (ofO ((mk ρ).bind T.key)).bind fun k => (ofO (md ρ)).bind fun d => match d with
  | .d x => popO i p k ρ (.ok (.d x, ρ))
  | _ => .bad := (rfl)
@[simp] theorem e_keyI {i : Int} : T.key (.d (.int i)) = some (.inl i) := (rfl)
@[simp] theorem e_mKeySet {i : Nat} {mp : MLK} {mk : MP} {me : MEx} {ρ : En} : mKeySet i mp mk me ρ = (me ρ).bind fun r => (ofO (mp r.2)).bind fun p => (ofO ((mk r.2).bind T.key)).bind fun k => (ofO (atKo p r.2[i]?)).bind fun tc => match tc with
  | .od ks ts => L3.guard (decide (ks.length < sLine)) ((ofO (putAtK i p (.od (putT ks ts k r.1).1 (putT ks ts k r.1).2) r.2)).bind fun ρ' => .ok (.next ρ'))
  | _ => .bad := (rfl)
end Sr
namespace Sr
open PySem PySem.Spec PyProof.Rows L2 L3 L4 Sx
section
variable {f j k : Nat} {ws : List Rat} {t : T} {q : Rat}
theorem kf {i : Nat} {g : Str} {ρ : En} (h0 : ρ[i]? = some (some (shK f ws t))) : kFldC i kHere "Sheet" g ρ = some [.fld g] := kfld (q := []) rfl (by rw [h0]; rfl)
end
theorem keyF {a : Addr} {α : Type} {d : Dc α} {k : Nat} {v : α} {tv : α → T} {p : List PK} (h : dget d k = some v) : T.atK (.key (.inl (k : Int)) :: p) (.fd a (ksOf d) (d.map fun x => tv x.2)) = T.atK p (tv v) := by
  obtain ⟨n, h1, h2, _⟩ := kAt_some' h
  show (kAt (ksOf d) (.inl (k : Int))).bind _ = _
  rw [h1]
  simp only [Option.bind_some, List.getElem?_map, h2]
  rfl
end Sr
namespace Sr
open PySem PySem.Spec PyProof.Rows L2 L3 L4 Sx
section
variable {f k q : Nat} {ws : List Rat} {d : Dc Rw} {a : Addr} {x1 x2 x3 x4 x5 x6 x8 : Option T}
abbrev exE (f : Nat) (ws : List Rat) (d : Dc Rw) (a : Addr) (x1 x2 x3 x4 x5 x6 : Option T) (k : Nat) (x8 : Option T) : En := [some (shK f ws (smF a d)), x1, x2, x3, x4, x5, x6, some (T.d (.int (k : Int))), x8]
theorem ex_at {r : Rw} (h : dget d k = some r) : atKo [.fld "sums", .key (.inl (k : Int))] (exE f ws d a x1 x2 x3 x4 x5 x6 k x8)[0]? = some (rwT r) := by
  show T.atK _ (shK f ws (smF a d)) = _
  rw [atK_sums]
  exact keyF (tv := rwT) (p := []) h
end
end Sr
namespace Sr
open PySem PySem.Spec PyProof.Rows L2 L3 L4 Sx
@[simp] theorem e_mPop1 {i : Nat} {mp : MLK} {mk : MP} {ρ : En} : mPop1 i mp mk ρ = (ofO (mp ρ)).bind fun p => (ofO ((mk ρ).bind T.key)).bind fun k => popO i p k ρ .bad := (rfl)
structure Sz (R D : Nat) (s : Sx.St) : Prop where
  row : ∀ k r, dget s.sums k = some r → ∀ x ∈ r, hq x.2 ≤ R
  wd : ∀ j, dq (s.w j) ≤ D
  wh : ∀ j, hq (s.w j) ≤ 100000
end Sr
namespace Sr
open PySem PySem.Spec PyProof.Rows L2 L3 L4 Sx
end Sr
namespace Sr
open PySem PySem.Spec PyProof.Rows L2 L3 L4 Sx
end Sr
namespace Sr
open PySem PySem.Spec PyProof.Rows L2 L3 L4 Sx
section
variable {d : Dc Rw} {p k : Nat} {r : Rw} {t n : T}
end
end Sr
namespace Sr
open PySem PySem.Spec PyProof.Rows L2 L3 L4 Sx
section
variable {f k : Nat} {ws : List Rat} {d : Dc Rw} {rows : List (List Rat × Rat)} {b : List Rat} {at' : Rat} {x3 x4 x5 x6 : Option T} {R : T}
end
end Sr
namespace Sr
open PySem PySem.Spec PyProof.Rows L2 L3 L4 Sx
end Sr
namespace Sr
open PySem PySem.Spec PyProof.Rows L2 L3 L4 Sx
section
variable {rows : List (List Rat × Rat)} {f : Nat} {s : Sx.St}
theorem dotD_hq {z : Nat → Rat} {k c : Nat} (hz : ∀ j, hq (z j) ≤ c) : ∀ {r : Rw}, (∀ x ∈ r, hq x.2 ≤ k) → hq (dotD r z) ≤ r.length * (k + c + 1) + 1
  | [], _ => by
    have := hq_zero
    show hq 0 ≤ _
    omega
  | x :: r, h => by
    have h1 := h x List.mem_cons_self
    have ih := dotD_hq (k := k) hz (r := r) fun y hy => h y (List.mem_cons_of_mem _ hy)
    have e : dotD (x :: r) z = x.2 * z x.1 + dotD r z := rfl
    rw [e, List.length_cons, Nat.succ_mul]
    have m := hq_mul x.2 (z x.1)
    have a := hq_add (x.2 * z x.1) (dotD r z)
    have := hz x.1
    omega
theorem Yp_hq {c : Nat} (hc : 1 ≤ c) (hs : ∀ r ∈ rows, hq r.2 ≤ c) (j : Nat) : hq (Yp rows f (fun _ => 0) j) ≤ c := by
  have z := hq_zero
  unfold Yp
  split
  · show hq 0 ≤ c
    omega
  · split
    · rename_i h
      rw [dotF_zero]
      have e : (0 : Rat) + (rows[j - f]'h).2 = (rows[j - f]'h).2 := by grind
      rw [e]
      exact hs _ (List.getElem_mem h)
    · omega
theorem row_len (I : Inv rows f s) {p : Nat} {r : Rw} (hp : dget s.sums p = some r) : r.length ≤ f := by
  have rk := I.sh.rk p r hp
  have := nodup_sub_len (l := keys r) (m := nbs (f + rows.length) s) rk.nd fun x hx => by
    obtain ⟨h1, h2⟩ := rk.ks x hx
    unfold nbs
    exact List.mem_filter.mpr ⟨List.mem_range.mpr h1, decide_eq_true h2⟩
  rw [nbs_len I] at this
  simpa [keys] using this
theorem Inv.w_hq (I : Inv rows f s) (hl : ∀ r ∈ rows, r.1.length = f) (hf : f ≤ 3) {a c : Nat} (ha : 1 ≤ a) (hc : 1 ≤ c) (hs : ∀ r ∈ rows, ∀ x ∈ r.1, hq x ≤ a) (hs2 : ∀ r ∈ rows, hq r.2 ≤ c) (j : Nat) : hq (s.w j) ≤ 36 * a + 4 * c + 35 := by
  by_cases hj : j ∈ keys s.sums
  · rw [I.worth hl hj]
    have g := row_get hj
    have rl := row_len I g
    have e := dotD_hq (r := s.row j) (z := Yp rows f fun _ => 0) (k := 12 * a + 10) (c := c) (Yp_hq hc hs2) (I.entry_hq hl hf ha hs g)
    have y := Yp_hq (f := f) hc hs2 j
    have sb := hq_sub (Yp rows f (fun _ => 0) j) (dotD (s.row j) (Yp rows f fun _ => 0))
    have : (s.row j).length * (12 * a + 10 + c + 1) ≤ 3 * (12 * a + 10 + c + 1) := Nat.mul_le_mul_right _ (by omega)
    omega
  · rw [I.sh.zero j hj]
    have := hq_zero
    omega
theorem dq_whole {n : Int} : dq (n : Rat) = 1 := by
  unfold dq
  rw [Rat.den_intCast]
  decide
theorem dotD_G {z : Nat → Rat} {c : Nat} {G : Int} (hG : G ≠ 0) (hz : ∀ j, dq (z j) ≤ c) : ∀ {r : Rw}, (∀ x ∈ r, ∃ y : Int, x.2 = (y : Rat) / (G : Rat)) → ∃ t : Rat, dotD r z = t / (G : Rat) ∧ dq t ≤ r.length * (c + 1) + 1
  | [], _ => ⟨0, by
      show (0 : Rat) = 0 / _
      rw [Rat.div_def, Rat.zero_mul], by
      have := dq_zero
      omega⟩
  | x :: r, h => by
    obtain ⟨t, e, d⟩ := dotD_G hG hz (r := r) fun y hy => h y (List.mem_cons_of_mem _ hy)
    obtain ⟨y, ey⟩ := h x List.mem_cons_self
    refine ⟨(y : Rat) * z x.1 + t, ?_, ?_⟩
    · have e2 : dotD (x :: r) z = x.2 * z x.1 + dotD r z := rfl
      rw [e2, e, ey, Rat.div_def, Rat.div_def, Rat.div_def]; grind
    · rw [List.length_cons, Nat.succ_mul]
      have a := dq_add ((y : Rat) * z x.1) t
      have m := dq_mul (y : Rat) (z x.1)
      rw [dq_whole] at m
      have := hz x.1
      omega
theorem Yp_dq {c : Nat} (hc : 1 ≤ c) (hs : ∀ r ∈ rows, dq r.2 ≤ c) (j : Nat) : dq (Yp rows f (fun _ => 0) j) ≤ c := by
  have z := dq_zero
  unfold Yp
  split
  · show dq 0 ≤ c
    omega
  · split
    · rename_i h
      rw [dotF_zero]
      have e : (0 : Rat) + (rows[j - f]'h).2 = (rows[j - f]'h).2 := by grind
      rw [e]
      exact hs _ (List.getElem_mem h)
    · omega
theorem Inv.w_dq (I : Inv rows f s) (hl : ∀ r ∈ rows, r.1.length = f) (hf : f ≤ 3) {a c : Nat} (ha : 1 ≤ a) (hc : 1 ≤ c) (hs : ∀ r ∈ rows, ∀ x ∈ r.1, hq x ≤ a) (hs2 : ∀ r ∈ rows, dq r.2 ≤ c) (j : Nat) : dq (s.w j) ≤ 12 * a + (3 * c + dq (Yp rows f (fun _ => 0) j)) + 8 := by
  by_cases hj : j ∈ keys s.sums
  · rw [I.worth hl hj]
    have g := row_get hj
    have rl := row_len I g
    have rk := I.sh.rk _ _ g
    obtain ⟨G, nG, bG, h⟩ := I.bottom hl hf ha hs hj
    obtain ⟨t, et, dt⟩ := dotD_G (z := Yp rows f fun _ => 0) nG (Yp_dq hc hs2) (r := s.row j) fun x hx => by
      obtain ⟨y, _, e⟩ := h x.1 (List.mem_map.mpr ⟨_, hx, rfl⟩)
      rw [rowv_mem rk.nd (v := x.2) hx] at e
      exact ⟨y, e⟩
    have dv := dq_div t (G : Rat)
    rw [Rat.num_intCast] at dv
    rw [et]
    have sb := dq_sub (Yp rows f (fun _ => 0) j) (t / (G : Rat))
    have : (s.row j).length * (c + 1) ≤ 3 * (c + 1) := Nat.mul_le_mul_right _ (by omega)
    omega
  · rw [I.sh.zero j hj]
    have := dq_zero
    omega
theorem Inv.w_dq4 (I : Inv rows f s) (hl : ∀ r ∈ rows, r.1.length = f) (hf : f ≤ 3) {a c : Nat} (ha : 1 ≤ a) (hc : 1 ≤ c) (hs : ∀ r ∈ rows, ∀ x ∈ r.1, hq x ≤ a) (hs2 : ∀ r ∈ rows, dq r.2 ≤ c) (j : Nat) : dq (s.w j) ≤ 12 * a + 4 * c + 35 := by
  have := Inv.w_dq I hl hf ha hc hs hs2 j
  have := Yp_dq (f := f) hc hs2 j
  omega
theorem Inv.sz (I : Inv rows f s) (hl : ∀ r ∈ rows, r.1.length = f) (hf : f ≤ 3) {a c e : Nat} (ha : 1 ≤ a) (hc : 1 ≤ c) (he : 1 ≤ e) (hs : ∀ r ∈ rows, ∀ x ∈ r.1, hq x ≤ a) (hs2 : ∀ r ∈ rows, hq r.2 ≤ c) (hs3 : ∀ r ∈ rows, dq r.2 ≤ e) (hb : 6 * a + e ≤ 1110) (hc2 : c ≤ 20000) : Sz (12 * a + 10) (12 * a + 4 * e + 35) s := by
  have key : ∀ j, hq (s.w j) ≤ 36 * a + 4 * c + 35 := Inv.w_hq I hl hf ha hc hs hs2
  exact ⟨fun k r h => I.entry_hq hl hf ha hs h, fun j => Inv.w_dq4 I hl hf ha he hs hs3 j, fun j => Nat.le_trans (key j) (by omega)⟩
theorem Walk.snoc {n : Nat} {st : Nat → Sx.St} {p q : Nat → Nat} (W : Walk rows f n st p q) {s' : Sx.St} {a b : Nat} (h : Step f (st n) s' a b) : ∃ st' p' q', Walk rows f (n + 1) st' p' q' ∧ st' (n + 1) = s' := by
  refine ⟨fun j => if j ≤ n then st j else s', fun j => if j < n then p j else a, fun j => if j < n then q j else b, ⟨?_, fun i hi => ?_⟩, ?_⟩
  · show Inv rows f (if 0 ≤ n then st 0 else s')
    rw [if_pos (Nat.zero_le _)]
    exact W.inv
  · show Step f (if i ≤ n then st i else s') (if i + 1 ≤ n then st (i + 1) else s') (if i < n then p i else a) (if i < n then q i else b)
    by_cases hn : i < n
    · rw [if_pos (by omega), if_pos (by omega), if_pos hn, if_pos hn]
      exact W.step i hn
    · have : i = n := by omega
      subst this
      rw [if_pos (by omega), if_neg (by omega), if_neg hn, if_neg hn]
      exact h
  · show (if n + 1 ≤ n then st (n + 1) else s') = s'
    rw [if_neg (by omega)]
end
end Sr
namespace Sr
open PySem PySem.Spec PyProof.Rows L2 L3 L4 Sx
section
variable {P M Rs : T} {f n : Nat} {s : Sx.St} {x4 x5 x6 : Option T}
end
end Sr
namespace Sr
open PySem PySem.Spec PyProof.Rows L2 L3 L4 Sx
inductive Told where
  | choice (xs : List Rat)
  | bars (ws : List Rat)
def Told.name : Told → Str
  | .choice _ => "choice"
  | .bars _ => "bars"
def Told.nums : Told → List Rat
  | .choice xs => xs
  | .bars ws => ws
def Told.t (o : Told) : T := .ot [T.d (.str o.name), .ol (o.nums.map tvD)]
section
variable {f : Nat} {s : Sx.St} {P M Rs : T} {y4 y5 y6 : Option T}
end
end Sr
namespace L4
open PySem PySem.Spec PyProof.Rows L2 L3
section
variable {β γ δ : Type}
structure Inj (e : β → PyData) : Prop where
  inj : ∀ a b, e a = e b → a = b
theorem Nice.i {e : β → PyData} {k : Nat} (h : Nice e k) : Inj e := ⟨h.inj⟩
theorem Inj.map {e : β → PyData} (h : Inj e) : ∀ (a b : List β), a.map e = b.map e → a = b
  | [], [], _ => rfl
  | [], _ :: _, z => by simp at z
  | _ :: _, [], z => by simp at z
  | x :: a, y :: b, z => by
    simp at z
    rw [h.inj _ _ z.1, Inj.map h a b z.2]
theorem Inj.list {e : β → PyData} (h : Inj e) : Inj (eL e) := ⟨fun a b z => by
  have z : PyData.list (a.map e) = .list (b.map e) := z
  injection z with z
  exact h.map a b z⟩
theorem Inj.t2 {e : β → PyData} {f : γ → PyData} (h : Inj e) (k : Inj f) : Inj (eT2 e f) := ⟨fun a b z => by
  obtain ⟨a1, a2⟩ := a
  obtain ⟨b1, b2⟩ := b
  have z : PyData.tuple [e a1, f a2] = .tuple [e b1, f b2] := z
  injection z with z
  simp at z
  rw [h.inj _ _ z.1, k.inj _ _ z.2]⟩
theorem Inj.t3 {e : β → PyData} {f : γ → PyData} {g : δ → PyData} (h : Inj e) (k : Inj f) (l : Inj g) : Inj (eT3 e f g) := ⟨fun a b z => by
  obtain ⟨a1, a2, a3⟩ := a
  obtain ⟨b1, b2, b3⟩ := b
  have z : PyData.tuple [e a1, f a2, g a3] = .tuple [e b1, f b2, g b3] := z
  injection z with z
  simp at z
  rw [h.inj _ _ z.1, k.inj _ _ z.2.1, l.inj _ _ z.2.2]⟩
end
section
variable {X Y α β γ δ : Type} {p : Pt} {t t2 : R α} {Rel : α → Y → Prop} {K : T → Env → R Y} {KB : Bool → Env → R Y} {i : Nat}
end
end L4
namespace L4
open PySem PySem.Spec PyProof.Rows L2 L3
abbrev RowQ := List Rat × List Rat × Rat
abbrev RuleQ := List (List RowQ × List RowQ) × List RowQ
abbrev Ans := RuleQ ⊕ (List Rat × List Rat)
noncomputable abbrev eRuQ : RuleQ → PyData := eT2 (eL (eT2 (eL (eT3 (eL fr) (eL fr) fr)) (eL (eT3 (eL fr) (eL fr) fr)))) (eL (eT3 (eL fr) (eL fr) fr))
noncomputable def eA : Ans → PyData
  | .inl r => .tuple [.str "always", eRuQ r]
  | .inr p => .tuple [.str "never", eL fr p.1, eL fr p.2]
instance decAns : DecidableEq Ans := inferInstance
section
variable {α : Type}
end
section
variable {Y α β : Type} {p : Pt} {t : R α} {Rel : α → Y → Prop} {K : T → Env → R Y}
end
end L4
namespace Sr
open PySem PySem.Spec PyProof.Rows L2 L3 L4
abbrev PlanR := List (Rat × Rat) × List (Rat × Rat) × List (List Rat × List Rat × Rat)
end Sr
namespace Sr
open PySem PySem.Spec PyProof.Rows L2 L3 L4
@[irreducible] noncomputable def t_is_plain (row1 : ((List Rat) × (List Rat) × Rat)) : R Bool :=
  (tCat row1.1 row1.2.1).bind fun v2 => (tLoop (fun (s3 : Unit) x4 => (if ¬ x4 = (0 : Rat) then .ok (.rt false) else .ok (.nx ()) : R (Fl Unit Bool))) v2 ()).bind fun f => f.on (fun s5 => (show R Bool from (rLt row1.2.2 (0 : Rat)).nx.bind fun r7 => .ok (!r7)).bind fun b6 => .ok b6) (fun r8 => .ok r8)
@[irreducible] noncomputable def t_put_on (rows1 : (List ((List Rat) × (List Rat) × Rat))) (row2 : ((List Rat) × (List Rat) × Rat)) : R (Unit × (List ((List Rat) × (List Rat) × Rat))) :=
  (show R Bool from (t_is_plain row2).nx.bind fun r4 => if (!r4) = true then .ok (!decide (row2 ∈ rows1)) else .ok false).bind fun b3 => if b3 = true then (tApp rows1 row2).bind fun rows5 => .ok ((), rows5) else .ok ((), rows1)
@[irreducible] noncomputable def t_bound_row (plan1 : ((List (Rat × Rat)) × (List (Rat × Rat)) × (List ((List Rat) × (List Rat) × Rat)))) (k2 : Int) (sign3 : Rat) (c4 : Rat) : R ((List Rat) × (List Rat) × Rat) :=
  (tMapG (fun x5 => (.ok (0 : Rat) : R Rat)) plan1.2.1).bind fun r6 => (tSet r6 k2 sign3).bind fun b7 => (tMapG (fun x8 => (.ok (0 : Rat) : R Rat)) plan1.1).bind fun r9 => .ok (r9, b7, c4)
@[irreducible] noncomputable def t_first_rows (plan1 : ((List (Rat × Rat)) × (List (Rat × Rat)) × (List ((List Rat) × (List Rat) × Rat)))) : R (List ((List Rat) × (List Rat) × Rat)) :=
  (tFold (fun (s2 : (List ((List Rat) × (List Rat) × Rat))) x3 => ((t_put_on s2 (x3.1, x3.2.1, x3.2.2)).nx.bind fun r4 => .ok (r4.2) : R (List ((List Rat) × (List Rat) × Rat)))) plan1.2.2 (([] : (List ((List Rat) × (List Rat) × Rat))))).bind fun s5 => (tFold (fun (s6 : (List ((List Rat) × (List Rat) × Rat))) x7 => ((rSub (0 : Rat) x7.2.1).nx.bind fun r8 => (t_bound_row plan1 x7.1 (1 : Rat) r8).nx.bind fun r9 => (t_put_on s6 r9).nx.bind fun r10 => (t_bound_row plan1 x7.1 (-1 : Rat) x7.2.2).nx.bind fun r11 => (t_put_on r10.2 r11).nx.bind fun r12 => .ok (r12.2) : R (List ((List Rat) × (List Rat) × Rat)))) (enumL plan1.2.1) (s5)).bind fun s13 => .ok s13
@[irreducible] noncomputable def t_mixed (ones1 : (List Rat)) (many2 : Rat) (others3 : (List Rat)) (more4 : Rat) : R (List Rat) :=
  (tMapG (fun x5 => ((rMul x5.1 many2).nx.bind fun r6 => (rMul x5.2 more4).nx.bind fun r7 => (rAdd r6 r7).nx.bind fun r8 => .ok r8 : R Rat)) (ones1.zip others3)).bind fun r9 => .ok r9
@[irreducible] noncomputable def t_taken_together (low1 : ((List Rat) × (List Rat) × Rat)) (high2 : ((List Rat) × (List Rat) × Rat)) (k3 : Int) : R ((List Rat) × (List Rat) × Rat) :=
  (tIdx high2.2.1 k3).bind fun x4 => (rSub (0 : Rat) x4).nx.bind fun r5 => (tIdx low1.2.1 k3).bind fun x6 => (rMul low1.2.2 r5).nx.bind fun r7 => (rMul high2.2.2 x6).nx.bind fun r8 => (rAdd r7 r8).nx.bind fun r9 => (t_mixed low1.1 r5 high2.1 x6).nx.bind fun r10 => (t_mixed low1.2.1 r5 high2.2.1 x6).nx.bind fun r11 => .ok (r10, r11, r9)
@[irreducible] noncomputable def t_taken_out (rows1 : (List ((List Rat) × (List Rat) × Rat))) (k2 : Int) : R ((List ((List Rat) × (List Rat) × Rat)) × (List ((List Rat) × (List Rat) × Rat)) × (List ((List Rat) × (List Rat) × Rat))) :=
  (tFmG (fun x3 => ((tIdx x3.2.1 k2).bind fun x4 => (rLt (0 : Rat) x4).nx.bind fun r5 => if r5 = true then .ok (some x3) else .ok none : R (Option ((List Rat) × (List Rat) × Rat)))) rows1).bind fun r6 => (tFmG (fun x7 => ((tIdx x7.2.1 k2).bind fun x8 => (rLt x8 (0 : Rat)).nx.bind fun r9 => if r9 = true then .ok (some x7) else .ok none : R (Option ((List Rat) × (List Rat) × Rat)))) rows1).bind fun r10 => (tFmG (fun x11 => ((tIdx x11.2.1 k2).bind fun x12 => if x12 = (0 : Rat) then .ok (some x11) else .ok none : R (Option ((List Rat) × (List Rat) × Rat)))) rows1).bind fun r13 => (tFold (fun (s14 : (List ((List Rat) × (List Rat) × Rat))) x15 => ((tFold (fun (s16 : (List ((List Rat) × (List Rat) × Rat))) x17 => ((t_taken_together x15 x17 k2).nx.bind fun r18 => (t_put_on s16 r18).nx.bind fun r19 => .ok (r19.2) : R (List ((List Rat) × (List Rat) × Rat)))) r10 (s14)).bind fun s20 => .ok (s20) : R (List ((List Rat) × (List Rat) × Rat)))) r6 (r13)).bind fun s21 => .ok (r6, r10, s21)
@[irreducible] noncomputable def t_rule_of (plan1 : ((List (Rat × Rat)) × (List (Rat × Rat)) × (List ((List Rat) × (List Rat) × Rat)))) : R ((List ((List ((List Rat) × (List Rat) × Rat)) × (List ((List Rat) × (List Rat) × Rat)))) × (List ((List Rat) × (List Rat) × Rat))) :=
  (t_first_rows plan1).nx.bind fun r2 => (tDown ((tLen plan1.2.1) - (1 : Int)) (-(1 : Int))).bind fun ks3 => (tFold (fun (s4 : ((List ((List Rat) × (List Rat) × Rat)) × (List ((List ((List Rat) × (List Rat) × Rat)) × (List ((List Rat) × (List Rat) × Rat)))))) x5 => ((t_taken_out s4.1 x5).nx.bind fun r6 => (tIns s4.2 (0 : Int) (r6.1, r6.2.1)).bind fun steps7 => .ok (r6.2.2, steps7) : R ((List ((List Rat) × (List Rat) × Rat)) × (List ((List ((List Rat) × (List Rat) × Rat)) × (List ((List Rat) × (List Rat) × Rat))))))) ks3 (r2, ([] : (List ((List ((List Rat) × (List Rat) × Rat)) × (List ((List Rat) × (List Rat) × Rat))))))).bind fun s8 => .ok (s8.2, s8.1)
end Sr
namespace Sr
open PySem PySem.Spec PyProof.Rows L2 L3 L4
@[irreducible] noncomputable def t__law_cell_at (script1 : (List Int)) (k2 : Int) : R Int :=
  if k2 < (tLen script1) then (tIdx script1 k2).bind fun x3 => .ok x3 else .ok (0 : Int)
theorem fn_t__law_cell_at {script1 : (List Int)} {k2 : Int} : Fn m__law_cell_at [(fun xs : List Int => T.rd (xs.map PyData.int)) script1, (dE eI) k2] (t__law_cell_at script1 k2) (fun a : Int => (dE eI) a) (fun a => []) := by
  unfold m__law_cell_at t__law_cell_at
  exact fn_j (p := [some ((fun xs : List Int => T.rd (xs.map PyData.int)) script1), some ((dE eI) k2)]) rfl (s_seq (s_if (t_test (x_lift (p_bin (p_var rfl (p_callB (z_cons (p_var rfl (z_nil (v_ok len_r (v_ok rfl (x_onlyD (t_onB (g_ite (by first | rfl | simp) (fun _ => s_ret (x_lift (p_bin (p_var rfl (p_var rfl (v_r ro_idxR fun x3 => x_onlyD (r_seq (f_ret (a := x3) (F := (fun a : Int => (dE eI) a)) (G := (fun a : Int => [])) rfl (by rfl) (by rfl))))))))) (fun _ => s_next (n_seq (s_ret (x_lift (p_c (x_onlyD (f_ret (a := (0 : Int)) (F := (fun a : Int => (dE eI) a)) (G := (fun a : Int => [])) rfl (by rfl) (by rfl)))))))))))))))))))))))
@[irreducible] noncomputable def t__law_pool_2 (script1 : (List Int)) (k2 : Int) : R (Int × Bool × Int) :=
  (t__law_cell_at script1 k2).nx.bind fun r3 => (tPow (10 : Int) (12 : Int)).bind fun v4 => (tMul (5 : Int) k2).bind fun v5 => .ok (r3, (decide (r3 < v4)), ((3 : Int) + v5))
theorem fn_t__law_pool_2 {script1 : (List Int)} {k2 : Int} : Fn m__law_pool_2 [(fun xs : List Int => T.rd (xs.map PyData.int)) script1, (dE eI) k2] (t__law_pool_2 script1 k2) (fun a : (Int × Bool × Int) => (fun s : (Int × Bool × Int) => T.od [.inr "rest", .inr "mixed", .inr "count"] [(dE eI) (s.1), (dE eB) (s.2.1), (dE eI) (s.2.2)]) a) (fun a => []) := by
  unfold m__law_pool_2 t__law_pool_2
  exact fn_j (p := [some ((fun xs : List Int => T.rd (xs.map PyData.int)) script1), some ((dE eI) k2), none]) rfl (s_seq (s_asg (x_call (b_cons (x_rd rfl (b_cons (x_d rfl (b_nil (c_end rfl fn_t__law_cell_at rfl (fun _ => rfl) fun r3 => g_name (n_seq (s_ret (x_disp (a_cons (x_d rfl (a_cons (x_lift (p_bin (p_var rfl (p_bin (p_c (p_c (v_r ro_pow fun v4 => v_ok rfl (x_onlyD (a_cons (x_lift (p_bin (p_c (p_bin (p_c (p_var rfl (v_r ro_mul fun v5 => v_ok rfl (x_onlyD (a_nil (l_disp ((fun s : (Int × Bool × Int) => T.od [.inr "rest", .inr "mixed", .inr "count"] [(dE eI) (s.1), (dE eB) (s.2.1), (dE eI) (s.2.2)]) (r3, (decide (r3 < v4)), ((3 : Int) + v5))) (by rfl) rfl (f_ret (a := (r3, (decide (r3 < v4)), ((3 : Int) + v5))) (F := (fun a : (Int × Bool × Int) => (fun s : (Int × Bool × Int) => T.od [.inr "rest", .inr "mixed", .inr "count"] [(dE eI) (s.1), (dE eB) (s.2.1), (dE eI) (s.2.2)]) a)) (G := (fun a : (Int × Bool × Int) => [])) rfl (by rfl) (by rfl))))))))))))))))))))))))))))))))))))
@[irreducible] noncomputable def t__law_take_2 (pool1 : (Int × Bool × Int)) (many2 : Int) : R (Int × (Int × Bool × Int)) :=
  if (!pool1.2.1) = true then (tFdiv pool1.1 many2).bind fun v3 => (R.ok (v3, pool1.2.1, pool1.2.2)).bind fun pool4 => (tMod pool1.1 many2).bind fun v5 => .ok (v5, pool4) else (R.ok (pool1.1, pool1.2.1, (pool1.2.2 + (1 : Int)))).bind fun pool6 => (tMod pool1.1 (1000000000163 : Int)).bind fun v7 => (tMul (70001 : Int) pool6.2.2).bind fun v8 => (tMul (v7 + v8) ((v7 + v8) + (29 : Int))).bind fun v9 => (tMod v9 (1000000000193 : Int)).bind fun v10 => (tMul v10 v10).bind fun v11 => (tMod v11 (999999999959 : Int)).bind fun v12 => (R.ok (v12, pool6.2.1, pool6.2.2)).bind fun pool13 => (tFdiv v12 (9 : Int)).bind fun v14 => (tMod v14 many2).bind fun v15 => .ok (v15, pool13)
theorem fn_t__law_take_2 {pool1 : (Int × Bool × Int)} {many2 : Int} : Fn m__law_take_2 [(fun s : (Int × Bool × Int) => T.od [.inr "rest", .inr "mixed", .inr "count"] [(dE eI) (s.1), (dE eB) (s.2.1), (dE eI) (s.2.2)]) pool1, (dE eI) many2] (t__law_take_2 pool1 many2) (fun a : (Int × (Int × Bool × Int)) => (dE eI) a.1) (fun a => [(fun s : (Int × Bool × Int) => T.od [.inr "rest", .inr "mixed", .inr "count"] [(dE eI) (s.1), (dE eB) (s.2.1), (dE eI) (s.2.2)]) a.2]) := by
  unfold m__law_take_2 t__law_take_2
  exact fn_j (p := [some ((fun s : (Int × Bool × Int) => T.od [.inr "rest", .inr "mixed", .inr "count"] [(dE eI) (s.1), (dE eB) (s.2.1), (dE eI) (s.2.2)]) pool1), some ((dE eI) many2), none]) rfl (s_seq (s_asg (x_lift (p_bin (p_var rfl (p_c (v_key (n := 0) ((dE eI) pool1.1) rfl (by decide) (by rfl) (x_onlyD (g_name (n_seq (s_seq (s_if (t_not (t_truth (p_bin (p_var rfl (p_c (v_key (n := 1) ((dE eB) pool1.2.1) rfl (by decide) (by rfl) (t_tru rfl (g_ite dec_self (fun _ => s_seq (s_keySet rfl (x_lift (p_bin (p_var rfl (p_var rfl (v_r ro_fdiv fun v3 => x_onlyD (ks_endN ((fun s : (Int × Bool × Int) => T.od [.inr "rest", .inr "mixed", .inr "count"] [(dE eI) (s.1), (dE eB) (s.2.1), (dE eI) (s.2.2)])) 0 (v3, pool1.2.1, pool1.2.2) (by rfl) (by decide) (by decide) (by rfl) fun pool4 => n_seq (J.wk (q := [some ((fun s : (Int × Bool × Int) => T.od [.inr "rest", .inr "mixed", .inr "count"] [(dE eI) (s.1), (dE eB) (s.2.1), (dE eI) (s.2.2)]) pool4), some ((dE eI) many2), some ((dE eI) pool1.1)]) (wk_some (wk_some (wk_some wk_nil))) (s_ret (x_lift (p_bin (p_var rfl (p_var rfl (v_r ro_mod fun v5 => x_onlyD (r_seq (f_ret (a := (v5, pool4)) (F := (fun a : (Int × (Int × Bool × Int)) => (dE eI) a.1)) (G := (fun a : (Int × (Int × Bool × Int)) => [(fun s : (Int × Bool × Int) => T.od [.inr "rest", .inr "mixed", .inr "count"] [(dE eI) (s.1), (dE eB) (s.2.1), (dE eI) (s.2.2)]) a.2])) rfl (by rfl) (by rfl)))))))))))))))))) (fun _ => s_next (n_seq (s_seq (s_keySet rfl (x_lift (p_bin (p_bin (p_var rfl (p_c (v_key (n := 2) ((dE eI) pool1.2.2) rfl (by decide) (by rfl) (p_c (v_ok rfl (x_onlyD (ks_endN ((fun s : (Int × Bool × Int) => T.od [.inr "rest", .inr "mixed", .inr "count"] [(dE eI) (s.1), (dE eB) (s.2.1), (dE eI) (s.2.2)])) 2 (pool1.1, pool1.2.1, (pool1.2.2 + (1 : Int))) (by rfl) (by decide) (by decide) (by rfl) fun pool6 => n_seq (J.wk (q := [some ((fun s : (Int × Bool × Int) => T.od [.inr "rest", .inr "mixed", .inr "count"] [(dE eI) (s.1), (dE eB) (s.2.1), (dE eI) (s.2.2)]) pool6), some ((dE eI) many2), some ((dE eI) pool1.1)]) (wk_some (wk_some (wk_some wk_nil))) (s_seq (s_asg (x_lift (p_bin (p_bin (p_var rfl (p_c (v_r ro_mod fun v7 => p_bin (p_c (p_bin (p_var rfl (p_c (v_key (n := 2) ((dE eI) pool6.2.2) rfl (by decide) (by rfl) (v_r ro_mul fun v8 => v_ok rfl (x_onlyD (g_name (n_seq (s_seq (s_asg (x_lift (p_bin (p_bin (p_var rfl (p_bin (p_var rfl (p_c (v_ok rfl (v_r ro_mul fun v9 => p_c (v_r ro_mod fun v10 => x_onlyD (g_name (n_seq (s_seq (s_asg (x_lift (p_bin (p_bin (p_var rfl (p_var rfl (v_r ro_mul fun v11 => p_c (v_r ro_mod fun v12 => x_onlyD (g_name (n_seq (s_seq (s_keySet rfl (x_d rfl (ks_endN ((fun s : (Int × Bool × Int) => T.od [.inr "rest", .inr "mixed", .inr "count"] [(dE eI) (s.1), (dE eB) (s.2.1), (dE eI) (s.2.2)])) 0 (v12, pool6.2.1, pool6.2.2) (by rfl) (by decide) (by decide) (by rfl) fun pool13 => n_seq (J.wk (q := [some ((fun s : (Int × Bool × Int) => T.od [.inr "rest", .inr "mixed", .inr "count"] [(dE eI) (s.1), (dE eB) (s.2.1), (dE eI) (s.2.2)]) pool13), some ((dE eI) many2), some ((dE eI) v12)]) (wk_some (wk_some (wk_some wk_nil))) (s_ret (x_lift (p_bin (p_bin (p_var rfl (p_c (v_r ro_fdiv fun v14 => p_var rfl (v_r ro_mod fun v15 => x_onlyD (f_ret (a := (v15, pool13)) (F := (fun a : (Int × (Int × Bool × Int)) => (dE eI) a.1)) (G := (fun a : (Int × (Int × Bool × Int)) => [(fun s : (Int × Bool × Int) => T.od [.inr "rest", .inr "mixed", .inr "count"] [(dE eI) (s.1), (dE eB) (s.2.1), (dE eI) (s.2.2)]) a.2])) rfl (by rfl) (by rfl))))))))))))))))))))))))))))))))))))))))))))))))))))))))))))))))))))))))))))))))))))))))))))
@[irreducible] noncomputable def t__law_fraction_4 (pool1 : (Int × Bool × Int)) : R (Rat × (Int × Bool × Int)) :=
  (t__law_take_2 pool1 (6 : Int)).nx.bind fun r2 => if r2.1 < (3 : Int) then (t__law_take_2 r2.2 (5 : Int)).nx.bind fun r3 => .ok ((((r3.1 - (2 : Int)) : Int) : Rat), r3.2) else if r2.1 < (5 : Int) then (t__law_take_2 r2.2 (25 : Int)).nx.bind fun r4 => (t__law_take_2 r4.2 (6 : Int)).nx.bind fun r5 => (rMk (r4.1 - (12 : Int)) ((1 : Int) + r5.1)).nx.bind fun r6 => .ok (r6, r5.2) else (t__law_take_2 r2.2 (2001 : Int)).nx.bind fun r7 => (t__law_take_2 r7.2 (60 : Int)).nx.bind fun r8 => (rMk (r7.1 - (1000 : Int)) ((1 : Int) + r8.1)).nx.bind fun r9 => .ok (r9, r8.2)
theorem fn_t__law_fraction_4 {pool1 : (Int × Bool × Int)} : Fn m__law_fraction_4 [(fun s : (Int × Bool × Int) => T.od [.inr "rest", .inr "mixed", .inr "count"] [(dE eI) (s.1), (dE eB) (s.2.1), (dE eI) (s.2.2)]) pool1] (t__law_fraction_4 pool1) (fun a : (Rat × (Int × Bool × Int)) => (dE fr) a.1) (fun a => [(fun s : (Int × Bool × Int) => T.od [.inr "rest", .inr "mixed", .inr "count"] [(dE eI) (s.1), (dE eB) (s.2.1), (dE eI) (s.2.2)]) a.2]) := by
  unfold m__law_fraction_4 t__law_fraction_4
  exact fn_j (p := [some ((fun s : (Int × Bool × Int) => T.od [.inr "rest", .inr "mixed", .inr "count"] [(dE eI) (s.1), (dE eB) (s.2.1), (dE eI) (s.2.2)]) pool1), none]) rfl (s_seq (s_asg (x_call (b_io rfl (b_cons (x_lift (p_c (x_onlyD (b_nil (c_end rfl fn_t__law_take_2 rfl (fun _ => rfl) fun r2 => g_name (n_seq (s_seq (s_if (t_test (x_lift (p_bin (p_var rfl (p_c (v_ok rfl (x_onlyD (t_onB (g_ite (by first | rfl | simp) (fun _ => s_ret (x_tupO (a_cons (x_bin (x_call (b_io rfl (b_cons (x_lift (p_c (x_onlyD (b_nil (c_end rfl fn_t__law_take_2 rfl (fun _ => rfl) fun r3 => x_lift (p_c (x_onlyD (o_ok rfl (a_cons (x_lift (p_c (x_onlyD (a_nil (l_tup (.d (fr (((r3.1 - (2 : Int)) : Int) : Rat))) (by rfl) (r_seq (f_ret (a := ((((r3.1 - (2 : Int)) : Int) : Rat), r3.2)) (F := (fun a : (Rat × (Int × Bool × Int)) => (dE fr) a.1)) (G := (fun a : (Rat × (Int × Bool × Int)) => [(fun s : (Int × Bool × Int) => T.od [.inr "rest", .inr "mixed", .inr "count"] [(dE eI) (s.1), (dE eB) (s.2.1), (dE eI) (s.2.2)]) a.2])) rfl (by rfl) (by rfl)))))))))))))))))))))))) (fun _ => s_next (n_seq (s_seq (s_if (t_test (x_lift (p_bin (p_var rfl (p_c (v_ok rfl (x_onlyD (t_onB (g_ite (by first | rfl | simp) (fun _ => s_ret (x_call (b_cons (x_bin (x_call (b_io rfl (b_cons (x_lift (p_c (x_onlyD (b_nil (c_end rfl fn_t__law_take_2 rfl (fun _ => rfl) fun r4 => x_lift (p_c (x_onlyD (o_ok rfl (b_cons (x_bin (x_lift (p_c (x_onlyD (x_call (b_io rfl (b_cons (x_lift (p_c (x_onlyD (b_nil (c_end rfl fn_t__law_take_2 rfl (fun _ => rfl) fun r5 => o_ok rfl (b_nil (c_end rfl fn_lf rfl (fun _ => rfl) fun r6 => r_seq (f_ret (a := (r6, r5.2)) (F := (fun a : (Rat × (Int × Bool × Int)) => (dE fr) a.1)) (G := (fun a : (Rat × (Int × Bool × Int)) => [(fun s : (Int × Bool × Int) => T.od [.inr "rest", .inr "mixed", .inr "count"] [(dE eI) (s.1), (dE eB) (s.2.1), (dE eI) (s.2.2)]) a.2])) rfl (by rfl) (by rfl)))))))))))))))))))))))))))))))) (fun _ => s_next (n_seq (s_ret (x_call (b_cons (x_bin (x_call (b_io rfl (b_cons (x_lift (p_c (x_onlyD (b_nil (c_end rfl fn_t__law_take_2 rfl (fun _ => rfl) fun r7 => x_lift (p_c (x_onlyD (o_ok rfl (b_cons (x_bin (x_lift (p_c (x_onlyD (x_call (b_io rfl (b_cons (x_lift (p_c (x_onlyD (b_nil (c_end rfl fn_t__law_take_2 rfl (fun _ => rfl) fun r8 => o_ok rfl (b_nil (c_end rfl fn_lf rfl (fun _ => rfl) fun r9 => f_ret (a := (r9, r8.2)) (F := (fun a : (Rat × (Int × Bool × Int)) => (dE fr) a.1)) (G := (fun a : (Rat × (Int × Bool × Int)) => [(fun s : (Int × Bool × Int) => T.od [.inr "rest", .inr "mixed", .inr "count"] [(dE eI) (s.1), (dE eB) (s.2.1), (dE eI) (s.2.2)]) a.2])) rfl (by rfl) (by rfl))))))))))))))))))))))))))))))))))))))))))))))))))))))))))))))))))))
@[irreducible] noncomputable def t__law_bounds_2 (pool1 : (Int × Bool × Int)) : R ((Rat × Rat) × (Int × Bool × Int)) :=
  (t__law_fraction_4 pool1).nx.bind fun r2 => (t__law_fraction_4 r2.2).nx.bind fun r3 => (show R Rat from if (Rat.num r3.1) < (0 : Int) then .ok ((-r3.1)) else .ok (r3.1)).bind fun z4 => (rAdd r2.1 z4).nx.bind fun r5 => .ok ((r2.1, r5), r3.2)
theorem fn_t__law_bounds_2 {pool1 : (Int × Bool × Int)} : Fn m__law_bounds_2 [(fun s : (Int × Bool × Int) => T.od [.inr "rest", .inr "mixed", .inr "count"] [(dE eI) (s.1), (dE eB) (s.2.1), (dE eI) (s.2.2)]) pool1] (t__law_bounds_2 pool1) (fun a : ((Rat × Rat) × (Int × Bool × Int)) => (dE (eT2 fr fr)) a.1) (fun a => [(fun s : (Int × Bool × Int) => T.od [.inr "rest", .inr "mixed", .inr "count"] [(dE eI) (s.1), (dE eB) (s.2.1), (dE eI) (s.2.2)]) a.2]) := by
  unfold m__law_bounds_2 t__law_bounds_2
  exact fn_j (p := [some ((fun s : (Int × Bool × Int) => T.od [.inr "rest", .inr "mixed", .inr "count"] [(dE eI) (s.1), (dE eB) (s.2.1), (dE eI) (s.2.2)]) pool1), none, none]) rfl (s_seq (s_asg (x_call (b_io rfl (b_nil (c_end rfl fn_t__law_fraction_4 rfl (fun _ => rfl) fun r2 => g_name (n_seq (s_seq (s_asg (x_call (b_io rfl (b_nil (c_end rfl fn_t__law_fraction_4 rfl (fun _ => rfl) fun r3 => g_name (n_seq (J.wk (q := [some ((fun s : (Int × Bool × Int) => T.od [.inr "rest", .inr "mixed", .inr "count"] [(dE eI) (s.1), (dE eB) (s.2.1), (dE eI) (s.2.2)]) r3.2), some ((dE fr) r2.1), some ((dE fr) r3.1)]) (wk_some (wk_some (wk_some wk_nil))) (s_seq (s_cut (q := fun z4 : Rat => [some ((fun s : (Int × Bool × Int) => T.od [.inr "rest", .inr "mixed", .inr "count"] [(dE eI) (s.1), (dE eB) (s.2.1), (dE eI) (s.2.2)]) r3.2), some ((dE fr) r2.1), some ((dE fr) z4)]) (s_if (t_test (x_lift (p_bin (p_bin (p_var rfl (p_c (v_ok (u := ((dE eI) (Rat.num r3.1))) rfl (p_c (v_ok rfl (x_onlyD (t_onB (g_ite (by first | rfl | simp) (fun _ => s_asg (x_tupO (a_cons (x_lift (p_bin (p_c (p_bin (p_var rfl (p_c (v_ok (u := ((dE eI) (Rat.num r3.1))) rfl (v_ok rfl (x_onlyD (a_cons (x_lift (p_bin (p_var rfl (p_c (v_ok (u := ((dE eI) ((Rat.den r3.1 : Nat) : Int))) rfl (x_onlyD (a_nil (l_tup (.d (fr (-r3.1))) tup_neg (g_name (e_n (wk_some (wk_some (wk_some wk_nil)))))))))))))))))))))))))) (fun _ => s_next (e_n (wk_some (wk_some (wk_some wk_nil)))))))))))))))))) fun z4 => n_seq (s_ret (x_tupO (a_cons (x_d rfl (a_cons (x_call (b_cons (x_d rfl (b_cons (x_d rfl (b_nil (c_end rfl fn_lplus3 rfl (fun _ => rfl) fun r5 => a_nil (l_tup ((dE (eT2 fr fr)) (r2.1, r5)) (by rfl) (f_ret (a := ((r2.1, r5), r3.2)) (F := (fun a : ((Rat × Rat) × (Int × Bool × Int)) => (dE (eT2 fr fr)) a.1)) (G := (fun a : ((Rat × Rat) × (Int × Bool × Int)) => [(fun s : (Int × Bool × Int) => T.od [.inr "rest", .inr "mixed", .inr "count"] [(dE eI) (s.1), (dE eB) (s.2.1), (dE eI) (s.2.2)]) a.2])) rfl (by rfl) (by rfl))))))))))))))))))))))))))))))))
@[irreducible] noncomputable def t__law_many_times (pool1 : (Int × Bool × Int)) : R (Rat × (Int × Bool × Int)) :=
  (t__law_take_2 pool1 (8 : Int)).nx.bind fun r2 => if r2.1 < (3 : Int) then .ok ((0 : Rat), r2.2) else if r2.1 < (7 : Int) then (tIdx ([(1 : Int), (-(1 : Int)), (2 : Int), (-(2 : Int))]) (r2.1 - (3 : Int))).bind fun x3 => .ok (((x3 : Int) : Rat), r2.2) else (t__law_take_2 r2.2 (19 : Int)).nx.bind fun r4 => (t__law_take_2 r4.2 (4 : Int)).nx.bind fun r5 => (rMk (r4.1 - (9 : Int)) ((1 : Int) + r5.1)).nx.bind fun r6 => .ok (r6, r5.2)
theorem fn_t__law_many_times {pool1 : (Int × Bool × Int)} : Fn m__law_many_times [(fun s : (Int × Bool × Int) => T.od [.inr "rest", .inr "mixed", .inr "count"] [(dE eI) (s.1), (dE eB) (s.2.1), (dE eI) (s.2.2)]) pool1] (t__law_many_times pool1) (fun a : (Rat × (Int × Bool × Int)) => (dE fr) a.1) (fun a => [(fun s : (Int × Bool × Int) => T.od [.inr "rest", .inr "mixed", .inr "count"] [(dE eI) (s.1), (dE eB) (s.2.1), (dE eI) (s.2.2)]) a.2]) := by
  unfold m__law_many_times t__law_many_times
  exact fn_j (p := [some ((fun s : (Int × Bool × Int) => T.od [.inr "rest", .inr "mixed", .inr "count"] [(dE eI) (s.1), (dE eB) (s.2.1), (dE eI) (s.2.2)]) pool1), none]) rfl (s_seq (s_asg (x_call (b_io rfl (b_cons (x_lift (p_c (x_onlyD (b_nil (c_end rfl fn_t__law_take_2 rfl (fun _ => rfl) fun r2 => g_name (n_seq (s_seq (s_if (t_test (x_lift (p_bin (p_var rfl (p_c (v_ok rfl (x_onlyD (t_onB (g_ite (by first | rfl | simp) (fun _ => s_ret (x_tupO (a_cons (x_lift (p_c (x_onlyD (a_cons (x_lift (p_c (x_onlyD (a_nil (l_tup (.d (fr (0 : Rat))) (by rfl) (r_seq (f_ret (a := ((0 : Rat), r2.2)) (F := (fun a : (Rat × (Int × Bool × Int)) => (dE fr) a.1)) (G := (fun a : (Rat × (Int × Bool × Int)) => [(fun s : (Int × Bool × Int) => T.od [.inr "rest", .inr "mixed", .inr "count"] [(dE eI) (s.1), (dE eB) (s.2.1), (dE eI) (s.2.2)]) a.2])) rfl (by rfl) (by rfl))))))))))))))) (fun _ => s_next (n_seq (s_seq (s_if (t_test (x_lift (p_bin (p_var rfl (p_c (v_ok rfl (x_onlyD (t_onB (g_ite (by first | rfl | simp) (fun _ => s_ret (x_tupO (a_cons (x_bin (x_lstO (a_cons (x_lift (p_c (x_onlyD (a_cons (x_lift (p_un (p_c (v_ok rfl (x_onlyD (a_cons (x_lift (p_c (x_onlyD (a_cons (x_lift (p_un (p_c (v_ok rfl (x_onlyD (a_nil (l_lst (f := (dE eI)) ([(1 : Int), (-(1 : Int)), (2 : Int), (-(2 : Int))]) (by rfl) (x_lift (p_bin (p_var rfl (p_c (v_ok rfl (x_onlyD (o_r ro_idxO fun x3 => a_cons (x_lift (p_c (x_onlyD (a_nil (l_tup (.d (fr ((x3 : Int) : Rat))) (by rfl) (r_seq (f_ret (a := (((x3 : Int) : Rat), r2.2)) (F := (fun a : (Rat × (Int × Bool × Int)) => (dE fr) a.1)) (G := (fun a : (Rat × (Int × Bool × Int)) => [(fun s : (Int × Bool × Int) => T.od [.inr "rest", .inr "mixed", .inr "count"] [(dE eI) (s.1), (dE eB) (s.2.1), (dE eI) (s.2.2)]) a.2])) rfl (by rfl) (by rfl)))))))))))))))))))))))))))))))))))))))))) (fun _ => s_next (n_seq (s_ret (x_call (b_cons (x_bin (x_call (b_io rfl (b_cons (x_lift (p_c (x_onlyD (b_nil (c_end rfl fn_t__law_take_2 rfl (fun _ => rfl) fun r4 => x_lift (p_c (x_onlyD (o_ok rfl (b_cons (x_bin (x_lift (p_c (x_onlyD (x_call (b_io rfl (b_cons (x_lift (p_c (x_onlyD (b_nil (c_end rfl fn_t__law_take_2 rfl (fun _ => rfl) fun r5 => o_ok rfl (b_nil (c_end rfl fn_lf rfl (fun _ => rfl) fun r6 => f_ret (a := (r6, r5.2)) (F := (fun a : (Rat × (Int × Bool × Int)) => (dE fr) a.1)) (G := (fun a : (Rat × (Int × Bool × Int)) => [(fun s : (Int × Bool × Int) => T.od [.inr "rest", .inr "mixed", .inr "count"] [(dE eI) (s.1), (dE eB) (s.2.1), (dE eI) (s.2.2)]) a.2])) rfl (by rfl) (by rfl))))))))))))))))))))))))))))))))))))))))))))))))))))))))))))))))))))
@[irreducible] noncomputable def t__law_demand (pool1 : (Int × Bool × Int)) (sizes2 : Int) (shims3 : Int) : R (((List Rat) × (List Rat) × Rat) × (Int × Bool × Int)) :=
  (tRange 0 sizes2).bind fun ks4 => (tLcG (fun (s6 : (Int × Bool × Int)) x5 => ((t__law_many_times s6).nx.bind fun r7 => .ok (some r7.1, (r7.2)) : R (Option Rat × (Int × Bool × Int)))) ks4 (pool1)).bind fun r8 => (tRange 0 shims3).bind fun ks9 => (tLcG (fun (s11 : (Int × Bool × Int)) x10 => ((t__law_many_times s11).nx.bind fun r12 => .ok (some r12.1, (r12.2)) : R (Option Rat × (Int × Bool × Int)))) ks9 (r8.2)).bind fun r13 => (t__law_fraction_4 r13.2).nx.bind fun r14 => (show R ((Int × Bool × Int) × Rat) from (t__law_take_2 r14.2 (2 : Int)).nx.bind fun r16 => if r16.1 = (0 : Int) then (t__law_take_2 r16.2 (9 : Int)).nx.bind fun r17 => (rAdd r14.1 ((r17.1 : Int) : Rat)).nx.bind fun r18 => .ok (r17.2, r18) else .ok (r16.2, r14.1)).bind fun z15 => .ok ((r8.1, r13.1, z15.2), z15.1)
theorem fn_t__law_demand {pool1 : (Int × Bool × Int)} {sizes2 : Int} {shims3 : Int} : Fn m__law_demand [(fun s : (Int × Bool × Int) => T.od [.inr "rest", .inr "mixed", .inr "count"] [(dE eI) (s.1), (dE eB) (s.2.1), (dE eI) (s.2.2)]) pool1, (dE eI) sizes2, (dE eI) shims3] (t__law_demand pool1 sizes2 shims3) (fun a : (((List Rat) × (List Rat) × Rat) × (Int × Bool × Int)) => (dE (eT3 (eL fr) (eL fr) fr)) a.1) (fun a => [(fun s : (Int × Bool × Int) => T.od [.inr "rest", .inr "mixed", .inr "count"] [(dE eI) (s.1), (dE eB) (s.2.1), (dE eI) (s.2.2)]) a.2]) := by
  unfold m__law_demand t__law_demand
  exact fn_j (p := [some ((fun s : (Int × Bool × Int) => T.od [.inr "rest", .inr "mixed", .inr "count"] [(dE eI) (s.1), (dE eB) (s.2.1), (dE eI) (s.2.2)]) pool1), some ((dE eI) sizes2), some ((dE eI) shims3), none, none, none, none]) rfl (s_seq (s_thenFz (s_asg (x_lc (i_range1 (a_cons (x_d rfl (a_nil (i_r1 fun ks4 => l_lc (F := (dE eI)) (G := (dE fr)) (q := fun s6 : (Int × Bool × Int) => [some ((fun s : (Int × Bool × Int) => T.od [.inr "rest", .inr "mixed", .inr "count"] [(dE eI) (s.1), (dE eB) (s.2.1), (dE eI) (s.2.2)]) s6), some ((dE eI) sizes2), some ((dE eI) shims3), none, none, none, none]) (wk_some (wk_some (wk_some (wk_none (wk_none (wk_none (wk_none wk_nil))))))) (fun _ => rfl) (fun s6 x5 => g_name (x_call (b_io rfl (b_nil (c_end rfl fn_t__law_many_times rfl (fun _ => rfl) fun r7 => e_l (by rfl) (wk_some (wk_some (wk_some (wk_none (wk_none (wk_none (wk_none wk_nil)))))))))))) fun r8 => g_name (n_fz rfl (fz_ol fun _ => fz_d) (n_seq (s_seq (s_thenFz (s_asg (x_lc (i_range1 (a_cons (x_d rfl (a_nil (i_r1 fun ks9 => l_lc (F := (dE eI)) (G := (dE fr)) (q := fun s11 : (Int × Bool × Int) => [some ((fun s : (Int × Bool × Int) => T.od [.inr "rest", .inr "mixed", .inr "count"] [(dE eI) (s.1), (dE eB) (s.2.1), (dE eI) (s.2.2)]) s11), some ((dE eI) sizes2), some ((dE eI) shims3), some ((dE (eL fr)) r8.1), none, none, none]) (wk_some (wk_some (wk_some (wk_some (wk_none (wk_none (wk_none wk_nil))))))) (fun _ => rfl) (fun s11 x10 => g_name (x_call (b_io rfl (b_nil (c_end rfl fn_t__law_many_times rfl (fun _ => rfl) fun r12 => e_l (by rfl) (wk_some (wk_some (wk_some (wk_some (wk_none (wk_none (wk_none wk_nil)))))))))))) fun r13 => g_name (n_fz rfl (fz_ol fun _ => fz_d) (n_seq (s_seq (s_asg (x_call (b_io rfl (b_nil (c_end rfl fn_t__law_fraction_4 rfl (fun _ => rfl) fun r14 => g_name (n_seq (J.wk (q := [some ((fun s : (Int × Bool × Int) => T.od [.inr "rest", .inr "mixed", .inr "count"] [(dE eI) (s.1), (dE eB) (s.2.1), (dE eI) (s.2.2)]) r14.2), some ((dE eI) sizes2), some ((dE eI) shims3), some ((dE (eL fr)) r8.1), some ((dE (eL fr)) r13.1), some ((dE fr) r14.1), none]) (wk_some (wk_some (wk_some (wk_some (wk_some (wk_some (wk_none wk_nil))))))) (s_seq (s_cut (q := fun z15 : ((Int × Bool × Int) × Rat) => [some ((fun s : (Int × Bool × Int) => T.od [.inr "rest", .inr "mixed", .inr "count"] [(dE eI) (s.1), (dE eB) (s.2.1), (dE eI) (s.2.2)]) z15.1), some ((dE eI) sizes2), some ((dE eI) shims3), some ((dE (eL fr)) r8.1), some ((dE (eL fr)) r13.1), some ((dE fr) z15.2), none]) (s_if (t_test (x_bin (x_call (b_io rfl (b_cons (x_lift (p_c (x_onlyD (b_nil (c_end rfl fn_t__law_take_2 rfl (fun _ => rfl) fun r16 => x_lift (p_c (x_onlyD (o_ok rfl (t_onB (g_ite (by first | rfl | simp) (fun _ => s_asg (x_call (b_cons (x_d rfl (b_cons (x_tupO (a_cons (x_call (b_io rfl (b_cons (x_lift (p_c (x_onlyD (b_nil (c_end rfl fn_t__law_take_2 rfl (fun _ => rfl) fun r17 => a_cons (x_lift (p_c (x_onlyD (a_nil (l_tup (.d (fr ((r17.1 : Int) : Rat))) (by rfl) (b_nil (c_end rfl fn_lplus3 rfl (fun _ => rfl) fun r18 => g_name (e_n (wk_some (wk_some (wk_some (wk_some (wk_some (wk_some (wk_none wk_nil)))))))))))))))))))))))))))))) (fun _ => s_next (e_n (wk_some (wk_some (wk_some (wk_some (wk_some (wk_some (wk_none wk_nil))))))))))))))))))))))))) fun z15 => n_seq (s_ret (x_tupO (a_cons (x_d rfl (a_cons (x_d rfl (a_cons (x_d rfl (a_nil (l_tup ((dE (eT3 (eL fr) (eL fr) fr)) (r8.1, r13.1, z15.2)) (by rfl) (f_ret (a := ((r8.1, r13.1, z15.2), z15.1)) (F := (fun a : (((List Rat) × (List Rat) × Rat) × (Int × Bool × Int)) => (dE (eT3 (eL fr) (eL fr) fr)) a.1)) (G := (fun a : (((List Rat) × (List Rat) × Rat) × (Int × Bool × Int)) => [(fun s : (Int × Bool × Int) => T.od [.inr "rest", .inr "mixed", .inr "count"] [(dE eI) (s.1), (dE eB) (s.2.1), (dE eI) (s.2.2)]) a.2])) rfl (by rfl) (by rfl))))))))))))))))))))))))))))))))))))))))))))
@[irreducible] noncomputable def t__law_plan_3 (script1 : (List Int)) (first2 : Int) (many3 : Int) (most4 : Int) : R ((List (Rat × Rat)) × (List (Rat × Rat)) × (List ((List Rat) × (List Rat) × Rat))) :=
  (t__law_pool_2 script1 first2).nx.bind fun r5 => (t__law_take_2 r5 many3).nx.bind fun r6 => (t__law_take_2 r6.2 (most4 + (1 : Int))).nx.bind fun r7 => (t__law_take_2 r7.2 (3 : Int)).nx.bind fun r8 => (tIdx ([r7.1, (1 : Int), (2 : Int)]) r8.1).bind fun x9 => (t__law_take_2 r8.2 (4 : Int)).nx.bind fun r10 => (t__law_take_2 r10.2 (5 : Int)).nx.bind fun r11 => (t__law_take_2 r11.2 (2 : Int)).nx.bind fun r12 => (tIdx ([r10.1, ((1 : Int) + r11.1)]) r12.1).bind fun x13 => (tRange 0 ((1 : Int) + r6.1)).bind fun ks14 => (tFold (fun (s15 : ((List (Rat × Rat)) × (List (Rat × Rat)) × (List ((List Rat) × (List Rat) × Rat)))) x16 => ((t__law_pool_2 script1 ((first2 + (1 : Int)) + x16)).nx.bind fun r17 => (t__law_bounds_2 r17).nx.bind fun r18 => (tApp s15.1 r18.1).bind fun zs19 => .ok ((zs19, s15.2.1, s15.2.2)) : R ((List (Rat × Rat)) × (List (Rat × Rat)) × (List ((List Rat) × (List Rat) × Rat))))) ks14 ((([] : (List (Rat × Rat))), ([] : (List (Rat × Rat))), ([] : (List ((List Rat) × (List Rat) × Rat)))))).bind fun s21 => (tRange 0 x9).bind fun ks22 => (tFold (fun (s23 : ((List (Rat × Rat)) × (List (Rat × Rat)) × (List ((List Rat) × (List Rat) × Rat)))) x24 => ((t__law_pool_2 script1 ((first2 + (5 : Int)) + x24)).nx.bind fun r25 => (t__law_bounds_2 r25).nx.bind fun r26 => (tApp s23.2.1 r26.1).bind fun zs27 => .ok ((s23.1, zs27, s23.2.2)) : R ((List (Rat × Rat)) × (List (Rat × Rat)) × (List ((List Rat) × (List Rat) × Rat))))) ks22 (s21)).bind fun s29 => (tRange 0 x13).bind fun ks30 => (tFold (fun (s31 : ((List (Rat × Rat)) × (List (Rat × Rat)) × (List ((List Rat) × (List Rat) × Rat)))) x32 => ((t__law_pool_2 script1 ((first2 + (9 : Int)) + x32)).nx.bind fun r33 => (t__law_demand r33 ((1 : Int) + r6.1) x9).nx.bind fun r34 => (tApp s31.2.2 r34.1).bind fun zs35 => .ok ((s31.1, s31.2.1, zs35)) : R ((List (Rat × Rat)) × (List (Rat × Rat)) × (List ((List Rat) × (List Rat) × Rat))))) ks30 (s29)).bind fun s37 => .ok (s37.1, s37.2.1, s37.2.2)
theorem fn_t__law_plan_3 {script1 : (List Int)} {first2 : Int} {many3 : Int} {most4 : Int} : Fn m__law_plan_3 [(fun xs : List Int => T.rd (xs.map PyData.int)) script1, (dE eI) first2, (dE eI) many3, (dE eI) most4] (t__law_plan_3 script1 first2 many3 most4) (fun a : ((List (Rat × Rat)) × (List (Rat × Rat)) × (List ((List Rat) × (List Rat) × Rat))) => (dE (eT3 (eL (eT2 fr fr)) (eL (eT2 fr fr)) (eL (eT3 (eL fr) (eL fr) fr)))) a) (fun a => []) := by
  unfold m__law_plan_3 t__law_plan_3
  exact fn_j (p := [some ((fun xs : List Int => T.rd (xs.map PyData.int)) script1), some ((dE eI) first2), some ((dE eI) many3), some ((dE eI) most4), none, none, none, none, none, none]) rfl (J.wk (q := [some ((fun xs : List Int => T.rd (xs.map PyData.int)) script1), some ((dE eI) first2), some ((dE eI) many3), some ((dE eI) most4), none, none, none, none, none, none]) (wk_some (wk_some (wk_some (wk_some (wk_none (wk_none (wk_none (wk_none (wk_none (wk_none wk_nil)))))))))) (s_seq (s_asg (x_call (b_cons (x_rd rfl (b_cons (x_d rfl (b_nil (c_end rfl fn_t__law_pool_2 rfl (fun _ => rfl) fun r5 => g_name (n_seq (s_seq (s_asg (x_bin (x_lift (p_c (x_onlyD (x_call (b_io rfl (b_cons (x_d rfl (b_nil (c_end rfl fn_t__law_take_2 rfl (fun _ => rfl) fun r6 => o_ok rfl (g_name (n_seq (s_seq (s_asg (x_bin (x_lstO (a_cons (x_call (b_io rfl (b_cons (x_lift (p_bin (p_var rfl (p_c (v_ok rfl (x_onlyD (b_nil (c_end rfl fn_t__law_take_2 rfl (fun _ => rfl) fun r7 => a_cons (x_lift (p_c (x_onlyD (a_cons (x_lift (p_c (x_onlyD (a_nil (l_lst (f := (dE eI)) ([r7.1, (1 : Int), (2 : Int)]) (by rfl) (x_call (b_io rfl (b_cons (x_lift (p_c (x_onlyD (b_nil (c_end rfl fn_t__law_take_2 rfl (fun _ => rfl) fun r8 => o_r ro_idxO fun x9 => g_name (n_seq (J.wk (q := [some ((fun xs : List Int => T.rd (xs.map PyData.int)) script1), some ((dE eI) first2), some ((dE eI) many3), some ((dE eI) most4), some ((fun s : (Int × Bool × Int) => T.od [.inr "rest", .inr "mixed", .inr "count"] [(dE eI) (s.1), (dE eB) (s.2.1), (dE eI) (s.2.2)]) r8.2), some ((dE eI) ((1 : Int) + r6.1)), some ((dE eI) x9), none, none, none]) (wk_some (wk_some (wk_some (wk_some (wk_some (wk_some (wk_some (wk_none (wk_none (wk_none wk_nil)))))))))) (s_seq (s_asg (x_bin (x_lstO (a_cons (x_call (b_io rfl (b_cons (x_lift (p_c (x_onlyD (b_nil (c_end rfl fn_t__law_take_2 rfl (fun _ => rfl) fun r10 => a_cons (x_bin (x_lift (p_c (x_onlyD (x_call (b_io rfl (b_cons (x_lift (p_c (x_onlyD (b_nil (c_end rfl fn_t__law_take_2 rfl (fun _ => rfl) fun r11 => o_ok rfl (a_nil (l_lst (f := (dE eI)) ([r10.1, ((1 : Int) + r11.1)]) (by rfl) (x_call (b_io rfl (b_cons (x_lift (p_c (x_onlyD (b_nil (c_end rfl fn_t__law_take_2 rfl (fun _ => rfl) fun r12 => o_r ro_idxO fun x13 => g_name (n_seq (J.wk (q := [some ((fun xs : List Int => T.rd (xs.map PyData.int)) script1), some ((dE eI) first2), some ((dE eI) many3), some ((dE eI) most4), some ((fun s : (Int × Bool × Int) => T.od [.inr "rest", .inr "mixed", .inr "count"] [(dE eI) (s.1), (dE eB) (s.2.1), (dE eI) (s.2.2)]) r12.2), some ((dE eI) ((1 : Int) + r6.1)), some ((dE eI) x9), some ((dE eI) x13), none, none]) (wk_some (wk_some (wk_some (wk_some (wk_some (wk_some (wk_some (wk_some (wk_none (wk_none wk_nil)))))))))) (s_seq (s_asg (x_lstO (a_cons (x_lstO (a_nil (l_lst (f := (dE (eT2 fr fr))) ([] : (List (Rat × Rat))) (by rfl) (a_cons (x_lstO (a_nil (l_lst (f := (dE (eT2 fr fr))) ([] : (List (Rat × Rat))) (by rfl) (a_cons (x_lstO (a_nil (l_lst (f := (dE (eT3 (eL fr) (eL fr) fr))) ([] : (List ((List Rat) × (List Rat) × Rat))) (by rfl) (a_nil (l_fix ((fun s : ((List (Rat × Rat)) × (List (Rat × Rat)) × (List ((List Rat) × (List Rat) × Rat))) => T.ol [(oL (dE (eT2 fr fr))) (s.1), (oL (dE (eT2 fr fr))) (s.2.1), (oL (dE (eT3 (eL fr) (eL fr) fr))) (s.2.2)]) (([] : (List (Rat × Rat))), ([] : (List (Rat × Rat))), ([] : (List ((List Rat) × (List Rat) × Rat))))) (by rfl) (g_name (n_seq (s_seq (s_for (i_range1 (a_cons (x_d rfl (a_nil (i_r1 fun ks14 => l_for (F := (dE eI)) (q := fun s15 : ((List (Rat × Rat)) × (List (Rat × Rat)) × (List ((List Rat) × (List Rat) × Rat))) => [some ((fun xs : List Int => T.rd (xs.map PyData.int)) script1), some ((dE eI) first2), some ((dE eI) many3), some ((dE eI) most4), some ((fun s : (Int × Bool × Int) => T.od [.inr "rest", .inr "mixed", .inr "count"] [(dE eI) (s.1), (dE eB) (s.2.1), (dE eI) (s.2.2)]) r12.2), some ((dE eI) ((1 : Int) + r6.1)), some ((dE eI) x9), some ((dE eI) x13), some ((fun s : ((List (Rat × Rat)) × (List (Rat × Rat)) × (List ((List Rat) × (List Rat) × Rat))) => T.ol [(oL (dE (eT2 fr fr))) (s.1), (oL (dE (eT2 fr fr))) (s.2.1), (oL (dE (eT3 (eL fr) (eL fr) fr))) (s.2.2)]) s15), none]) (wk_some (wk_some (wk_some (wk_some (wk_some (wk_some (wk_some (wk_some (wk_some (wk_none wk_nil)))))))))) (fun s15 x16 => g_name (s_drop (x_methH (us := [(oL (dE (eT2 fr fr))) s15.1, (oL (dE (eT2 fr fr))) s15.2.1, (oL (dE (eT3 (eL fr) (eL fr) fr))) s15.2.2]) (s15.1.map (dE (eT2 fr fr))) rfl rfl (a_cons (x_call (b_cons (x_call (b_cons (x_rd rfl (b_cons (x_lift (p_bin (p_bin (p_var rfl (p_c (v_ok rfl (p_var rfl (v_ok rfl (x_onlyD (b_nil (c_end rfl fn_t__law_pool_2 rfl (fun _ => rfl) fun r17 => b_nil (c_end rfl (fn_drop fn_t__law_bounds_2) rfl (fun _ => rfl) fun r18 => a_nil (m_appendH (f := (dE (eT2 fr fr))) (xs := s15.1) (x := r18.1) (fun z => (fun s : ((List (Rat × Rat)) × (List (Rat × Rat)) × (List ((List Rat) × (List Rat) × Rat))) => T.ol [(oL (dE (eT2 fr fr))) (s.1), (oL (dE (eT2 fr fr))) (s.2.1), (oL (dE (eT3 (eL fr) (eL fr) fr))) (s.2.2)]) (z, s15.2.1, s15.2.2)) rfl rfl (fun _ => rfl) fun zs19 => e_cN (wk_some (wk_some (wk_some (wk_some (wk_some (wk_some (wk_some (wk_some (wk_some (wk_none wk_nil))))))))))))))))))))))))))))))))) fun s21 => n_seq (s_seq (s_for (i_range1 (a_cons (x_d rfl (a_nil (i_r1 fun ks22 => l_for (F := (dE eI)) (q := fun s23 : ((List (Rat × Rat)) × (List (Rat × Rat)) × (List ((List Rat) × (List Rat) × Rat))) => [some ((fun xs : List Int => T.rd (xs.map PyData.int)) script1), some ((dE eI) first2), some ((dE eI) many3), some ((dE eI) most4), some ((fun s : (Int × Bool × Int) => T.od [.inr "rest", .inr "mixed", .inr "count"] [(dE eI) (s.1), (dE eB) (s.2.1), (dE eI) (s.2.2)]) r12.2), some ((dE eI) ((1 : Int) + r6.1)), some ((dE eI) x9), some ((dE eI) x13), some ((fun s : ((List (Rat × Rat)) × (List (Rat × Rat)) × (List ((List Rat) × (List Rat) × Rat))) => T.ol [(oL (dE (eT2 fr fr))) (s.1), (oL (dE (eT2 fr fr))) (s.2.1), (oL (dE (eT3 (eL fr) (eL fr) fr))) (s.2.2)]) s23), none]) (wk_some (wk_some (wk_some (wk_some (wk_some (wk_some (wk_some (wk_some (wk_some (wk_none wk_nil)))))))))) (fun s23 x24 => g_name (s_drop (x_methH (us := [(oL (dE (eT2 fr fr))) s23.1, (oL (dE (eT2 fr fr))) s23.2.1, (oL (dE (eT3 (eL fr) (eL fr) fr))) s23.2.2]) (s23.2.1.map (dE (eT2 fr fr))) rfl rfl (a_cons (x_call (b_cons (x_call (b_cons (x_rd rfl (b_cons (x_lift (p_bin (p_bin (p_var rfl (p_c (v_ok rfl (p_var rfl (v_ok rfl (x_onlyD (b_nil (c_end rfl fn_t__law_pool_2 rfl (fun _ => rfl) fun r25 => b_nil (c_end rfl (fn_drop fn_t__law_bounds_2) rfl (fun _ => rfl) fun r26 => a_nil (m_appendH (f := (dE (eT2 fr fr))) (xs := s23.2.1) (x := r26.1) (fun z => (fun s : ((List (Rat × Rat)) × (List (Rat × Rat)) × (List ((List Rat) × (List Rat) × Rat))) => T.ol [(oL (dE (eT2 fr fr))) (s.1), (oL (dE (eT2 fr fr))) (s.2.1), (oL (dE (eT3 (eL fr) (eL fr) fr))) (s.2.2)]) (s23.1, z, s23.2.2)) rfl rfl (fun _ => rfl) fun zs27 => e_cN (wk_some (wk_some (wk_some (wk_some (wk_some (wk_some (wk_some (wk_some (wk_some (wk_none wk_nil))))))))))))))))))))))))))))))))) fun s29 => n_seq (s_seq (s_for (i_range1 (a_cons (x_d rfl (a_nil (i_r1 fun ks30 => l_for (F := (dE eI)) (q := fun s31 : ((List (Rat × Rat)) × (List (Rat × Rat)) × (List ((List Rat) × (List Rat) × Rat))) => [some ((fun xs : List Int => T.rd (xs.map PyData.int)) script1), some ((dE eI) first2), some ((dE eI) many3), some ((dE eI) most4), some ((fun s : (Int × Bool × Int) => T.od [.inr "rest", .inr "mixed", .inr "count"] [(dE eI) (s.1), (dE eB) (s.2.1), (dE eI) (s.2.2)]) r12.2), some ((dE eI) ((1 : Int) + r6.1)), some ((dE eI) x9), some ((dE eI) x13), some ((fun s : ((List (Rat × Rat)) × (List (Rat × Rat)) × (List ((List Rat) × (List Rat) × Rat))) => T.ol [(oL (dE (eT2 fr fr))) (s.1), (oL (dE (eT2 fr fr))) (s.2.1), (oL (dE (eT3 (eL fr) (eL fr) fr))) (s.2.2)]) s31), none]) (wk_some (wk_some (wk_some (wk_some (wk_some (wk_some (wk_some (wk_some (wk_some (wk_none wk_nil)))))))))) (fun s31 x32 => g_name (s_drop (x_methH (us := [(oL (dE (eT2 fr fr))) s31.1, (oL (dE (eT2 fr fr))) s31.2.1, (oL (dE (eT3 (eL fr) (eL fr) fr))) s31.2.2]) (s31.2.2.map (dE (eT3 (eL fr) (eL fr) fr))) rfl rfl (a_cons (x_call (b_cons (x_call (b_cons (x_rd rfl (b_cons (x_lift (p_bin (p_bin (p_var rfl (p_c (v_ok rfl (p_var rfl (v_ok rfl (x_onlyD (b_nil (c_end rfl fn_t__law_pool_2 rfl (fun _ => rfl) fun r33 => b_cons (x_d rfl (b_cons (x_d rfl (b_nil (c_end rfl (fn_drop fn_t__law_demand) rfl (fun _ => rfl) fun r34 => a_nil (m_appendH (f := (dE (eT3 (eL fr) (eL fr) fr))) (xs := s31.2.2) (x := r34.1) (fun z => (fun s : ((List (Rat × Rat)) × (List (Rat × Rat)) × (List ((List Rat) × (List Rat) × Rat))) => T.ol [(oL (dE (eT2 fr fr))) (s.1), (oL (dE (eT2 fr fr))) (s.2.1), (oL (dE (eT3 (eL fr) (eL fr) fr))) (s.2.2)]) (s31.1, s31.2.1, z)) rfl rfl (fun _ => rfl) fun zs35 => e_cN (wk_some (wk_some (wk_some (wk_some (wk_some (wk_some (wk_some (wk_some (wk_some (wk_none wk_nil))))))))))))))))))))))))))))))))))))) fun s37 => n_seq (s_ret (x_tupO (a_cons (x_preFz (u := (fun s : ((List (Rat × Rat)) × (List (Rat × Rat)) × (List ((List Rat) × (List Rat) × Rat))) => T.ol [(oL (dE (eT2 fr fr))) (s.1), (oL (dE (eT2 fr fr))) (s.2.1), (oL (dE (eT3 (eL fr) (eL fr) fr))) (s.2.2)]) s37) (v := (.list [(eL (eT2 fr fr)) s37.1, (eL (eT2 fr fr)) s37.2.1, (eL (eT3 (eL fr) (eL fr) fr)) s37.2.2])) rfl (fz_ol3 (fz_ol fun _ => fz_d) (fz_ol fun _ => fz_d) (fz_ol fun _ => fz_d)) (x_lift (p_bin (p_var rfl (p_c (v_ok (u := ((dE (eL (eT2 fr fr))) s37.1)) rfl (x_onlyD (a_cons (x_preFz (u := (fun s : ((List (Rat × Rat)) × (List (Rat × Rat)) × (List ((List Rat) × (List Rat) × Rat))) => T.d (.list [(eL (eT2 fr fr)) (s.1), (eL (eT2 fr fr)) (s.2.1), (eL (eT3 (eL fr) (eL fr) fr)) (s.2.2)])) s37) (v := (.list [(eL (eT2 fr fr)) s37.1, (eL (eT2 fr fr)) s37.2.1, (eL (eT3 (eL fr) (eL fr) fr)) s37.2.2])) rfl fz_d (x_lift (p_bin (p_var rfl (p_c (v_ok (u := ((dE (eL (eT2 fr fr))) s37.2.1)) rfl (x_onlyD (a_cons (x_preFz (u := (fun s : ((List (Rat × Rat)) × (List (Rat × Rat)) × (List ((List Rat) × (List Rat) × Rat))) => T.d (.list [(eL (eT2 fr fr)) (s.1), (eL (eT2 fr fr)) (s.2.1), (eL (eT3 (eL fr) (eL fr) fr)) (s.2.2)])) s37) (v := (.list [(eL (eT2 fr fr)) s37.1, (eL (eT2 fr fr)) s37.2.1, (eL (eT3 (eL fr) (eL fr) fr)) s37.2.2])) rfl fz_d (x_lift (p_bin (p_var rfl (p_c (v_ok (u := ((dE (eL (eT3 (eL fr) (eL fr) fr))) s37.2.2)) rfl (x_onlyD (a_nil (l_tup ((dE (eT3 (eL (eT2 fr fr)) (eL (eT2 fr fr)) (eL (eT3 (eL fr) (eL fr) fr)))) (s37.1, s37.2.1, s37.2.2)) (by rfl) (f_ret (a := (s37.1, s37.2.1, s37.2.2)) (F := (fun a : ((List (Rat × Rat)) × (List (Rat × Rat)) × (List ((List Rat) × (List Rat) × Rat))) => (dE (eT3 (eL (eT2 fr fr)) (eL (eT2 fr fr)) (eL (eT3 (eL fr) (eL fr) fr)))) a)) (G := (fun a : ((List (Rat × Rat)) × (List (Rat × Rat)) × (List ((List Rat) × (List Rat) × Rat))) => [])) rfl (by rfl) (by rfl)))))))))))))))))))))))))))))))))))))))))))))))))))))))))))))))))))))))))))))))))))))))))))))))))))))))))))))))))))))))))))))))))))))))))))))))))))))))))))))))))))))))
@[irreducible] noncomputable def t__law_copy (plan1 : ((List (Rat × Rat)) × (List (Rat × Rat)) × (List ((List Rat) × (List Rat) × Rat)))) : R ((List (Rat × Rat)) × (List (Rat × Rat)) × (List ((List Rat) × (List Rat) × Rat))) :=
  (tMapG (fun x2 => (.ok (x2.1, x2.2.1, x2.2.2) : R ((List Rat) × (List Rat) × Rat))) plan1.2.2).bind fun r3 => .ok (plan1.1, plan1.2.1, r3)
theorem fn_t__law_copy {plan1 : ((List (Rat × Rat)) × (List (Rat × Rat)) × (List ((List Rat) × (List Rat) × Rat)))} : Fn m__law_copy [(dE (eT3 (eL (eT2 fr fr)) (eL (eT2 fr fr)) (eL (eT3 (eL fr) (eL fr) fr)))) plan1] (t__law_copy plan1) (fun a : ((List (Rat × Rat)) × (List (Rat × Rat)) × (List ((List Rat) × (List Rat) × Rat))) => (dE (eT3 (eL (eT2 fr fr)) (eL (eT2 fr fr)) (eL (eT3 (eL fr) (eL fr) fr)))) a) (fun a => []) := by
  unfold m__law_copy t__law_copy
  exact fn_j (p := [some ((dE (eT3 (eL (eT2 fr fr)) (eL (eT2 fr fr)) (eL (eT3 (eL fr) (eL fr) fr)))) plan1), none, none, none]) rfl (s_ret (x_tupO (a_cons (x_mfz (x_callB (a_cons (x_lift (p_bin (p_var rfl (p_c (v_ok (u := ((dE (eL (eT2 fr fr))) plan1.1)) rfl (x_onlyD (a_nil (o_okN (list_of rfl) (x_frz (fz_ol fun _ => fz_d) (a_cons (x_mfz (x_callB (a_cons (x_lift (p_bin (p_var rfl (p_c (v_ok (u := ((dE (eL (eT2 fr fr))) plan1.2.1)) rfl (x_onlyD (a_nil (o_okN (list_of rfl) (x_frz (fz_ol fun _ => fz_d) (a_cons (x_mfz (x_lc (i_list (x_lift (p_bin (p_var rfl (p_c (v_ok (u := ((dE (eL (eT3 (eL fr) (eL fr) fr))) plan1.2.2)) rfl (x_onlyD (i_on dmapI (l_map (F := (dE (eT3 (eL fr) (eL fr) fr))) (G := (dE (eT3 (eL fr) (eL fr) fr))) (q := [some ((dE (eT3 (eL (eT2 fr fr)) (eL (eT2 fr fr)) (eL (eT3 (eL fr) (eL fr) fr)))) plan1), none, none, none]) (wk_some (wk_none (wk_none (wk_none wk_nil)))) rfl (fun x2 => g_tup rfl rfl (g_cons (g_name (g_cons (g_name (g_cons (g_name (g_nil (x_tupO (a_cons (x_mfz (x_callB (a_cons (x_d rfl (a_nil (o_okN (list_of rfl) (x_frz (fz_ol fun _ => fz_d) (a_cons (x_mfz (x_callB (a_cons (x_d rfl (a_nil (o_okN (list_of rfl) (x_frz (fz_ol fun _ => fz_d) (a_cons (x_d rfl (a_nil (l_tup ((dE (eT3 (eL fr) (eL fr) fr)) (x2.1, x2.2.1, x2.2.2)) (by rfl) (e_m (by rfl) (wk_some (wk_none (wk_none (wk_none wk_nil)))))))))))))))))))))))))))))))))) fun r3 => x_frz (fz_ol fun _ => fz_d) (a_nil (l_tup ((dE (eT3 (eL (eT2 fr fr)) (eL (eT2 fr fr)) (eL (eT3 (eL fr) (eL fr) fr)))) (plan1.1, plan1.2.1, r3)) (by rfl) (f_ret (a := (plan1.1, plan1.2.1, r3)) (F := (fun a : ((List (Rat × Rat)) × (List (Rat × Rat)) × (List ((List Rat) × (List Rat) × Rat))) => (dE (eT3 (eL (eT2 fr fr)) (eL (eT2 fr fr)) (eL (eT3 (eL fr) (eL fr) fr)))) a)) (G := (fun a : ((List (Rat × Rat)) × (List (Rat × Rat)) × (List ((List Rat) × (List Rat) × Rat))) => [])) rfl (by rfl) (by rfl))))))))))))))))))))))))))))))))))))))))))))
end Sr
namespace Sr
open PySem PySem.Spec PyProof.Rows L2 L3 L4
end Sr
namespace Sr
open PySem PySem.Spec PyProof.Rows L2 L3 L4
end Sr
namespace Sr
open PySem PySem.Spec PyProof.Rows L2 L3 L4
end Sr
namespace Sr
open PySem PySem.Spec PyProof.Rows L2 L3
local macro_rules | `(tactic| none_booked) => `(tactic| (with_reducible refine draw_step (by assumption) (by first | decide | omega) (by first | decide | omega) fun _ _ _ _ _ _ => ?_))
local macro_rules | `(tactic| none_booked) => `(tactic| (with_reducible refine idx2 (by omega) (by omega) fun _ _ => ?_))
local macro_rules | `(tactic| none_booked) => `(tactic| (with_reducible refine idx3 (by omega) (by omega) fun _ _ => ?_))
local macro_rules | `(tactic| none_booked) => `(tactic| (with_reducible refine idx4 (by omega) (by omega) fun _ _ => ?_))
def IntB (n : Int) (r : T × List T) : Prop := ∃ v d', r = (.d (.int v), [d']) ∧ -n < v ∧ v < n ∧ Deck d'
theorem far_spec {d : T} {E : Str → Prop} (hd : Deck d) : Then (m__law_far [d]) (IntB (10 ^ 36)) E := by
  unfold m__law_far
  simp [small62, range3]
  repeat (none_booked; try simp [*])
  rename_i h
  rcases h with h | h <;> subst h
  · simp
    exact ⟨_, _, rfl, by omega, by omega, by assumption⟩
  · simp
    exact ⟨_, _, rfl, by omega, by omega, by assumption⟩
theorem ldivisor_eq (a b : Int) : m__law_divisor [.d (.int a), .d (.int b)] = .ok (.d (.int (Int.gcd a b : Nat)), []) := by
  unfold m__law_divisor
  obtain ⟨g, e, eg⟩ := div_loop (mt := mTest (mLift (pBin opNe (pVar 1) (pC (.int 0))))) (mb := mPar 0 1 (mCons (mVar 1) (mCons (mLift (pBin opMod (pVar 0) (pVar 1))) (mNil)))) (fun a b => by simp) (fun a b h => by simp [h]) b.natAbs a b (Nat.le_refl _)
  simp [e, eg]
theorem llow_eq {t b : Int} (hb : b ≠ 0) (hs : ib b ≤ 9000) : m__law_low [.d (.int t), .d (.int b)] = .ok (.d (fr (Rat.divInt t b)), []) := by
  have hd1 : divOk t (lowM t b) = true := divOk_ib (lowM_ne hb) (Nat.le_trans (lowM_ib hb) hs)
  have hd2 : divOk b (lowM t b) = true := divOk_ib (lowM_ne hb) (Nat.le_trans (lowM_ib hb) hs)
  have e := fr_low (t := t) hb
  unfold m__law_low
  unfold lowM at hd1 hd2 e
  by_cases h : b < 0
  · rw [if_pos h] at hd1 hd2 e
    simp [hb, ldivisor_eq, h] at hd1 hd2 e ⊢
    simp [hd1, hd2, e]
  · rw [if_neg h] at hd1 hd2 e
    simp [hb, ldivisor_eq, h, hd1, hd2, e]
theorem far_step {d : T} {α : Type} {f : T × List T → R α} {P : α → Prop} {E : Str → Prop} (hd : Deck d) (k : ∀ v d', -(10 ^ 36) < v → v < 10 ^ 36 → Deck d' → Then (f (.d (.int v), [d'])) P E) : Then ((m__law_far [d]).nx.bind f) P E := by
  refine then_bindI (then_nx (far_spec hd)) ?_
  rintro _ ⟨v, d', rfl, h0, h1, hd'⟩
  exact k v d' h0 h1 hd'
local macro_rules | `(tactic| none_booked) => `(tactic| (with_reducible refine far_step (by assumption) fun _ _ _ _ _ => ?_))
theorem whole_spec {d : T} {E : Str → Prop} (hd : Deck d) : Then (m__law_whole [d]) (IntB (10 ^ 40)) E := by
  unfold m__law_whole
  simp
  repeat (none_booked; try simp [*])
  exact ⟨_, _, rfl, by omega, by omega, by assumption⟩
theorem whole_step {d : T} {α : Type} {f : T × List T → R α} {P : α → Prop} {E : Str → Prop} (hd : Deck d) (k : ∀ v d', -(10 ^ 40) < v → v < 10 ^ 40 → Deck d' → Then (f (.d (.int v), [d'])) P E) : Then ((m__law_whole [d]).nx.bind f) P E := by
  refine then_bindI (then_nx (whole_spec hd)) ?_
  rintro _ ⟨v, d', rfl, h0, h1, hd'⟩
  exact k v d' h0 h1 hd'
local macro_rules | `(tactic| none_booked) => `(tactic| (with_reducible refine whole_step (by assumption) fun _ _ _ _ _ => ?_))
theorem low_step {t b : Int} {α : Type} {f : T × List T → R α} {P : α → Prop} {E : Str → Prop} (h0 : 0 < b) (h1 : b < 10 ^ 42) (h2 : -(10 ^ 42) < t) (h3 : t < 10 ^ 42) (k : ∀ q, hq q ≤ 140 → Then (f (.d (fr q), [])) P E) : Then ((m__law_low [.d (.int t), .d (.int b)]).nx.bind f) P E := by
  have e1 : ib t ≤ 140 := ib_le.mpr (by omega)
  have e2 : ib b ≤ 140 := ib_le.mpr (by omega)
  rw [llow_eq (by omega) (by omega)]
  exact k _ (hq_divInt e1 e2 (by omega))
local macro_rules | `(tactic| none_booked) => `(tactic| (with_reducible refine low_step (by omega) (by omega) (by omega) (by omega) fun _ _ => ?_))
def FrB (n : Nat) (r : T × List T) : Prop := ∃ q d', r = (.d (fr q), [d']) ∧ hq q ≤ n ∧ Deck d'
theorem fraction_spec {d : T} {E : Str → Prop} (hd : Deck d) : Then (m__law_fraction [d]) (FrB 140) E := by
  unfold m__law_fraction
  simp
  none_booked; try simp [*]
  none_booked; try simp [*]
  none_booked
  simp
  with_reducible refine idx2 (by split <;> omega) (by split <;> omega) fun _ _ => ?_
  repeat (none_booked; try simp [*])
  exact ⟨_, _, rfl, by assumption, by assumption⟩
theorem fraction_step {d : T} {α : Type} {f : T × List T → R α} {P : α → Prop} {E : Str → Prop} (hd : Deck d) (k : ∀ q d', hq q ≤ 140 → Deck d' → Then (f (.d (fr q), [d'])) P E) : Then ((m__law_fraction [d]).nx.bind f) P E := by
  refine then_bindI (then_nx (fraction_spec hd)) ?_
  rintro _ ⟨v, d', rfl, h0, hd'⟩
  exact k v d' h0 hd'
local macro_rules | `(tactic| none_booked) => `(tactic| (with_reducible refine fraction_step (by assumption) fun _ _ _ _ => ?_))
end Sr
namespace Sr
open PySem PySem.Spec PyProof.Rows L2 L3
abbrev Bd := Rat × Rat
def bdD (p : Bd) : PyData := .tuple [fr p.1, fr p.2]
def bdsD (ps : List Bd) : PyData := .list (ps.map bdD)
inductive Dem where
  | full (a b : List Rat) (c : Rat)
  | two (a b : List Rat)
def demD : Dem → PyData
  | .full a b c => .tuple [frs a, frs b, fr c]
  | .two a b => .tuple [frs a, frs b]
def Dem.few : Dem → Prop
  | .full a b _ => a.length ≤ 10000 ∧ b.length ≤ 10000
  | .two a b => a.length ≤ 10000 ∧ b.length ≤ 10000
def demsD (ds : List Dem) : PyData := .list (ds.map demD)
theorem plk_fr {q : Rat} {n : Nat} : plk (n + 1) (fr q) = true := by simp [fr_def, plk, plkAll]
theorem plk_frsN {qs : List Rat} {n : Nat} : plk (n + 2) (frs qs) = true := by
  show plk (n + 2) (.list _) = true
  simp only [plk]
  exact plkAll_map fun q _ => plk_fr
theorem plk_bdsD {ps : List Bd} {n : Nat} : plk (n + 3) (bdsD ps) = true := by
  simp only [bdsD, plk]
  exact plkAll_map fun p _ => by simp [bdD, plk, plkAll, plk_fr]
theorem plk_demD {d : Dem} {n : Nat} : plk (n + 3) (demD d) = true := by
  cases d <;> simp [demD, plk, plkAll, plk_frsN, plk_fr]
theorem plk_demsD {ds : List Dem} {n : Nat} : plk (n + 4) (demsD ds) = true := by
  simp only [demsD, plk]
  exact plkAll_map fun p _ => plk_demD
@[simp] theorem pl_bdsD {ps : List Bd} : pl (bdsD ps) := plk_bdsD
@[simp] theorem pl_demsD {ps : List Dem} : pl (demsD ps) := plk_demsD
@[simp] theorem pl_demD {d : Dem} : pl (demD d) := plk_demD
end Sr
namespace Sr
open PySem PySem.Spec PyProof.Rows L2 L3 L4
end Sr
namespace Sr
open PySem PySem.Spec PyProof.Rows L2 L3 L4
end Sr
namespace Sr
open PySem PySem.Spec PyProof.Rows L2 L3
def Pool (n : Int) (p : T) : Prop := ∃ a b k, p = .ol [.d (.int a), .d (.int b), .d (.int k)] ∧ 0 ≤ k ∧ k < n
@[simp] theorem e_fr0 {q : Rat} : opIdx (.d (fr q)) (.d (.int 0)) = .ok (.v (.d (.int q.num))) := (rfl)
@[simp] theorem e_fr1 {q : Rat} : opIdx (.d (fr q)) (.d (.int 1)) = .ok (.v (.d (.int q.den))) := (rfl)
abbrev Pin := Rat × Rat × Rat
def PinB (m : Nat) (p : Pin) : Prop := hq p.1 ≤ m ∧ hq p.2.1 ≤ m ∧ hq p.2.2 ≤ m
structure Pins (m : Nat) (ps : List Pin) (lo hi : Rat) (os : List Rat) : Prop where
  len : ps.length = os.length
  pos : 0 < ps.length
  few : ps.length ≤ 4
  pin : ∀ p ∈ ps, PinB m p
  lo : hq lo ≤ m
  hi : hq hi ≤ m
  off : ∀ q ∈ os, hq q ≤ m
theorem Pool.mono {n m : Int} {p : T} (h : Pool n p) (k : n ≤ m) : Pool m p := let ⟨a, b, k', e, h0, h1⟩ := h; ⟨a, b, k', e, h0, by omega⟩
theorem Pins.mono {m k : Nat} {ps : List Pin} {lo hi : Rat} {os : List Rat} (h : Pins m ps lo hi os) (l : m ≤ k) : Pins k ps lo hi os :=
  ⟨h.len, h.pos, h.few, fun p hp => let ⟨a, b, c⟩ := h.pin p hp; ⟨by omega, by omega, by omega⟩, Nat.le_trans h.lo l, Nat.le_trans h.hi l, fun q hq => Nat.le_trans (h.off q hq) l⟩
def sc (u : Rat) (p : Pin) : Pin := (p.1 * u, p.2.1 * u, p.2.2 * u)
end Sr
namespace Sr
open PySem PySem.Spec PyProof.Rows L2 L3
section
variable {ps : List Pin} {lo hi : Rat} {os : List Rat}
end
def Fst (p : Nat → Nat → Prop) (n i j : Nat) : Prop := i ≤ j ∧ j < n ∧ p i j ∧ ∀ i' j', i' ≤ j' → j' < n → (i' < i ∨ i' = i ∧ j' < j) → ¬ p i' j'
def NoneF (p : Nat → Nat → Prop) (n i k : Nat) : Prop := ∀ i' j, i' ≤ j → j < n → (i' < i ∨ i' = i ∧ j < k) → ¬ p i' j
def IsFirst (p : Nat → Nat → Prop) (n : Nat) (r : T × List T) : Prop := (r = (.d .none, []) ∧ NoneF p n n 0) ∨ ∃ i j : Nat, r = (.d (.tuple [.int (i : Int), .int (j : Int)]), []) ∧ Fst p n i j
theorem IsFirst.uniq {p : Nat → Nat → Prop} {n : Nat} {r s : T × List T} (h1 : IsFirst p n r) (h2 : IsFirst p n s) : r = s := by
  rcases h1 with ⟨e1, n1⟩ | ⟨i, j, e1, a1, a2, a3, a4⟩
  · rcases h2 with ⟨e2, n2⟩ | ⟨i', j', e2, b1, b2, b3, b4⟩
    · rw [e1, e2]
    · exact (n1 i' j' b1 b2 (.inl (by omega)) b3).elim
  · rcases h2 with ⟨e2, n2⟩ | ⟨i', j', e2, b1, b2, b3, b4⟩
    · exact (n2 i j a1 a2 (.inl (by omega)) a3).elim
    · have : i = i' ∧ j = j' := by
        have h1 : ¬ (i < i' ∨ i = i' ∧ j < j') := fun z => b4 i j a1 a2 z a3
        have h2 : ¬ (i' < i ∨ i' = i ∧ j' < j) := fun z => a4 i' j' b1 b2 z b3
        omega
      rw [e1, e2, this.1, this.2]
section
variable {ps : List Pin} {lo hi : Rat} {os : List Rat}
end
@[simp] theorem kit_tb : kitB "tuple" "bool" = some false := by decide
end Sr
namespace Sr
open PySem PySem.Spec PyProof.Rows L2 L3 L4
abbrev PoolR := Int × Int × Int
abbrev fPool : PoolR → T := fun s => T.ol [dE eI s.1, dE eI s.2.1, dE eI s.2.2]
end Sr
namespace Sr
open PySem PySem.Spec PyProof.Rows L2 L3 L4
end Sr
namespace L4
open PySem PySem.Spec PyProof.Rows L2 L3
section
variable {α γ δ : Type}
abbrev eF2 (e : α → PyData) (f : γ → PyData) : α × γ → PyData := fun x => .list [e x.1, f x.2]
abbrev eF3 (e : α → PyData) (f : γ → PyData) (g : δ → PyData) : α × γ × δ → PyData := fun x => .list [e x.1, f x.2.1, g x.2.2]
theorem Nice.f2 {e : α → PyData} {f : γ → PyData} {k : Nat} (h : Nice e k) (h2 : Nice f k) : Nice (eF2 e f) (k + 1) := ⟨fun a b z => by
  have z : [e a.1, f a.2] = [e b.1, f b.2] := by injection z
  simp only [List.cons.injEq, and_true] at z
  exact Prod.ext (h.inj _ _ z.1) (h2.inj _ _ z.2), fun a n => by
  show L3.plk ((n + k) + 1) _ = true
  simp [L3.plk, L3.plkAll, h.plk, h2.plk]⟩
theorem Nice.f3 {e : α → PyData} {f : γ → PyData} {g : δ → PyData} {k : Nat} (h : Nice e k) (h2 : Nice f k) (h3 : Nice g k) : Nice (eF3 e f g) (k + 1) := ⟨fun a b z => by
  have z : [e a.1, f a.2.1, g a.2.2] = [e b.1, f b.2.1, g b.2.2] := by injection z
  simp only [List.cons.injEq, and_true] at z
  exact Prod.ext (h.inj _ _ z.1) (Prod.ext (h2.inj _ _ z.2.1) (h3.inj _ _ z.2.2)), fun a n => by
  show L3.plk ((n + k) + 1) _ = true
  simp [L3.plk, L3.plkAll, h.plk, h2.plk, h3.plk]⟩
end
end L4
namespace Sr
open PySem PySem.Spec PyProof.Rows L2 L3 L4
mutual
def cpk : Nat → PyData → Bool
  | _, .int _ => true
  | n + 1, .list xs => decide (xs.length ≤ 10000) && cpkAll n xs
  | n + 1, .tuple xs => decide (xs.length ≤ 10000) && cpkAll n xs
  | _, _ => false
def cpkAll : Nat → List PyData → Bool
  | _, [] => true
  | n, x :: xs => cpk n x && cpkAll n xs
end
@[simp] theorem kit_il8 : kitB "int" "list" = some false := by decide
@[simp] theorem kit_it8 : kitB "int" "tuple" = some false := by decide
end Sr
namespace Sr
open PySem PySem.Spec PyProof.Rows L2 L3 L4
end Sr
namespace L4
open PySem PySem.Spec PyProof.Rows L2 L3
section
variable {Y α β γ : Type} {p : Pt} {t : R α} {Rel : α → Y → Prop} {κ : SK Y} {KI : List T → Env → R Y}
end
end L4
namespace L4
open PySem PySem.Spec PyProof.Rows L2 L3
section
variable {Y α β γ : Type} {p : Pt} {t : R α} {Rel : α → Y → Prop} {K : T → Env → R Y} {i : Nat}
end
end L4
namespace Sr
open PySem PySem.Spec PyProof.Rows L2 L3 L4
end Sr
namespace Sr
open PySem PySem.Spec PyProof.Rows L2 L3 L4
end Sr
namespace Sr
open PySem PySem.Spec PyProof.Rows L2 L3 L4
end Sr
namespace Sr
open PySem PySem.Spec PyProof.Rows L2 L3 L4
end Sr
namespace Sr
open PySem PySem.Spec PyProof.Rows L2 L3 L4
end Sr
namespace Sr
open PySem PySem.Spec PyProof.Rows L2 L3 L4
end Sr
namespace Sr
open PySem PySem.Spec PyProof.Rows L2 L3 L4
end Sr
namespace Sr
open PySem PySem.Spec PyProof.Rows L2 L3 L4
end Sr
namespace Sr
open PySem PySem.Spec PyProof.Rows L2 L3 L4
end Sr
namespace L4
open PySem PySem.Spec PyProof.Rows L2 L3
section
variable {Y α β γ : Type} {p : Pt} {t : R α} {Rel : α → Y → Prop} {κ : SK Y} {KI : List T → Env → R Y} {K : T → Env → R Y} {i : Nat}
theorem Inj.opt {e : β → PyData} (h : Inj e) (hn : ∀ a, e a ≠ .none) : Inj (eO e) := ⟨fun a b z => by
  cases a with
  | none =>
    cases b with
    | none => rfl
    | some b => exact (hn b z.symm).elim
  | some a =>
    cases b with
    | none => exact (hn a z).elim
    | some b => rw [h.inj a b z]⟩
end
end L4
namespace L4
open PySem PySem.Spec PyProof.Rows L2 L3
section
variable {Y α β γ : Type} {p : Pt} {t : R α} {Rel : α → Y → Prop} {K : T → Env → R Y} {i : Nat}
def idxK (K : T → Env → R Y) : T → T → Env → R Y := fun u v ρ => (ofO (idxT u v)).bind fun j => K j ρ
end
end L4
namespace L4
open PySem PySem.Spec PyProof.Rows L2 L3
section
variable {Y α β σ : Type} {p : Pt} {t : R α} {Rel : α → Y → Prop} {κ : SK Y} {i j : Nat}
end
end L4
namespace Sr
open PySem PySem.Spec PyProof.Rows L2 L3 L4
end Sr
namespace Sr
open PySem PySem.Spec PyProof.Rows L2 L3 L4
end Sr
namespace Sr
open PySem PySem.Spec PyProof.Rows L2 L3 L4
def PlN (m : Nat) (s : PoolR) : Prop := 0 ≤ s.2.2 ∧ s.2.2 < m
theorem PlN.mono {m n : Nat} {s : PoolR} (h : PlN m s) (k : m ≤ n) : PlN n s := ⟨h.1, by have := h.2; omega⟩
theorem PlN.pool {m : Nat} {s : PoolR} (h : PlN m s) : Pool (m : Int) (fPool s) := ⟨s.1, s.2.1, s.2.2, rfl, h.1, h.2⟩
end Sr
namespace Sr
open PySem PySem.Spec PyProof.Rows L2 L3 L4
end Sr
namespace Sr
open PySem PySem.Spec PyProof.Rows L2 L3 L4
end Sr
namespace Sr
open PySem PySem.Spec PyProof.Rows L2 L3 L4
end Sr
namespace Sr
open PySem PySem.Spec PyProof.Rows L2 L3 L4
end Sr
namespace L4
open PySem PySem.Spec PyProof.Rows L2 L3
section
variable {Y α β : Type} {p : Pt} {t : R α} {Rel : α → Y → Prop} {K : T → Env → R Y}
end
end L4
namespace Sr
open PySem PySem.Spec PyProof.Rows L2 L3 L4
end Sr
namespace Sr
open PySem PySem.Spec PyProof.Rows L2 L3 L4
end Sr
namespace L4
open PySem PySem.Spec PyProof.Rows L2 L3
open PySem.W (dataLe)
section
variable {Y α β : Type} {p : Pt} {t : R α} {Rel : α → Y → Prop} {K : T → Env → R Y}
end
end L4
namespace Sr
open PySem PySem.Spec PyProof.Rows L2 L3 L4
end Sr
namespace Sr
open PySem PySem.Spec PyProof.Rows L2 L3 L4
end Sr
namespace L4
open PySem PySem.Spec PyProof.Rows L2 L3
section
variable {Y α : Type} {p : Pt} {t : R α} {Rel : α → Y → Prop} {κ : SK Y}
end
end L4
namespace Sr
open PySem PySem.Spec PyProof.Rows L2 L3 L4
end Sr
namespace Sr
open PySem PySem.Spec PyProof.Rows L2 L3 L4
end Sr
namespace L4
open PySem PySem.Spec PyProof.Rows L2 L3
section
variable {Y α β : Type} {p : Pt} {t : R α} {Rel : α → Y → Prop} {κ : SK Y} {i : Nat} {K : T → Env → R Y} {KI : List T → Env → R Y}
theorem Mt.clearN {p : Pt} {ρ : Env} (h : Mt p ρ) : ∀ {js : List Nat}, Mt (L3.clearN js p) (L3.clearN js ρ) := by
  intro js
  induction js generalizing p ρ with
  | nil => exact h
  | cons j js ih => exact ih (h.unset (i := j) (x := none))
end
end L4
namespace Sr
open PySem PySem.Spec PyProof.Rows L2 L3 L4
end Sr
namespace L4
open PySem PySem.Spec PyProof.Rows L2 L3
section
variable {Y α β γ : Type} {p : Pt} {t : R α} {Rel : α → Y → Prop} {κ : SK Y} {i : Nat} {K : T → Env → R Y} {KI : List T → Env → R Y}
end
end L4
namespace Sr
open PySem PySem.Spec PyProof.Rows L2 L3 L4
end Sr
namespace Sr
open PySem PySem.Spec PyProof.Rows L2 L3 L4
end Sr
namespace Sr
open PySem PySem.Spec PyProof.Rows L2 L3 L4
end Sr
namespace Sr
open PySem PySem.Spec PyProof.Rows L2 L3 L4
end Sr
namespace L4
open PySem PySem.Spec PyProof.Rows L2 L3
end L4
namespace Sr
open PySem PySem.Spec PyProof.Rows L2 L3 L4
end Sr
namespace L4
open PySem PySem.Spec PyProof.Rows L2 L3
section
variable {Y α β : Type} {p : Pt} {t : R α} {Rel : α → Y → Prop} {κ : SK Y} {i : Nat} {K : T → Env → R Y} {KI : List T → Env → R Y}
end
end L4
namespace Sr
open PySem PySem.Spec PyProof.Rows L2 L3
theorem lt_pow {n : Nat} (h : ib (n : Int) ≤ 1000) : n < 2 ^ 1000 := by
  have := ib_le.mp h
  omega
theorem nums {q : Rat} (h : hq q ≤ 1000) : q.num.natAbs < 2 ^ 1000 ∧ q.den < 2 ^ 1000 := by
  have h1 := ib_le.mp (Nat.le_trans (hq_num q) h)
  have h2 := lt_pow (Nat.le_trans (hq_denI q) h)
  exact ⟨by omega, h2⟩
end Sr
namespace Sr
open PySem PySem.Spec PyProof.Rows L2 L3
end Sr
namespace Sr
open PySem PySem.Spec PyProof.Rows L2 L3 L4
end Sr
namespace Sr
open PySem PySem.Spec PyProof.Rows L2 L3 L4
end Sr
namespace Sr
open PySem PySem.Spec PyProof.Rows L2 L3 L4
noncomputable abbrev encPl34 : (List (Rat × Rat)) × (List (Rat × Rat)) × (List ((List Rat) × (List Rat) × Rat)) → PyData := eT3 (eL (eT2 fr fr)) (eL (eT2 fr fr)) (eL (eT3 (eL fr) (eL fr) fr))
open Classical in
noncomputable def t_good34 (P : (List (Rat × Rat)) × (List (Rat × Rat)) × (List ((List Rat) × (List Rat) × Rat))) (H : List (Int × Int)) (q r : Rat) : R Bool :=
  if m__law_good_10 [dE encPl34 P, dE (eL (eT2 eI eI)) H, dE fr q, dE fr r] = .ok (dE eB true, []) then .ok true else .bad
theorem fn_good34 {P : (List (Rat × Rat)) × (List (Rat × Rat)) × (List ((List Rat) × (List Rat) × Rat))} {H : List (Int × Int)} {q r : Rat} : Fn m__law_good_10 [dE (eT3 (eL (eT2 fr fr)) (eL (eT2 fr fr)) (eL (eT3 (eL fr) (eL fr) fr))) P, dE (eL (eT2 eI eI)) H, dE fr q, dE fr r] (t_good34 P H q r) (fun a : Bool => dE eB a) fun _ => [] := by
  unfold t_good34
  by_cases h : m__law_good_10 [dE encPl34 P, dE (eL (eT2 eI eI)) H, dE fr q, dE fr r] = .ok (dE eB true, [])
  · rw [if_pos h]
    exact ⟨_, h, rfl⟩
  · rw [if_neg h]
    exact trivial
theorem good34_of {P : (List (Rat × Rat)) × (List (Rat × Rat)) × (List ((List Rat) × (List Rat) × Rat))} {H : List (Int × Int)} {q r : Rat} (h : m__law_good_10 [dE encPl34 P, dE (eL (eT2 eI eI)) H, dE fr q, dE fr r] = .ok (dE eB true, [])) : t_good34 P H q r = .ok true := by
  unfold t_good34
  rw [if_pos h]
end Sr
namespace Sr
open PySem PySem.Spec PyProof.Rows L2 L3 L4
@[irreducible] noncomputable def t__law_chain (pool1 : (Int × Bool × Int)) (many2 : Int) : R ((List (Int × Int)) × (Int × Bool × Int)) :=
  (t__law_take_2 pool1 (9 : Int)).nx.bind fun r3 => (tRange 0 r3.1).bind fun ks4 => (tFold (fun (s5 : ((Int × Bool × Int) × (List (Int × Int)))) x6 => ((t__law_take_2 s5.1 (9 : Int)).nx.bind fun r7 => (tPow (10 : Int) (30 : Int)).bind fun v8 => (t__law_take_2 r7.2 v8).nx.bind fun r9 => (tPow (10 : Int) (29 : Int)).bind fun v10 => (tMul (5 : Int) v10).bind fun v11 => (t__law_take_2 r9.2 (4 : Int)).nx.bind fun r12 => (tIdx ([(r7.1 - (4 : Int)), (1 : Int), (-(1 : Int)), (r9.1 - v11)]) r12.1).bind fun x13 => (t__law_take_2 r12.2 many2).nx.bind fun r14 => (tApp s5.2 (r14.1, x13)).bind fun found15 => .ok (r14.2, found15) : R ((Int × Bool × Int) × (List (Int × Int))))) ks4 (r3.2, ([] : (List (Int × Int))))).bind fun s16 => .ok (s16.2, s16.1)
theorem fn_t__law_chain {pool1 : (Int × Bool × Int)} {many2 : Int} : Fn m__law_chain [(fun s : (Int × Bool × Int) => T.od [.inr "rest", .inr "mixed", .inr "count"] [(dE eI) (s.1), (dE eB) (s.2.1), (dE eI) (s.2.2)]) pool1, (dE eI) many2] (t__law_chain pool1 many2) (fun a : ((List (Int × Int)) × (Int × Bool × Int)) => (dE (eL (eT2 eI eI))) a.1) (fun a => [(fun s : (Int × Bool × Int) => T.od [.inr "rest", .inr "mixed", .inr "count"] [(dE eI) (s.1), (dE eB) (s.2.1), (dE eI) (s.2.2)]) a.2]) := by
  unfold m__law_chain t__law_chain
  exact fn_j (p := [some ((fun s : (Int × Bool × Int) => T.od [.inr "rest", .inr "mixed", .inr "count"] [(dE eI) (s.1), (dE eB) (s.2.1), (dE eI) (s.2.2)]) pool1), some ((dE eI) many2), none, none, none]) rfl (s_seq (s_asg (x_lstO (a_nil (l_lst (f := (dE (eT2 eI eI))) ([] : (List (Int × Int))) (by rfl) (g_name (n_seq (s_seq (s_for (i_range1 (a_cons (x_call (b_io rfl (b_cons (x_lift (p_c (x_onlyD (b_nil (c_end rfl fn_t__law_take_2 rfl (fun _ => rfl) fun r3 => a_nil (i_r1 fun ks4 => l_for (F := (dE eI)) (q := fun s5 : ((Int × Bool × Int) × (List (Int × Int))) => [some ((fun s : (Int × Bool × Int) => T.od [.inr "rest", .inr "mixed", .inr "count"] [(dE eI) (s.1), (dE eB) (s.2.1), (dE eI) (s.2.2)]) s5.1), some ((dE eI) many2), some ((oL (dE (eT2 eI eI))) s5.2), none, none]) (wk_some (wk_some (wk_some (wk_none (wk_none wk_nil))))) (fun s5 x6 => g_name (s_seq (s_asg (x_bin (x_lstO (a_cons (x_bin (x_call (b_io rfl (b_cons (x_lift (p_c (x_onlyD (b_nil (c_end rfl fn_t__law_take_2 rfl (fun _ => rfl) fun r7 => x_lift (p_c (x_onlyD (o_ok rfl (a_cons (x_lift (p_c (x_onlyD (a_cons (x_lift (p_un (p_c (v_ok rfl (x_onlyD (a_cons (x_bin (x_call (b_io rfl (b_cons (x_lift (p_bin (p_c (p_c (v_r ro_pow fun v8 => x_onlyD (b_nil (c_end rfl fn_t__law_take_2 rfl (fun _ => rfl) fun r9 => x_lift (p_bin (p_c (p_bin (p_c (p_c (v_r ro_pow fun v10 => v_r ro_mul fun v11 => x_onlyD (o_ok rfl (a_nil (l_lst (f := (dE eI)) ([(r7.1 - (4 : Int)), (1 : Int), (-(1 : Int)), (r9.1 - v11)]) (by rfl) (x_call (b_io rfl (b_cons (x_lift (p_c (x_onlyD (b_nil (c_end rfl fn_t__law_take_2 rfl (fun _ => rfl) fun r12 => o_r ro_idxO fun x13 => g_name (n_seq (J.wk (q := [some ((fun s : (Int × Bool × Int) => T.od [.inr "rest", .inr "mixed", .inr "count"] [(dE eI) (s.1), (dE eB) (s.2.1), (dE eI) (s.2.2)]) r12.2), some ((dE eI) many2), some ((oL (dE (eT2 eI eI))) s5.2), some ((dE eI) x6), some ((dE eI) x13)]) (wk_some (wk_some (wk_some (wk_some (wk_some wk_nil))))) (s_drop (x_meth rfl (a_cons (x_tupO (a_cons (x_call (b_io rfl (b_cons (x_d rfl (b_nil (c_end rfl fn_t__law_take_2 rfl (fun _ => rfl) fun r14 => a_cons (x_d rfl (a_nil (l_tup ((dE (eT2 eI eI)) (r14.1, x13)) (by rfl) (a_nil (m_append (f := (dE (eT2 eI eI))) (xs := s5.2) (x := (r14.1, x13)) rfl rfl fun found15 => e_cN (wk_some (wk_some (wk_some (wk_none (wk_none wk_nil)))))))))))))))))))))))))))))))))))))))))))))))))))))))))))))))))))))))))))))))) fun s16 => n_seq (s_ret (x_fz rfl (fz_ol fun _ => fz_d) (f_ret (a := (s16.2, s16.1)) (F := (fun a : ((List (Int × Int)) × (Int × Bool × Int)) => (dE (eL (eT2 eI eI))) a.1)) (G := (fun a : ((List (Int × Int)) × (Int × Bool × Int)) => [(fun s : (Int × Bool × Int) => T.od [.inr "rest", .inr "mixed", .inr "count"] [(dE eI) (s.1), (dE eB) (s.2.1), (dE eI) (s.2.2)]) a.2])) rfl (by rfl) (by rfl))))))))))))))))))))))))
@[irreducible] noncomputable def t_with_demands_2 (plan1 : ((List (Rat × Rat)) × (List (Rat × Rat)) × (List ((List Rat) × (List Rat) × Rat)))) (demands2 : (List ((List Rat) × (List Rat) × Rat))) : R ((List (Rat × Rat)) × (List (Rat × Rat)) × (List ((List Rat) × (List Rat) × Rat))) :=
  (tCat plan1.2.2 demands2).bind fun v3 => (tMapG (fun x4 => (.ok (x4.1, x4.2.1, x4.2.2) : R ((List Rat) × (List Rat) × Rat))) v3).bind fun r5 => .ok (plan1.1, plan1.2.1, r5)
theorem fn_t_with_demands_2 {plan1 : ((List (Rat × Rat)) × (List (Rat × Rat)) × (List ((List Rat) × (List Rat) × Rat)))} {demands2 : (List ((List Rat) × (List Rat) × Rat))} : Fn m_with_demands_2 [(dE (eT3 (eL (eT2 fr fr)) (eL (eT2 fr fr)) (eL (eT3 (eL fr) (eL fr) fr)))) plan1, (dE (eL (eT3 (eL fr) (eL fr) fr))) demands2] (t_with_demands_2 plan1 demands2) (fun a : ((List (Rat × Rat)) × (List (Rat × Rat)) × (List ((List Rat) × (List Rat) × Rat))) => (fun s : ((List (Rat × Rat)) × (List (Rat × Rat)) × (List ((List Rat) × (List Rat) × Rat))) => T.ot [(oL (dE (eT2 fr fr))) (s.1), (oL (dE (eT2 fr fr))) (s.2.1), (oL (fun s : ((List Rat) × (List Rat) × Rat) => T.ot [(oL (dE fr)) (s.1), (oL (dE fr)) (s.2.1), (dE fr) (s.2.2)])) (s.2.2)]) a) (fun a => []) := by
  unfold m_with_demands_2 t_with_demands_2
  exact fn_j (p := [some ((dE (eT3 (eL (eT2 fr fr)) (eL (eT2 fr fr)) (eL (eT3 (eL fr) (eL fr) fr)))) plan1), some ((dE (eL (eT3 (eL fr) (eL fr) fr))) demands2), none, none, none, none]) rfl (s_seq (s_asg (x_lc (i_list (x_mfz (x_bin (x_mfz (x_callB (a_cons (x_lift (p_bin (p_var rfl (p_c (v_ok (u := ((dE (eL (eT3 (eL fr) (eL fr) fr))) plan1.2.2)) rfl (x_onlyD (a_nil (o_okN (list_of rfl) (x_frz (fz_ol fun _ => fz_d) (x_mfz (x_callB (a_cons (x_d rfl (a_nil (o_okN (list_of rfl) (x_frz (fz_ol fun _ => fz_d) (o_rN (ro_cat lst_d lst_d) fun v3 => x_frz (fz_ol fun _ => fz_d) (i_on dmapI (l_map (F := (dE (eT3 (eL fr) (eL fr) fr))) (G := (fun s : ((List Rat) × (List Rat) × Rat) => T.ot [(oL (dE fr)) (s.1), (oL (dE fr)) (s.2.1), (dE fr) (s.2.2)])) (q := [some ((dE (eT3 (eL (eT2 fr fr)) (eL (eT2 fr fr)) (eL (eT3 (eL fr) (eL fr) fr)))) plan1), some ((dE (eL (eT3 (eL fr) (eL fr) fr))) demands2), none, none, none, none]) (wk_some (wk_some (wk_none (wk_none (wk_none (wk_none wk_nil)))))) rfl (fun x4 => g_tup rfl rfl (g_cons (g_name (g_cons (g_name (g_cons (g_name (g_nil (x_tupO (a_cons (x_callB (a_cons (x_d rfl (a_nil (o_okN (list_of rfl) (a_cons (x_callB (a_cons (x_d rfl (a_nil (o_okN (list_of rfl) (a_cons (x_move rfl (a_nil (l_tup ((fun s : ((List Rat) × (List Rat) × Rat) => T.ot [(oL (dE fr)) (s.1), (oL (dE fr)) (s.2.1), (dE fr) (s.2.2)]) (x4.1, x4.2.1, x4.2.2)) (by rfl) (e_m (by rfl) (wk_some (wk_some (wk_none (wk_none (wk_none (wk_none wk_nil)))))))))))))))))))))))))))))))) fun r5 => g_name (n_seq (s_ret (x_tupO (a_cons (x_callB (a_cons (x_lift (p_bin (p_var rfl (p_c (v_ok (u := ((dE (eL (eT2 fr fr))) plan1.1)) rfl (x_onlyD (a_nil (o_okN (list_of rfl) (a_cons (x_callB (a_cons (x_lift (p_bin (p_var rfl (p_c (v_ok (u := ((dE (eL (eT2 fr fr))) plan1.2.1)) rfl (x_onlyD (a_nil (o_okN (list_of rfl) (a_cons (x_move rfl (a_nil (l_tup ((fun s : ((List (Rat × Rat)) × (List (Rat × Rat)) × (List ((List Rat) × (List Rat) × Rat))) => T.ot [(oL (dE (eT2 fr fr))) (s.1), (oL (dE (eT2 fr fr))) (s.2.1), (oL (fun s : ((List Rat) × (List Rat) × Rat) => T.ot [(oL (dE fr)) (s.1), (oL (dE fr)) (s.2.1), (dE fr) (s.2.2)])) (s.2.2)]) (plan1.1, plan1.2.1, r5)) (by rfl) (f_ret (a := (plan1.1, plan1.2.1, r5)) (F := (fun a : ((List (Rat × Rat)) × (List (Rat × Rat)) × (List ((List Rat) × (List Rat) × Rat))) => (fun s : ((List (Rat × Rat)) × (List (Rat × Rat)) × (List ((List Rat) × (List Rat) × Rat))) => T.ot [(oL (dE (eT2 fr fr))) (s.1), (oL (dE (eT2 fr fr))) (s.2.1), (oL (fun s : ((List Rat) × (List Rat) × Rat) => T.ot [(oL (dE fr)) (s.1), (oL (dE fr)) (s.2.1), (dE fr) (s.2.2)])) (s.2.2)]) a)) (G := (fun a : ((List (Rat × Rat)) × (List (Rat × Rat)) × (List ((List Rat) × (List Rat) × Rat))) => [])) rfl (by rfl) (by rfl)))))))))))))))))))))))))))))))))))))))))))))))))))))))))))
@[irreducible] noncomputable def t_law_56 (script1 : (List Int)) : R Bool :=
  (t__law_plan_3 script1 (0 : Int) (3 : Int) (3 : Int)).nx.bind fun r2 => (tRange (19 : Int) (tMax (20 : Int) (tMin (tLen script1) (31 : Int)))).bind fun ks3 => (tLoop (fun (s4 : Unit) x5 => ((t__law_pool_2 script1 x5).nx.bind fun r6 => (t__law_chain r6 ((tLen r2.1) + (tLen r2.2.1))).nx.bind fun r7 => (t__law_fraction_4 r7.2).nx.bind fun r8 => (t__law_fraction_4 r8.2).nx.bind fun r9 => (t_good34 r2 r7.1 r8.1 r9.1).nx.bind fun r10 => if (!r10) = true then .ok (.rt false) else .ok (.nx ()) : R (Fl Unit Bool))) ks3 ()).bind fun f => f.on (fun s11 => (t__law_copy r2).nx.bind fun r12 => (t_with_demands_2 r12 ([] : (List ((List Rat) × (List Rat) × Rat)))).nx.bind fun r13 => .ok (decide (r13 = r2))) (fun r14 => .ok r14)
theorem fn_t_law_56 {script1 : (List Int)} : Fn m_law_56 [(fun xs : List Int => T.rd (xs.map PyData.int)) script1] (t_law_56 script1) (fun a : Bool => (dE eB) a) (fun a => []) := by
  unfold m_law_56 t_law_56
  exact fn_j (p := [some ((fun xs : List Int => T.rd (xs.map PyData.int)) script1), none, none, none, none]) rfl (s_seq (s_asg (x_call (b_cons (x_rd rfl (b_cons (x_lift (p_c (x_onlyD (b_cons (x_lift (p_c (x_onlyD (b_cons (x_lift (p_c (x_onlyD (b_nil (c_end rfl fn_t__law_plan_3 rfl (fun _ => rfl) fun r2 => g_name (n_seq (s_seq (s_asg (x_lift (p_bin (p_callB (z_cons (p_bin (p_var rfl (p_c (v_ok (u := ((dE (eL (eT2 fr fr))) r2.1)) rfl (z_nil (v_ok len_l (p_callB (z_cons (p_bin (p_var rfl (p_c (v_ok (u := ((dE (eL (eT2 fr fr))) r2.2.1)) rfl (z_nil (v_ok len_l (v_ok rfl (x_onlyD (g_name (n_seq (s_seq (s_for (i_range2 (a_cons (x_lift (p_c (x_onlyD (a_cons (x_lift (p_callB (z_cons (p_c (z_cons (p_callB (z_cons (p_callB (z_cons (p_var rfl (z_nil (v_ok len_r (z_cons (p_c (z_nil (v_ok rfl (z_nil (v_ok rfl (x_onlyD (a_nil (i_r2 fun ks3 => l_forR (F := (dE eI)) (q := fun s4 : Unit => [some ((fun xs : List Int => T.rd (xs.map PyData.int)) script1), some ((dE (eT3 (eL (eT2 fr fr)) (eL (eT2 fr fr)) (eL (eT3 (eL fr) (eL fr) fr)))) r2), some ((dE eI) ((tLen r2.1) + (tLen r2.2.1))), none, none]) (FR := (fun r14 : Bool => (dE eB) r14)) (qr := fun r14 => [none, none, none, none, none]) (wk_some (wk_some (wk_some (wk_none (wk_none wk_nil))))) (fun s4 x5 => g_name (s_seq (s_asg (x_call (b_cons (x_rd rfl (b_cons (x_d rfl (b_nil (c_end rfl fn_t__law_pool_2 rfl (fun _ => rfl) fun r6 => g_name (n_seq (s_if (t_not (t_test (x_call (b_cons (x_d rfl (b_cons (x_call (b_io rfl (b_cons (x_d rfl (b_nil (c_end rfl fn_t__law_chain rfl (fun _ => rfl) fun r7 => b_cons (x_call (b_io rfl (b_nil (c_end rfl fn_t__law_fraction_4 rfl (fun _ => rfl) fun r8 => b_cons (x_call (b_io rfl (b_nil (c_end rfl fn_t__law_fraction_4 rfl (fun _ => rfl) fun r9 => b_nil (c_end rfl fn_good34 rfl (fun _ => rfl) fun r10 => t_onB (g_ite dec_self (fun _ => J.wk (q := [some ((fun xs : List Int => T.rd (xs.map PyData.int)) script1), some ((dE (eT3 (eL (eT2 fr fr)) (eL (eT2 fr fr)) (eL (eT3 (eL fr) (eL fr) fr)))) r2), some ((dE eI) ((tLen r2.1) + (tLen r2.2.1))), some ((dE eI) x5), some ((fun s : (Int × Bool × Int) => T.od [.inr "rest", .inr "mixed", .inr "count"] [(dE eI) (s.1), (dE eB) (s.2.1), (dE eI) (s.2.2)]) r9.2)]) (wk_some (wk_some (wk_some (wk_some (wk_some wk_nil))))) (s_ret (x_lift (p_c (x_onlyD (e_fR (by rfl) (wk_none (wk_none (wk_none (wk_none (wk_none wk_nil))))))))))) (fun _ => s_next (e_fN (wk_some (wk_some (wk_some (wk_none (wk_none wk_nil))))))))))))))))))))))))))))))))))))))))) (fun s11 => n_seq (s_ret (x_bin (x_mfz (x_call (b_cons (x_call (b_cons (x_d rfl (b_nil (c_end rfl fn_t__law_copy rfl (fun _ => rfl) fun r12 => b_cons (x_mfz (x_lstO (a_nil (l_lst (f := (dE (eT3 (eL fr) (eL fr) fr))) ([] : (List ((List Rat) × (List Rat) × Rat))) (by rfl) (x_frz (fz_ol fun _ => fz_d) (b_nil (c_end rfl fn_t_with_demands_2 rfl (fun _ => rfl) fun r13 => x_frz (fz_ot3 (fz_ol fun _ => fz_d) (fz_ol fun _ => fz_d) (fz_ol fun _ => (fz_ot3 (fz_ol fun _ => fz_d) (fz_ol fun _ => fz_d) fz_d))) (x_d rfl (o_ok (eq_nice (e := (eT3 (eL (eT2 fr fr)) (eL (eT2 fr fr)) (eL (eT3 (eL fr) (eL fr) fr)))) (a := r13) (b := r2) (((((nice_Q).t2 (nice_Q)).list).up (by decide)).t3 ((((nice_Q).t2 (nice_Q)).list).up (by decide)) ((((nice_Q).list).t3 ((nice_Q).list) ((nice_Q).up (by decide))).list)) toD_d toD_d) (f_ret (a := (decide (r13 = r2))) (F := (fun a : Bool => (dE eB) a)) (G := (fun a : Bool => [])) rfl (by rfl) (by rfl)))))))))))))))))))))) (fun r14 => r_seq (f_ret (a := r14) (F := (fun a : Bool => (dE eB) a)) (G := (fun a : Bool => [])) rfl (by rfl) (by rfl))))))))))))))))))))))))))))))))))))))))))))))))))))))))))))))))))))))))))))
@[irreducible] noncomputable def t_chain_parts_2 (plan1 : ((List (Rat × Rat)) × (List (Rat × Rat)) × (List ((List Rat) × (List Rat) × Rat)))) (chain2 : (List (Int × Int))) : R ((List Rat) × (List Rat)) :=
  (tRep ([(0 : Int)]) ((tLen plan1.1) + (tLen plan1.2.1))).bind fun v3 => (tFold (fun (s4 : (List Int)) x5 => ((tIdx s4 x5.1).bind fun x6 => (tSet s4 x5.1 (x6 + x5.2)).bind fun found7 => .ok (found7) : R (List Int))) chain2 (v3)).bind fun s8 => (tMapG (fun x9 => (.ok ((x9 : Int) : Rat) : R Rat)) s8).bind fun r10 => .ok ((tCut r10 none (some (tLen plan1.1))), (tCut r10 (some (tLen plan1.1)) none))
theorem fn_t_chain_parts_2 {plan1 : ((List (Rat × Rat)) × (List (Rat × Rat)) × (List ((List Rat) × (List Rat) × Rat)))} {chain2 : (List (Int × Int))} : Fn m_chain_parts_2 [(dE (eT3 (eL (eT2 fr fr)) (eL (eT2 fr fr)) (eL (eT3 (eL fr) (eL fr) fr)))) plan1, (dE (eL (eT2 eI eI))) chain2] (t_chain_parts_2 plan1 chain2) (fun a : ((List Rat) × (List Rat)) => (fun s : ((List Rat) × (List Rat)) => T.ot [(oL (dE fr)) (s.1), (oL (dE fr)) (s.2)]) a) (fun a => []) := by
  unfold m_chain_parts_2 t_chain_parts_2
  exact fn_j (p := [some ((dE (eT3 (eL (eT2 fr fr)) (eL (eT2 fr fr)) (eL (eT3 (eL fr) (eL fr) fr)))) plan1), some ((dE (eL (eT2 eI eI))) chain2), none, none, none, none]) rfl (s_seq (s_asg (x_bin (x_mfz (x_lstO (a_cons (x_lift (p_c (x_onlyD (a_nil (l_lst (f := (dE eI)) ([(0 : Int)]) (by rfl) (x_frz (fz_ol fun _ => fz_d) (x_lift (p_bin (p_callB (z_cons (p_bin (p_var rfl (p_c (v_ok (u := ((dE (eL (eT2 fr fr))) plan1.1)) rfl (z_nil (v_ok len_l (p_callB (z_cons (p_bin (p_var rfl (p_c (v_ok (u := ((dE (eL (eT2 fr fr))) plan1.2.1)) rfl (z_nil (v_ok len_l (v_ok rfl (x_onlyD (o_rN (ro_rep lst_d) fun v3 => g_name (n_seq (s_seq (s_for (i_list (x_d rfl (i_on dmapI (l_for (F := (dE (eT2 eI eI))) (q := fun s4 : (List Int) => [some ((dE (eT3 (eL (eT2 fr fr)) (eL (eT2 fr fr)) (eL (eT3 (eL fr) (eL fr) fr)))) plan1), some ((dE (eL (eT2 eI eI))) chain2), some ((oL (dE eI)) s4), none, none, none]) (wk_some (wk_some (wk_some (wk_none (wk_none (wk_none wk_nil)))))) (fun s4 x5 => g_tup rfl rfl (g_cons (g_name (g_cons (g_name (g_nil (s_augIx (xs := s4) rfl (pv_var rfl) (pv_var rfl) fun found7 => e_cN (wk_some (wk_some (wk_some (wk_none (wk_none (wk_none wk_nil))))))))))))) fun s8 => n_seq (s_seq (s_thenFz (s_asg (x_lc (i_list (x_fz rfl (fz_ol fun _ => fz_d) (i_on dmapI (l_map (F := (dE eI)) (G := (dE fr)) (q := [some ((dE (eT3 (eL (eT2 fr fr)) (eL (eT2 fr fr)) (eL (eT3 (eL fr) (eL fr) fr)))) plan1), some ((dE (eL (eT2 eI eI))) chain2), some ((dE (eL eI)) s8), none, none, none]) (wk_some (wk_some (wk_some (wk_none (wk_none (wk_none wk_nil)))))) rfl (fun x9 => g_name (x_tupO (a_cons (x_d rfl (a_cons (x_lift (p_c (x_onlyD (a_nil (l_tup (.d (fr ((x9 : Int) : Rat))) (by rfl) (e_m (by rfl) (wk_some (wk_some (wk_some (wk_none (wk_none (wk_none wk_nil))))))))))))))))) fun r10 => g_name (n_fz rfl (fz_ol fun _ => fz_d) (n_seq (J.wk (q := [some ((dE (eT3 (eL (eT2 fr fr)) (eL (eT2 fr fr)) (eL (eT3 (eL fr) (eL fr) fr)))) plan1), some ((dE (eL (eT2 eI eI))) chain2), some ((dE (eL eI)) s8), some ((dE (eL fr)) r10), none, none]) (wk_some (wk_some (wk_some (wk_some (wk_none (wk_none wk_nil)))))) (s_ret (x_tupO (a_cons (x_sl (p_var rfl (o_none (o_some (p_callB (z_cons (p_bin (p_var rfl (p_c (v_ok (u := ((dE (eL (eT2 fr fr))) plan1.1)) rfl (z_nil (v_ok len_l (o_int (l_slL (e := fr) (xs := r10) rfl (a_cons (x_sl (p_var rfl (o_some (p_callB (z_cons (p_bin (p_var rfl (p_c (v_ok (u := ((dE (eL (eT2 fr fr))) plan1.1)) rfl (z_nil (v_ok len_l (o_int (o_none (l_slL (e := fr) (xs := r10) rfl (a_nil (l_tup ((fun s : ((List Rat) × (List Rat)) => T.ot [(oL (dE fr)) (s.1), (oL (dE fr)) (s.2)]) ((tCut r10 none (some (tLen plan1.1))), (tCut r10 (some (tLen plan1.1)) none))) (by rfl) (f_ret (a := ((tCut r10 none (some (tLen plan1.1))), (tCut r10 (some (tLen plan1.1)) none))) (F := (fun a : ((List Rat) × (List Rat)) => (fun s : ((List Rat) × (List Rat)) => T.ot [(oL (dE fr)) (s.1), (oL (dE fr)) (s.2)]) a)) (G := (fun a : ((List Rat) × (List Rat)) => [])) rfl (by rfl) (by rfl)))))))))))))))))))))))))))))))))))))))))))))))))))))))))))))))))))))))))))))))))))))))
@[irreducible] noncomputable def t_turned_about_2 (parts1 : (List Rat)) : R (List Rat) :=
  (tMapG (fun x2 => ((rMul (-1 : Rat) x2).nx.bind fun r3 => .ok r3 : R Rat)) parts1).bind fun r4 => .ok r4
theorem fn_t_turned_about_2 {parts1 : (List Rat)} : Fn m_turned_about_2 [(dE (eL fr)) parts1] (t_turned_about_2 parts1) (fun a : (List Rat) => (oL (dE fr)) a) (fun a => []) := by
  unfold m_turned_about_2 t_turned_about_2
  exact fn_j (p := [some ((dE (eL fr)) parts1), none]) rfl (s_ret (x_lc (i_list (x_d rfl (i_on dmapI (l_map (F := (dE fr)) (G := (dE fr)) (q := [some ((dE (eL fr)) parts1), none]) (wk_some (wk_none wk_nil)) rfl (fun x2 => g_name (x_call (b_cons (x_lift (p_cv (v := fr (-1 : Rat)) (by rfl) (x_onlyD (b_cons (x_d rfl (b_nil (c_end rfl fn_times rfl (fun _ => rfl) fun r3 => e_m (by rfl) (wk_some (wk_none wk_nil)))))))))))) fun r4 => f_ret (a := r4) (F := (fun a : (List Rat) => (oL (dE fr)) a)) (G := (fun a : (List Rat) => [])) rfl (by rfl) (by rfl)))))))
@[irreducible] noncomputable def t__law_due_9 (plan1 : ((List (Rat × Rat)) × (List (Rat × Rat)) × (List ((List Rat) × (List Rat) × Rat)))) (chain2 : (List (Int × Int))) (least3 : Rat) (greatest4 : Rat) : R (List ((List Rat) × (List Rat) × Rat)) :=
  (tCat plan1.1 plan1.2.1).bind fun v5 => (tMapG (fun x6 => (.ok (0 : Int) : R Int)) v5).bind fun r7 => (tFold (fun (s8 : (List Int)) x9 => ((tIdx s8 x9.1).bind fun x10 => (tSet s8 x9.1 (x10 + x9.2)).bind fun parts11 => .ok (parts11) : R (List Int))) chain2 (r7)).bind fun s12 => (tMapG (fun x13 => (.ok ((x13 : Int) : Rat) : R Rat)) (tCut s12 none (some (tLen plan1.1)))).bind fun r14 => (tMapG (fun x15 => (.ok ((x15 : Int) : Rat) : R Rat)) (tCut s12 (some (tLen plan1.1)) none)).bind fun r16 => (tMapG (fun x17 => (.ok ((((0 : Int) - x17) : Int) : Rat) : R Rat)) (tCut s12 none (some (tLen plan1.1)))).bind fun r18 => (tMapG (fun x19 => (.ok ((((0 : Int) - x19) : Int) : Rat) : R Rat)) (tCut s12 (some (tLen plan1.1)) none)).bind fun r20 => .ok ([(r14, r16, (-least3)), (r18, r20, greatest4)])
theorem fn_t__law_due_9 {plan1 : ((List (Rat × Rat)) × (List (Rat × Rat)) × (List ((List Rat) × (List Rat) × Rat)))} {chain2 : (List (Int × Int))} {least3 : Rat} {greatest4 : Rat} : Fn m__law_due_9 [(dE (eT3 (eL (eT2 fr fr)) (eL (eT2 fr fr)) (eL (eT3 (eL fr) (eL fr) fr)))) plan1, (dE (eL (eT2 eI eI))) chain2, (dE fr) least3, (dE fr) greatest4] (t__law_due_9 plan1 chain2 least3 greatest4) (fun a : (List ((List Rat) × (List Rat) × Rat)) => (dE (eL (eT3 (eL fr) (eL fr) fr))) a) (fun a => []) := by
  unfold m__law_due_9 t__law_due_9
  exact fn_j (p := [some ((dE (eT3 (eL (eT2 fr fr)) (eL (eT2 fr fr)) (eL (eT3 (eL fr) (eL fr) fr)))) plan1), some ((dE (eL (eT2 eI eI))) chain2), some ((dE fr) least3), some ((dE fr) greatest4), none, none, none, none, none, none, none]) rfl (J.wk (q := [some ((dE (eT3 (eL (eT2 fr fr)) (eL (eT2 fr fr)) (eL (eT3 (eL fr) (eL fr) fr)))) plan1), some ((dE (eL (eT2 eI eI))) chain2), some ((dE fr) least3), some ((dE fr) greatest4), none, none, none, none, none, none, none]) (wk_some (wk_some (wk_some (wk_some (wk_none (wk_none (wk_none (wk_none (wk_none (wk_none (wk_none wk_nil))))))))))) (s_seq (s_asg (x_lc (i_list (x_mfz (x_bin (x_lift (p_bin (p_var rfl (p_c (v_ok (u := ((dE (eL (eT2 fr fr))) plan1.1)) rfl (x_onlyD (x_lift (p_bin (p_var rfl (p_c (v_ok (u := ((dE (eL (eT2 fr fr))) plan1.2.1)) rfl (x_onlyD (o_rN (ro_cat lst_d lst_d) fun v5 => x_frz (fz_ol fun _ => fz_d) (i_on dmapI (l_map (F := (dE (eT2 fr fr))) (G := (dE eI)) (q := [some ((dE (eT3 (eL (eT2 fr fr)) (eL (eT2 fr fr)) (eL (eT3 (eL fr) (eL fr) fr)))) plan1), some ((dE (eL (eT2 eI eI))) chain2), some ((dE fr) least3), some ((dE fr) greatest4), none, none, none, none, none, none, none]) (wk_some (wk_some (wk_some (wk_some (wk_none (wk_none (wk_none (wk_none (wk_none (wk_none (wk_none wk_nil))))))))))) rfl (fun x6 => g_name (x_lift (p_c (x_onlyD (e_m (by rfl) (wk_some (wk_some (wk_some (wk_some (wk_none (wk_none (wk_none (wk_none (wk_none (wk_none (wk_none wk_nil)))))))))))))))) fun r7 => g_name (n_seq (s_seq (s_for (i_list (x_d rfl (i_on dmapI (l_for (F := (dE (eT2 eI eI))) (q := fun s8 : (List Int) => [some ((dE (eT3 (eL (eT2 fr fr)) (eL (eT2 fr fr)) (eL (eT3 (eL fr) (eL fr) fr)))) plan1), some ((dE (eL (eT2 eI eI))) chain2), some ((dE fr) least3), some ((dE fr) greatest4), some ((oL (dE eI)) s8), none, none, none, none, none, none]) (wk_some (wk_some (wk_some (wk_some (wk_some (wk_none (wk_none (wk_none (wk_none (wk_none (wk_none wk_nil))))))))))) (fun s8 x9 => g_tup rfl rfl (g_cons (g_name (g_cons (g_name (g_nil (s_asg (x_lift (p_bin (p_bin (p_var rfl (p_var rfl (v_r ro_idxO fun x10 => p_var rfl (v_ok rfl (x_onlyD (g_item (f := (dE eI)) (xs := s8) (x := (x10 + x9.2)) rfl rfl (pv_var rfl) fun parts11 => e_cN (wk_some (wk_some (wk_some (wk_some (wk_some (wk_none (wk_none (wk_none (wk_none (wk_none (wk_none wk_nil))))))))))))))))))))))))))) fun s12 => n_seq (s_seq (s_asg (x_lift (p_callB (z_cons (p_bin (p_var rfl (p_c (v_ok (u := ((dE (eL (eT2 fr fr))) plan1.1)) rfl (z_nil (v_ok len_l (x_onlyD (g_name (n_seq (s_seq (s_asg (x_tupO (a_cons (x_mfz (x_lc (i_list (x_mfz (x_sl (p_var rfl (o_none (o_some (p_var rfl (o_int (l_slL (e := eI) (xs := s12) sl_o (x_frz (fz_ol fun _ => fz_d) (i_on dmapI (l_map (F := (dE eI)) (G := (dE fr)) (q := [some ((dE (eT3 (eL (eT2 fr fr)) (eL (eT2 fr fr)) (eL (eT3 (eL fr) (eL fr) fr)))) plan1), some ((dE (eL (eT2 eI eI))) chain2), some ((dE fr) least3), some ((dE fr) greatest4), some ((oL (dE eI)) s12), some ((dE eI) (tLen plan1.1)), none, none, none, none, none]) (wk_some (wk_some (wk_some (wk_some (wk_some (wk_some (wk_none (wk_none (wk_none (wk_none (wk_none wk_nil))))))))))) rfl (fun x13 => g_name (x_tupO (a_cons (x_d rfl (a_cons (x_lift (p_c (x_onlyD (a_nil (l_tup (.d (fr ((x13 : Int) : Rat))) (by rfl) (e_m (by rfl) (wk_some (wk_some (wk_some (wk_some (wk_some (wk_some (wk_none (wk_none (wk_none (wk_none (wk_none wk_nil)))))))))))))))))))))) fun r14 => x_frz (fz_ol fun _ => fz_d) (a_cons (x_mfz (x_lc (i_list (x_mfz (x_sl (p_var rfl (o_some (p_var rfl (o_int (o_none (l_slL (e := eI) (xs := s12) sl_o (x_frz (fz_ol fun _ => fz_d) (i_on dmapI (l_map (F := (dE eI)) (G := (dE fr)) (q := [some ((dE (eT3 (eL (eT2 fr fr)) (eL (eT2 fr fr)) (eL (eT3 (eL fr) (eL fr) fr)))) plan1), some ((dE (eL (eT2 eI eI))) chain2), some ((dE fr) least3), some ((dE fr) greatest4), some ((oL (dE eI)) s12), some ((dE eI) (tLen plan1.1)), none, none, none, none, none]) (wk_some (wk_some (wk_some (wk_some (wk_some (wk_some (wk_none (wk_none (wk_none (wk_none (wk_none wk_nil))))))))))) rfl (fun x15 => g_name (x_tupO (a_cons (x_d rfl (a_cons (x_lift (p_c (x_onlyD (a_nil (l_tup (.d (fr ((x15 : Int) : Rat))) (by rfl) (e_m (by rfl) (wk_some (wk_some (wk_some (wk_some (wk_some (wk_some (wk_none (wk_none (wk_none (wk_none (wk_none wk_nil)))))))))))))))))))))) fun r16 => x_frz (fz_ol fun _ => fz_d) (a_cons (x_tupO (a_cons (x_lift (p_bin (p_c (p_bin (p_var rfl (p_c (v_ok (u := ((dE eI) (Rat.num least3))) rfl (v_ok rfl (x_onlyD (a_cons (x_lift (p_bin (p_var rfl (p_c (v_ok (u := ((dE eI) ((Rat.den least3 : Nat) : Int))) rfl (x_onlyD (a_nil (l_tup (.d (fr (-least3))) tup_neg (a_nil (l_tup ((dE (eT3 (eL fr) (eL fr) fr)) (r14, r16, (-least3))) (by rfl) (g_name (n_seq (s_ret (x_mfz (x_lstO (a_cons (x_d rfl (a_cons (x_tupO (a_cons (x_mfz (x_lc (i_list (x_mfz (x_sl (p_var rfl (o_none (o_some (p_var rfl (o_int (l_slL (e := eI) (xs := s12) sl_o (x_frz (fz_ol fun _ => fz_d) (i_on dmapI (l_map (F := (dE eI)) (G := (dE fr)) (q := [some ((dE (eT3 (eL (eT2 fr fr)) (eL (eT2 fr fr)) (eL (eT3 (eL fr) (eL fr) fr)))) plan1), some ((dE (eL (eT2 eI eI))) chain2), some ((dE fr) least3), some ((dE fr) greatest4), some ((oL (dE eI)) s12), some ((dE eI) (tLen plan1.1)), some ((dE (eT3 (eL fr) (eL fr) fr)) (r14, r16, (-least3))), none, none, none, none]) (wk_some (wk_some (wk_some (wk_some (wk_some (wk_some (wk_some (wk_none (wk_none (wk_none (wk_none wk_nil))))))))))) rfl (fun x17 => g_name (x_tupO (a_cons (x_lift (p_bin (p_c (p_var rfl (v_ok rfl (x_onlyD (a_cons (x_lift (p_c (x_onlyD (a_nil (l_tup (.d (fr ((((0 : Int) - x17) : Int) : Rat))) (by rfl) (e_m (by rfl) (wk_some (wk_some (wk_some (wk_some (wk_some (wk_some (wk_some (wk_none (wk_none (wk_none (wk_none wk_nil))))))))))))))))))))))))))) fun r18 => x_frz (fz_ol fun _ => fz_d) (a_cons (x_mfz (x_lc (i_list (x_mfz (x_sl (p_var rfl (o_some (p_var rfl (o_int (o_none (l_slL (e := eI) (xs := s12) sl_o (x_frz (fz_ol fun _ => fz_d) (i_on dmapI (l_map (F := (dE eI)) (G := (dE fr)) (q := [some ((dE (eT3 (eL (eT2 fr fr)) (eL (eT2 fr fr)) (eL (eT3 (eL fr) (eL fr) fr)))) plan1), some ((dE (eL (eT2 eI eI))) chain2), some ((dE fr) least3), some ((dE fr) greatest4), some ((oL (dE eI)) s12), some ((dE eI) (tLen plan1.1)), some ((dE (eT3 (eL fr) (eL fr) fr)) (r14, r16, (-least3))), none, none, none, none]) (wk_some (wk_some (wk_some (wk_some (wk_some (wk_some (wk_some (wk_none (wk_none (wk_none (wk_none wk_nil))))))))))) rfl (fun x19 => g_name (x_tupO (a_cons (x_lift (p_bin (p_c (p_var rfl (v_ok rfl (x_onlyD (a_cons (x_lift (p_c (x_onlyD (a_nil (l_tup (.d (fr ((((0 : Int) - x19) : Int) : Rat))) (by rfl) (e_m (by rfl) (wk_some (wk_some (wk_some (wk_some (wk_some (wk_some (wk_some (wk_none (wk_none (wk_none (wk_none wk_nil))))))))))))))))))))))))))) fun r20 => x_frz (fz_ol fun _ => fz_d) (a_cons (x_d rfl (a_nil (l_tup ((dE (eT3 (eL fr) (eL fr) fr)) (r18, r20, greatest4)) (by rfl) (a_nil (l_lst (f := (dE (eT3 (eL fr) (eL fr) fr))) ([(r14, r16, (-least3)), (r18, r20, greatest4)]) (by rfl) (x_frz (fz_ol fun _ => fz_d) (f_ret (a := ([(r14, r16, (-least3)), (r18, r20, greatest4)])) (F := (fun a : (List ((List Rat) × (List Rat) × Rat)) => (dE (eL (eT3 (eL fr) (eL fr) fr))) a)) (G := (fun a : (List ((List Rat) × (List Rat) × Rat)) => [])) rfl (by rfl) (by rfl)))))))))))))))))))))))))))))))))))))))))))))))))))))))))))))))))))))))))))))))))))))))))))))))))))))))))))))))))))))))))))))))))))))))))))))))))))
end Sr
namespace Sr
open PySem PySem.Spec PyProof.Rows L2 L3 L4
noncomputable def dot2 (xs ys : List Rat) : Rat := (xs.zip ys).foldl (fun s x => s + x.1 * x.2) 0
theorem sum_core2 {xs ys : List Rat} {b c bd cd : Nat} (hx : ∀ q ∈ xs, hq q ≤ b ∧ dq q ≤ bd) (hy : ∀ q ∈ ys, hq q ≤ c ∧ dq q ≤ cd) (hl : 1 + xs.length * (b + c + 1) ≤ 400000) (hd : 1 + xs.length * (bd + cd) ≤ 9000) :
    tFold (fun (s3 : Rat) (x4 : Rat × Rat) => ((rMul x4.1 x4.2).nx.bind fun r5 => (rAdd s3 r5).nx.bind fun r6 => .ok (r6) : R Rat)) (xs.zip ys) 0 = .ok (dot2 xs ys) ∧ hq (dot2 xs ys) ≤ 1 + xs.length * (b + c + 1) ∧ dq (dot2 xs ys) ≤ 1 + xs.length * (bd + cd) := by
  have hz : (xs.zip ys).length ≤ xs.length := by simp; omega
  have go : ∀ (zs : List (Rat × Rat)) (j : Nat) (s : Rat), (∀ x ∈ zs, (hq x.1 ≤ b ∧ dq x.1 ≤ bd) ∧ hq x.2 ≤ c ∧ dq x.2 ≤ cd) → hq s ≤ 1 + j * (b + c + 1) → dq s ≤ 1 + j * (bd + cd) → j + zs.length ≤ xs.length → tFold (fun (s3 : Rat) (x4 : Rat × Rat) => ((rMul x4.1 x4.2).nx.bind fun r5 => (rAdd s3 r5).nx.bind fun r6 => .ok (r6) : R Rat)) zs s = .ok (zs.foldl (fun s x => s + x.1 * x.2) s) ∧ hq (zs.foldl (fun s x => s + x.1 * x.2) s) ≤ 1 + (j + zs.length) * (b + c + 1) ∧ dq (zs.foldl (fun s x => s + x.1 * x.2) s) ≤ 1 + (j + zs.length) * (bd + cd) := by
    intro zs
    induction zs with
    | nil => intro j s _ h h' _; exact ⟨rfl, h, h'⟩
    | cons x zs ih =>
      intro j s hb h h' hj
      rw [List.length_cons] at hj
      obtain ⟨⟨hu, hu'⟩, hv, hv'⟩ := hb x List.mem_cons_self
      have h1 : (j + 1) * (b + c + 1) ≤ xs.length * (b + c + 1) := Nat.mul_le_mul_right _ (by omega)
      have h2 : (j + 1) * (bd + cd) ≤ xs.length * (bd + cd) := Nat.mul_le_mul_right _ (by omega)
      have h3 : (j + 1) * (b + c + 1) = j * (b + c + 1) + (b + c + 1) := Nat.succ_mul ..
      have h4 : (j + 1) * (bd + cd) = j * (bd + cd) + (bd + cd) := Nat.succ_mul ..
      have hm := hq_mul x.1 x.2
      have ha := hq_add s (x.1 * x.2)
      have hm' := dq_mul x.1 x.2
      have ha' := dq_add s (x.1 * x.2)
      have e : ((rMul x.1 x.2).nx.bind fun r5 => (rAdd s r5).nx.bind fun r6 => .ok (r6) : R Rat) = .ok (s + x.1 * x.2) := eq_of_then (by
        refine st_timesW (by omega) (by omega) fun z1 e1 g1 g2 => ?_
        refine st_addW (by omega) (by omega) fun z2 e2 g2 g3 => ?_
        subst e1
        exact e2)
      obtain ⟨i1, i2, i3⟩ := ih (j + 1) (s + x.1 * x.2) (fun y hy => hb y (List.mem_cons_of_mem _ hy)) (by omega) (by omega) (by omega)
      refine ⟨?_, ?_⟩
      · unfold tFold
        rw [e]
        exact i1
      · rw [List.foldl_cons, List.length_cons, show j + (zs.length + 1) = j + 1 + zs.length by omega]
        exact ⟨i2, i3⟩
  obtain ⟨g1, g2, g3⟩ := go (xs.zip ys) 0 0 (fun x hx' => ⟨hx _ (List.of_mem_zip hx').1, hy _ (List.of_mem_zip hx').2⟩) (by have := hq_zero; omega) (by have := dq_zero; omega) (by omega)
  refine ⟨g1, Nat.le_trans g2 ?_, Nat.le_trans g3 ?_⟩
  · rw [Nat.zero_add]
    exact Nat.add_le_add_left (Nat.mul_le_mul_right _ hz) _
  · rw [Nat.zero_add]
    exact Nat.add_le_add_left (Nat.mul_le_mul_right _ hz) _
def Lz (h d : Nat) (xs : List Rat) : Prop := ∀ q ∈ xs, hq q ≤ h ∧ dq q ≤ d
theorem Lz.of {h : Nat} {xs : List Rat} (k : ∀ q ∈ xs, hq q ≤ h) : Lz h h xs := fun q hq' => ⟨k q hq', Nat.le_trans (dq_hq q) (k q hq')⟩
theorem Lz.mono {h d h' d' : Nat} {xs : List Rat} (k : Lz h d xs) (a : h ≤ h') (b : d ≤ d') : Lz h' d' xs := fun q hq' => ⟨Nat.le_trans (k q hq').1 a, Nat.le_trans (k q hq').2 b⟩
def unitR (n i : Nat) (x : Rat) : List Rat := (List.replicate n 0).set i x
noncomputable def pinsR (n : Nat) (i : Nat) (s : Rat × Rat) : List (List Rat × Rat) := [(unitR n i 1, 0 - s.1), (unitR n i (-1), s.2)]
noncomputable def wantsR (P : PlanR) (M : List Rat) : List (List Rat × Rat) := P.2.2.map fun w => (w.2.1, dot2 w.1 M + w.2.2)
noncomputable def pinAll (n : Nat) : List (Rat × Rat) → Nat → List (List Rat × Rat)
  | [], _ => []
  | s :: ss, i => pinsR n i s ++ pinAll n ss (i + 1)
noncomputable def rowsOf (P : PlanR) (M : List Rat) : List (List Rat × Rat) := wantsR P M ++ pinAll P.2.1.length P.2.1 0
structure Szs (a b bd c cd : Nat) (P : PlanR) (M : List Rat) : Prop where
  w : ∀ w ∈ P.2.2, w.1.length ≤ 6 ∧ Lz a a w.1 ∧ hq w.2.2 ≤ b ∧ dq w.2.2 ≤ bd
  wb : ∀ w ∈ P.2.2, w.2.1.length = P.2.1.length ∧ ∀ q ∈ w.2.1, hq q ≤ a
  s : ∀ x ∈ P.2.1, (hq x.1 ≤ b ∧ dq x.1 ≤ bd) ∧ hq x.2 ≤ b ∧ dq x.2 ≤ bd
  m : Lz c cd M
  lw : P.2.2.length ≤ 40
  ls : P.2.1.length ≤ 3
  n1 : 1 ≤ a
  n2 : 6 * a + (6 * (a + cd) + bd + 3) ≤ 1110
  n3 : 6 * (a + c + 1) + b + 3 ≤ 20000
theorem Szs.sum {a b bd c cd : Nat} {P : PlanR} {M : List Rat} (h : Szs a b bd c cd P M) {w : List Rat × List Rat × Rat} (hw : w ∈ P.2.2) : 1 + w.1.length * (a + c + 1) ≤ 400000 ∧ 1 + w.1.length * (a + cd) ≤ 9000 ∧ hq (dot2 w.1 M) ≤ 6 * (a + c + 1) + 1 ∧ dq (dot2 w.1 M) ≤ 6 * (a + cd) + 1 := by
  obtain ⟨w1, w2, w3, w4⟩ := h.w w hw
  have n2 := h.n2
  have n3 := h.n3
  have hmul : w.1.length * (a + c + 1) ≤ 6 * (a + c + 1) := Nat.mul_le_mul_right _ (by omega)
  have hmul2 : w.1.length * (a + cd) ≤ 6 * (a + cd) := Nat.mul_le_mul_right _ (by omega)
  have sc := sum_core2 w2 h.m (by omega) (by omega)
  exact ⟨by omega, by omega, by omega, by omega⟩
theorem unit_len {n i : Nat} {x : Rat} : (unitR n i x).length = n := by unfold unitR; rw [List.length_set, List.length_replicate]
theorem unit_mem {n i : Nat} {x y : Rat} (h : y ∈ unitR n i x) : y = 0 ∨ y = x := by
  unfold unitR at h
  rcases List.mem_or_eq_of_mem_set h with z | z
  · exact .inl (List.eq_of_mem_replicate z)
  · exact .inr z
theorem pinAll_mem {n : Nat} {r : List Rat × Rat} : ∀ {ss : List (Rat × Rat)} {i : Nat}, r ∈ pinAll n ss i → ∃ s ∈ ss, ∃ j, r = (unitR n j 1, 0 - s.1) ∨ r = (unitR n j (-1), s.2)
  | [], _, h => by simp [pinAll] at h
  | y :: ss, i, h => by
    rw [pinAll] at h
    rcases List.mem_append.mp h with z | z
    · refine ⟨y, List.mem_cons_self, i, ?_⟩
      unfold pinsR at z
      simpa using z
    · obtain ⟨s, hs, j, e⟩ := pinAll_mem z
      exact ⟨s, List.mem_cons_of_mem _ hs, j, e⟩
structure Rz (f a c e : Nat) (rows : List (List Rat × Rat)) : Prop where
  hl : ∀ r ∈ rows, r.1.length = f
  hs : ∀ r ∈ rows, ∀ x ∈ r.1, hq x ≤ a
  hs2 : ∀ r ∈ rows, hq r.2 ≤ c
  hs3 : ∀ r ∈ rows, dq r.2 ≤ e
theorem Szs.rz {a b bd c cd : Nat} {P : PlanR} {M : List Rat} (h : Szs a b bd c cd P M) : Rz P.2.1.length a (6 * (a + c + 1) + b + 3) (6 * (a + cd) + bd + 3) (rowsOf P M) := by
  have hz := hq_zero
  have h1 := hq_one
  have h2 := hq_lone
  have dz := dq_zero
  have n1 := h.n1
  have cases : ∀ r ∈ rowsOf P M, (∃ w ∈ P.2.2, r = (w.2.1, dot2 w.1 M + w.2.2)) ∨ ∃ s ∈ P.2.1, ∃ j, r = (unitR P.2.1.length j 1, 0 - s.1) ∨ r = (unitR P.2.1.length j (-1), s.2) := by
    intro r hr
    unfold rowsOf wantsR at hr
    rcases List.mem_append.mp hr with z | z
    · obtain ⟨w, hw, e⟩ := List.mem_map.mp z
      exact .inl ⟨w, hw, e.symm⟩
    · exact .inr (pinAll_mem z)
  refine ⟨fun r hr => ?_, fun r hr x hx => ?_, fun r hr => ?_, fun r hr => ?_⟩
  · rcases cases r hr with ⟨w, hw, e⟩ | ⟨s, _, j, e | e⟩ <;> subst e
    · exact (h.wb w hw).1
    · exact unit_len
    · exact unit_len
  · rcases cases r hr with ⟨w, hw, e⟩ | ⟨s, _, j, e | e⟩ <;> subst e
    · exact (h.wb w hw).2 x hx
    · rcases unit_mem hx with y | y <;> subst y <;> omega
    · rcases unit_mem hx with y | y <;> subst y <;> omega
  · rcases cases r hr with ⟨w, hw, e⟩ | ⟨s, hs, j, e | e⟩ <;> subst e
    · have := (h.sum hw).2.2.1
      have := (h.w w hw).2.2.1
      have := hq_add (dot2 w.1 M) w.2.2
      show hq (dot2 w.1 M + w.2.2) ≤ _
      omega
    · have := (h.s s hs).1.1
      have := hq_sub 0 s.1
      show hq (0 - s.1) ≤ _
      omega
    · have := (h.s s hs).2.1
      show hq s.2 ≤ _
      omega
  · rcases cases r hr with ⟨w, hw, e⟩ | ⟨s, hs, j, e | e⟩ <;> subst e
    · have := (h.sum hw).2.2.2
      have := (h.w w hw).2.2.2
      have := dq_add (dot2 w.1 M) w.2.2
      show dq (dot2 w.1 M + w.2.2) ≤ _
      omega
    · have := (h.s s hs).1.2
      have := dq_sub 0 s.1
      show dq (0 - s.1) ≤ _
      omega
    · have := (h.s s hs).2.2
      show dq s.2 ≤ _
      omega
end Sr
namespace Sr
open PySem PySem.Spec PyProof.Rows L2 L3 L4
end Sr
namespace Sr
open PySem PySem.Spec PyProof.Rows L2 L3 L4 Sx
def dotS : List Rat → List Rat → Rat
  | x :: xs, y :: ys => x * y + dotS xs ys
  | _, _ => 0
theorem dotF_rows {g : List Rat × Rat → Rat} {Y : Nat → Rat} : ∀ {l : List Rat} {rows : List (List Rat × Rat)} {n : Nat}, l.length = rows.length → (∀ k (hk : k < rows.length), Y (n + k) = g rows[k]) → dotF l n Y = dotS (rows.map g) l
  | [], [], n, _, _ => rfl
  | [], _ :: _, n, h, _ => by simp at h
  | _ :: _, [], n, h, _ => by simp at h
  | x :: l, r :: rows, n, h, hY => by
    have h0 := hY 0 (by simp)
    have e : dotF (x :: l) n Y = x * Y n + dotF l (n + 1) Y := rfl
    rw [e, List.map_cons, dotS, dotF_rows (g := g) (l := l) (rows := rows) (by simpa using h) fun k hk => by
      have := hY (k + 1) (by simp; omega)
      rw [show n + 1 + k = n + (k + 1) by omega, this]
      rfl]
    rw [Nat.add_zero] at h0
    rw [h0, Rat.mul_comm]
    rfl
theorem dotS_add {g1 g2 : List Rat × Rat → Rat} : ∀ {rows : List (List Rat × Rat)} {l : List Rat}, dotS (rows.map fun r => g1 r + g2 r) l = dotS (rows.map g1) l + dotS (rows.map g2) l
  | [], l => by
    show (0 : Rat) = 0 + 0
    grind
  | r :: rows, [] => by
    show (0 : Rat) = 0 + 0
    grind
  | r :: rows, x :: l => by
    rw [List.map_cons, List.map_cons, List.map_cons, dotS, dotS, dotS, dotS_add]
    grind
theorem Yp_at {rows : List (List Rat × Rat)} {f : Nat} (hl : ∀ r ∈ rows, r.1.length = f) (z : Nat → Rat) (k : Nat) (hk : k < rows.length) : Yp rows f z (f + k) = dotF rows[k].1 0 z + rows[k].2 := by
  have h := hl _ (List.getElem_mem hk)
  have e : dotF rows[k].1 0 (Yp rows f z) = dotF rows[k].1 0 z := dotF_congr fun j _ h2 => by
    unfold Yp
    rw [if_pos (by omega)]
  rw [space_Yp hl z k hk, e]
theorem bars_cols {rows : List (List Rat × Rat)} {f : Nat} {l : List Rat} (B : Bars rows f l) (hl : ∀ r ∈ rows, r.1.length = f) : dotS (rows.map Prod.snd) l < 0 ∧ ∀ i, i < f → dotS (rows.map fun r => r.1.getD i 0) l = 0 := by
  obtain ⟨c, hc, hY⟩ := B.neg
  have e0 := hY _ (space_Yp hl fun _ => 0)
  rw [dotF_rows (g := Prod.snd) B.len fun k hk => by
    rw [Yp_at hl (fun _ => 0) k hk, dotF_zero]
    exact Rat.zero_add _] at e0
  refine ⟨by rw [e0]; exact hc, fun i hi => ?_⟩
  have e1 := hY _ (space_Yp hl fun j => if j = i then 1 else 0)
  rw [dotF_rows (g := fun r => r.1.getD i 0 + r.2) B.len fun k hk => by
    rw [Yp_at hl (fun j => if j = i then 1 else 0) k hk, dotF_unit, if_pos (Nat.zero_le _), Nat.sub_zero]] at e1
  have e2 := dotS_add (g1 := fun r : List Rat × Rat => r.1.getD i 0) (g2 := Prod.snd) (rows := rows) (l := l)
  rw [e2, e0] at e1
  grind
end Sr
namespace Sr
open PySem PySem.Spec PyProof.Rows L2 L3 L4 Sx
theorem getD_hq {r : List Rat} {i a : Nat} (h : i < r.length) (ha : ∀ x ∈ r, hq x ≤ a) : hq (r.getD i 0) ≤ a := by
  rw [List.getD_eq_getElem?_getD, List.getElem?_eq_getElem h]
  exact ha _ (List.getElem_mem h)
structure Wz (rows : List (List Rat × Rat)) (l : List Rat) (f a c e W : Nat) : Prop where
  len : l.length = rows.length
  r : Rz f a c e rows
  hf : f ≤ 3
  hw : ∀ x ∈ l, hq x ≤ W
  n : rows.length ≤ 18
  s1 : 18 * (a + W + 1) + 1 ≤ 9000
  s2 : 18 * (e + W) + 1 ≤ 9000
  s3 : 18 * (c + W + 1) + 1 ≤ 390000
section
variable {rows : List (List Rat × Rat)} {l : List Rat} {f a c e W : Nat} (z : Wz rows l f a c e W)
include z
end
end Sr
namespace Sr
open PySem PySem.Spec PyProof.Rows L2 L3 L4 Sx
end Sr
namespace Sr
open PySem PySem.Spec PyProof.Rows L2 L3 L4
section
variable {E : Str → Prop}
abbrev Row := List Rat × List Rat × Rat
abbrev Plan := List (Rat × Rat) × List (Rat × Rat) × List Row
structure RowG (m f a c : Nat) (r : Row) : Prop where
  la : r.1.length = m
  lb : r.2.1.length = f
  sa : ∀ q ∈ r.1, hq q ≤ a
  sb : ∀ q ∈ r.2.1, hq q ≤ a
  sc : hq r.2.2 ≤ c
theorem RowG.mono {m f a c a' c' : Nat} {r : Row} (h : RowG m f a c r) (k : a ≤ a') (l : c ≤ c') : RowG m f a' c' r := ⟨h.la, h.lb, fun q hq => Nat.le_trans (h.sa q hq) k, fun q hq => Nat.le_trans (h.sb q hq) k, Nat.le_trans h.sc l⟩
theorem fold_okI {α σ : Type} {f : σ → α → R σ} {g : σ → α → σ} (I : Nat → σ → Prop) : ∀ {xs : List α} {i : Nat} {s : σ}, I i s → (∀ j s x, x ∈ xs → j < i + xs.length → I j s → f s x = .ok (g s x) ∧ I (j + 1) (g s x)) → tFold f xs s = .ok (xs.foldl g s) ∧ I (i + xs.length) (xs.foldl g s)
  | [], i, s, h, _ => ⟨rfl, h⟩
  | x :: xs, i, s, h, hs => by
    obtain ⟨e, h'⟩ := hs i s x List.mem_cons_self (by simp) h
    obtain ⟨e2, h2⟩ := fold_okI I (i := i + 1) h' fun j t y hy hj ht => hs j t y (List.mem_cons_of_mem _ hy) (by simp; omega) ht
    refine ⟨by unfold tFold; rw [e]; exact e2, ?_⟩
    rw [show i + (x :: xs).length = i + 1 + xs.length by simp; omega]
    exact h2
def plainR (r : Row) : Prop := (∀ q ∈ r.1 ++ r.2.1, q = 0) ∧ ¬ r.2.2 < 0
instance {r : Row} : Decidable (plainR r) := by unfold plainR; infer_instance
theorem isplain_ok {r : Row} {m f a c : Nat} (h : RowG m f a c r) (hm : m ≤ 1000) (hf : f ≤ 1000) (hb : c ≤ 8000) : t_is_plain r = .ok (decide (plainR r)) := by
  refine eq_of_then ?_
  unfold t_is_plain
  refine st_cat (by rw [h.la, h.lb]; omega) ?_
  refine st_loop (fun i _ => ∀ (j : Nat) (hj : j < (r.1 ++ r.2.1).length), j < i → (r.1 ++ r.2.1)[j] = 0) (fun _ => ∀ q ∈ r.1 ++ r.2.1, q = 0) (fun z => z = false ∧ ∃ q ∈ r.1 ++ r.2.1, q ≠ 0) (fun j hj h => absurd h (by omega)) (fun s hs q hq => ?_) (fun j x s hx hs => ?_) (fun s hs => ?_) (fun z hz => ?_)
  · obtain ⟨i, hi, e⟩ := List.getElem_of_mem hq
    rw [← e]
    exact hs i hi hi
  · obtain ⟨h1, h2⟩ := List.getElem?_eq_some_iff.mp hx
    by_cases e : x = 0
    · rw [if_neg (by simp [e])]
      intro i hi hj
      by_cases e2 : i = j
      · subst e2; rw [h2, e]
      · exact hs i hi (by omega)
    · rw [if_pos e]
      exact ⟨rfl, x, h2 ▸ List.getElem_mem _, e⟩
  · refine st_bind (Q := fun z => z = !decide (r.2.2 < 0)) ?_ fun z hz => ?_
    · exact st_lt (by have := h.sc; rw [hq_zero]; omega) rfl
    · show z = _
      rw [hz]
      unfold plainR
      by_cases c : r.2.2 < 0
      · simp [c]
      · rw [decide_eq_false c]
        exact (decide_eq_true ⟨hs, c⟩).symm
  · show z = _
    obtain ⟨e, q, h1, h2⟩ := hz
    rw [e]
    unfold plainR
    symm
    exact decide_eq_false fun k => h2 (k.1 q h1)
noncomputable def putR (rows : List Row) (r : Row) : List Row := if plainR r ∨ r ∈ rows then rows else rows ++ [r]
theorem puton_ok {rows : List Row} {r : Row} {m f a c : Nat} (h : RowG m f a c r) (hm : m ≤ 1000) (hf : f ≤ 1000) (hb : c ≤ 8000) (hl : rows.length < 16777216) : t_put_on rows r = .ok ((), putR rows r) := by
  refine eq_of_then ?_
  unfold t_put_on
  refine st_bind (Q := fun z => z = decide (¬ (plainR r ∨ r ∈ rows))) ?_ fun z hz => ?_
  · refine st_callE (isplain_ok h hm hf hb) ?_
    by_cases c : plainR r <;> simp [c]
  · subst hz
    unfold putR
    by_cases c : plainR r ∨ r ∈ rows
    · simp [c]
    · simp only [c, not_false_eq_true, decide_true, if_true, if_false]
      exact st_app hl rfl
theorem putR_len {rows : List Row} {r : Row} : (putR rows r).length ≤ rows.length + 1 := by
  unfold putR; split <;> simp
theorem putR_all {rows : List Row} {r : Row} {P : Row → Prop} (h : ∀ x ∈ rows, P x) (k : P r) : ∀ x ∈ putR rows r, P x := by
  unfold putR; split
  · exact h
  · intro x hx
    rcases List.mem_append.mp hx with e | e
    · exact h x e
    · simp at e; subst e; exact k
noncomputable def mixR (ones : List Rat) (many : Rat) (others : List Rat) (more : Rat) : List Rat := (ones.zip others).map fun x => x.1 * many + x.2 * more
theorem mixed_ok {xs ys : List Rat} {u v : Rat} {b : Nat} (hl : xs.length ≤ 1000) (h1 : ∀ q ∈ xs, hq q ≤ b) (h2 : ∀ q ∈ ys, hq q ≤ b) (hu : hq u ≤ b) (hv : hq v ≤ b) (hb : b ≤ 2000) : t_mixed xs u ys v = .ok (mixR xs u ys v) ∧ ∀ q ∈ mixR xs u ys v, hq q ≤ 4 * b + 1 := by
  have key : ∀ x ∈ xs.zip ys, Then ((rMul x.1 u).nx.bind fun r6 => (rMul x.2 v).nx.bind fun r7 => (rAdd r6 r7).nx.bind fun r8 => .ok r8 : R Rat) (fun z => z = x.1 * u + x.2 * v ∧ hq z ≤ 4 * b + 1) (fun _ => False) := by
    intro x hx
    obtain ⟨a, c⟩ := x
    have := h1 a (List.of_mem_zip hx).1
    have := h2 c (List.of_mem_zip hx).2
    dsimp only
    refine st_times (by omega) fun z1 e1 g1 => ?_
    refine st_times (by omega) fun z2 e2 g2 => ?_
    refine st_add (by omega) fun z3 e3 g3 => ?_
    subst e1 e2
    exact ⟨e3, by omega⟩
  constructor
  · refine eq_of_then ?_
    unfold t_mixed
    exact st_mapF (fun x => x.1 * u + x.2 * v) (by simp; omega) (fun x hx => eq_of_then ((key x hx).imp fun _ h => h.1)) rfl
  · intro q hq
    obtain ⟨x, hx, e⟩ := List.mem_map.mp hq
    have := key x hx
    obtain ⟨a, e1, e2, e3⟩ := of_then this
    rw [← e, ← e2]
    exact e3
theorem mixR_len {xs ys : List Rat} {u v : Rat} : (mixR xs u ys v).length = min xs.length ys.length := by simp [mixR]
noncomputable def partR (r : Row) (n : Nat) : Rat := r.2.1.getD n 0
noncomputable def takR (low high : Row) (n : Nat) : Row := (mixR low.1 (-partR high n) high.1 (partR low n), mixR low.2.1 (-partR high n) high.2.1 (partR low n), low.2.2 * (-partR high n) + high.2.2 * partR low n)
theorem st_part {δ : Type} {P : δ → Prop} {r : Row} {i : Int} {n : Nat} {m f a c : Nat} {k : Rat → R δ} (h : RowG m f a c r) (hi : i = n) (hn : n < f) (hk : hq (partR r n) ≤ a → Then (k (partR r n)) P E) : Then ((tIdx r.2.1 i).bind k) P E := by
  have hl : n < r.2.1.length := by rw [h.lb]; exact hn
  have e : partR r n = r.2.1[n] := by unfold partR; rw [List.getD_eq_getElem?_getD, List.getElem?_eq_getElem hl]; rfl
  refine st_idx n hi hl ?_
  rw [← e]
  exact hk (e ▸ h.sb _ (List.getElem_mem _))
theorem tak_ok {low high : Row} {k : Int} {n : Nat} {m f a c : Nat} (h1 : RowG m f a c low) (h2 : RowG m f a c high) (hk : k = n) (hn : n < f) (hm : m ≤ 1000) (hf : f ≤ 1000) (hb : a ≤ 2000) (hc : c ≤ 2000) : t_taken_together low high k = .ok (takR low high n) ∧ RowG m f (4 * a + 1) (2 * (a + c) + 1) (takR low high n) := by
  have : Then (t_taken_together low high k) (fun z => z = takR low high n ∧ RowG m f (4 * a + 1) (2 * (a + c) + 1) z) (fun _ => False) := by
    unfold t_taken_together
    refine st_part h2 hk hn fun s1 => ?_
    refine st_neg (by omega) fun z2 e2 g2 => ?_
    refine st_part h1 hk hn fun s3 => ?_
    have := h1.sc
    have := h2.sc
    refine st_times (by omega) fun z4 e4 g4 => ?_
    refine st_times (by omega) fun z5 e5 g5 => ?_
    refine st_add (by omega) fun z6 e6 g6 => ?_
    obtain ⟨m1, b1⟩ := mixed_ok (xs := low.1) (ys := high.1) (u := z2) (v := partR low n) (b := a) (by rw [h1.la]; exact hm) h1.sa h2.sa (by omega) s3 hb
    obtain ⟨m2, b2⟩ := mixed_ok (xs := low.2.1) (ys := high.2.1) (u := z2) (v := partR low n) (b := a) (by rw [h1.lb]; exact hf) h1.sb h2.sb (by omega) s3 hb
    refine st_callE m1 ?_
    refine st_callE m2 ?_
    refine ⟨by subst e2 e4 e5 e6; rfl, ⟨?_, ?_, b1, b2, by show hq z6 ≤ _; omega⟩⟩
    · show (mixR _ _ _ _).length = m
      rw [mixR_len, h1.la, h2.la]; simp
    · show (mixR _ _ _ _).length = f
      rw [mixR_len, h1.lb, h2.lb]; simp
  obtain ⟨a, e1, e2, e3⟩ := of_then this
  subst e2
  exact ⟨e1, e3⟩
noncomputable def leftR (lows highs zeros : List Row) (n : Nat) : List Row := lows.foldl (fun s l => highs.foldl (fun s h => putR s (takR l h n)) s) zeros
noncomputable def outR (rows : List Row) (n : Nat) : List Row × List Row × List Row :=
  (rows.filter fun r => decide (0 < partR r n), rows.filter fun r => decide (partR r n < 0), leftR (rows.filter fun r => decide (0 < partR r n)) (rows.filter fun r => decide (partR r n < 0)) (rows.filter fun r => decide (partR r n = 0)) n)
theorem rat_tri (q : Rat) : q < 0 ∨ q = 0 ∨ 0 < q := by grind
theorem three_len {n : Nat} : ∀ {rows : List Row}, (rows.filter fun r => decide (0 < partR r n)).length + (rows.filter fun r => decide (partR r n < 0)).length + (rows.filter fun r => decide (partR r n = 0)).length = rows.length
  | [] => rfl
  | r :: rows => by
    have ih := three_len (n := n) (rows := rows)
    rcases rat_tri (partR r n) with h | h | h
    · have h1 : ¬ 0 < partR r n := by grind
      have h2 : ¬ partR r n = 0 := by grind
      simp [h, h1, h2]; omega
    · simp [h, Rat.lt_irrefl]; omega
    · have h1 : ¬ partR r n < 0 := by grind
      have h2 : ¬ partR r n = 0 := by grind
      simp [h, h1, h2]; omega
def nL (n : Nat) : Nat := n + n * n / 4
theorem nL_le {a b c n : Nat} (h : a + b + c = n) : c + a * b ≤ nL n := by
  unfold nL
  have h1 : 4 * (a * b) ≤ n * n := by
    have h2 : (a + b) * (a + b) ≤ n * n := Nat.mul_le_mul (by omega) (by omega)
    have h3 : 4 * (a * b) ≤ (a + b) * (a + b) := by
      rcases Nat.le_total a b with h | h
      · obtain ⟨d, rfl⟩ := Nat.exists_eq_add_of_le h
        have : (a + (a + d)) * (a + (a + d)) = 4 * (a * (a + d)) + d * d := by grind
        omega
      · obtain ⟨d, rfl⟩ := Nat.exists_eq_add_of_le h
        have : (b + d + b) * (b + d + b) = 4 * ((b + d) * b) + d * d := by grind
        omega
    omega
  omega
theorem nL_mono {a b : Nat} (h : a ≤ b) : nL a ≤ nL b := by
  unfold nL
  have := Nat.mul_le_mul h h
  omega
theorem out_ok {rows : List Row} {k : Int} {n : Nat} {m f a c : Nat} (h : ∀ r ∈ rows, RowG m f a c r) (hk : k = n) (hn : n < f) (hm : m ≤ 1000) (hf : f ≤ 1000) (ha : a ≤ 1900) (hc : c ≤ 2000) (hl : rows.length ≤ 3000) :
    t_taken_out rows k = .ok (outR rows n) ∧ (∀ r ∈ (outR rows n).2.2, RowG m f (4 * a + 1) (2 * (a + c) + 1) r) ∧ (outR rows n).2.2.length ≤ nL rows.length := by
  have tl := three_len (rows := rows) (n := n)
  have key : Then (t_taken_out rows k) (fun z => z = outR rows n ∧ (∀ r ∈ z.2.2, RowG m f (4 * a + 1) (2 * (a + c) + 1) r) ∧ z.2.2.length ≤ nL rows.length) (fun _ => False) := by
    unfold t_taken_out
    refine st_fmF (fun r => decide (0 < partR r n)) (by omega) (fun r hr => eq_of_then (st_part (h r hr) hk hn fun s => st_lt (by rw [hq_zero]; omega) ?_)) ?_
    · by_cases c : 0 < partR r n <;> simp [c]
    refine st_fmF (fun r => decide (partR r n < 0)) (by omega) (fun r hr => eq_of_then (st_part (h r hr) hk hn fun s => st_lt (by rw [hq_zero]; omega) ?_)) ?_
    · by_cases c : partR r n < 0 <;> simp [c]
    refine st_fmF (fun r => decide (partR r n = 0)) (by omega) (fun r hr => eq_of_then (st_part (h r hr) hk hn fun s => ?_)) ?_
    · by_cases c : partR r n = 0 <;> simp [c]
    have sl : ∀ r ∈ rows.filter (fun r => decide (0 < partR r n)), RowG m f a c r := fun r hr => h r (List.mem_filter.mp hr).1
    have sh : ∀ r ∈ rows.filter (fun r => decide (partR r n < 0)), RowG m f a c r := fun r hr => h r (List.mem_filter.mp hr).1
    have sz : ∀ r ∈ rows.filter (fun r => decide (partR r n = 0)), RowG m f (4 * a + 1) (2 * (a + c) + 1) r := fun r hr => (h r (List.mem_filter.mp hr).1).mono (by omega) (by omega)
    unfold outR
    generalize rows.filter (fun r => decide (0 < partR r n)) = lows at *
    generalize rows.filter (fun r => decide (partR r n < 0)) = highs at *
    generalize rows.filter (fun r => decide (partR r n = 0)) = zeros at *
    have nl := nL_le (a := lows.length) (b := highs.length) (c := zeros.length) tl
    have nl2 : nL rows.length ≤ 2300000 := Nat.le_trans (nL_mono hl) (by decide)
    refine And.elim ?_ (fold_okI (f := fun (s14 : List Row) x15 => ((tFold (fun (s16 : List Row) x17 => ((t_taken_together x15 x17 k).nx.bind fun r18 => (t_put_on s16 r18).nx.bind fun r19 => .ok (r19.2) : R (List Row))) highs (s14)).bind fun s20 => .ok (s20) : R (List Row)))
      (g := fun s l => highs.foldl (fun s h => putR s (takR l h n)) s) (xs := lows) (i := 0) (s := zeros)
      (fun i s => (∀ r ∈ s, RowG m f (4 * a + 1) (2 * (a + c) + 1) r) ∧ s.length ≤ zeros.length + i * highs.length) ⟨sz, by omega⟩
      (fun j s l hl1 hj hsl => ?_))
    · intro e1 ⟨h1, h2⟩
      rw [e1]
      refine ⟨rfl, h1, Nat.le_trans h2 ?_⟩
      rw [Nat.zero_add]
      exact nl
    · obtain ⟨hs, ls⟩ := hsl
      have hlo := sl l hl1
      have hj2 : (j + 1) * highs.length ≤ lows.length * highs.length := Nat.mul_le_mul_right _ (by rw [Nat.zero_add] at hj; exact hj)
      have hj3 : (j + 1) * highs.length = j * highs.length + highs.length := Nat.succ_mul ..
      obtain ⟨e2, h3, h4⟩ := fold_okI (f := fun (s16 : List Row) x17 => ((t_taken_together l x17 k).nx.bind fun r18 => (t_put_on s16 r18).nx.bind fun r19 => .ok (r19.2) : R (List Row)))
        (g := fun s h => putR s (takR l h n)) (xs := highs) (i := 0) (s := s) (fun i s' => (∀ r ∈ s', RowG m f (4 * a + 1) (2 * (a + c) + 1) r) ∧ s'.length ≤ s.length + i) ⟨hs, by omega⟩ (fun i t x hx hi ⟨ht, lt⟩ => by
          have hi2 : i < highs.length := by rw [Nat.zero_add] at hi; exact hi
          obtain ⟨e4, r4⟩ := tak_ok hlo (sh x hx) hk hn hm hf (by omega) (by omega)
          have e5 := puton_ok (rows := t) r4 hm hf (by omega) (by omega)
          refine ⟨?_, putR_all ht r4, ?_⟩
          · rw [e4]; show (t_put_on t _).nx.bind _ = _; rw [e5]; rfl
          · have := putR_len (rows := t) (r := takR l x n)
            omega)
      refine ⟨?_, h3, ?_⟩
      · rw [e2]; rfl
      · refine Nat.le_trans h4 ?_
        rw [Nat.zero_add]
        omega
  obtain ⟨a, e1, e2, e3, e4⟩ := of_then key
  subst e2
  exact ⟨e1, e3, e4⟩
structure PlanG (m f a b c : Nat) (p : Plan) : Prop where
  la : p.1.length = m
  lb : p.2.1.length = f
  sa : ∀ x ∈ p.1, hq x.1 ≤ b ∧ hq x.2 ≤ b
  sb : ∀ x ∈ p.2.1, hq x.1 ≤ b ∧ hq x.2 ≤ b
  oa : ∀ x ∈ p.1, x.1 ≤ x.2
  ob : ∀ x ∈ p.2.1, x.1 ≤ x.2
  sd : ∀ r ∈ p.2.2, RowG m f a c r
noncomputable def bndR (p : Plan) (n : Nat) (s c : Rat) : Row := (p.1.map fun _ => 0, (p.2.1.map fun _ => 0).set n s, c)
theorem bound_ok {p : Plan} {k : Int} {n m f a b c b' : Nat} {s d : Rat} (h : PlanG m f a b c p) (hk : k = n) (hn : n < f) (hm : m ≤ 1000) (hf : f ≤ 1000) (hs : hq s ≤ a) (hc : hq d ≤ b') (hb : 1 ≤ a) : t_bound_row p k s d = .ok (bndR p n s d) ∧ RowG m f a b' (bndR p n s d) := by
  constructor
  · refine eq_of_then ?_
    unfold t_bound_row
    refine st_mapF (fun _ => 0) (by rw [h.lb]; omega) (fun _ _ => rfl) ?_
    refine st_set n hk (by simp [h.lb, hn]) ?_
    exact st_mapF (fun _ => 0) (by rw [h.la]; omega) (fun _ _ => rfl) rfl
  · refine ⟨by simp [bndR, h.la], by simp [bndR, h.lb], fun q hq' => ?_, fun q hq' => ?_, hc⟩
    · obtain ⟨_, _, e⟩ := List.mem_map.mp hq'
      subst e; rw [hq_zero]; exact hb
    · rcases List.mem_or_eq_of_mem_set hq' with e | e
      · obtain ⟨_, _, e⟩ := List.mem_map.mp e
        subst e; rw [hq_zero]; exact hb
      · subst e; exact hs
noncomputable def firstR (p : Plan) : List Row := (enumL p.2.1).foldl (fun s x => putR (putR s (bndR p x.1.toNat 1 (-x.2.1))) (bndR p x.1.toNat (-1) x.2.2)) (p.2.2.foldl putR [])
theorem first_ok {p : Plan} {m f a b c : Nat} (h : PlanG m f a b c p) (hm : m ≤ 1000) (hf : f ≤ 1000) (hb : 1 ≤ a) (hbc : b ≤ c) (hc : c ≤ 7000) (hl : p.2.2.length ≤ 10000) : t_first_rows p = .ok (firstR p) ∧ (∀ r ∈ firstR p, RowG m f a c r) ∧ (firstR p).length ≤ p.2.2.length + 2 * f := by
  refine And.elim ?_ (fold_okI (f := fun (s2 : List Row) (x3 : Row) => ((t_put_on s2 (x3.1, x3.2.1, x3.2.2)).nx.bind fun r4 => .ok (r4.2) : R (List Row))) (g := putR) (xs := p.2.2) (i := 0) (s := []) (fun i s => (∀ r ∈ s, RowG m f a c r) ∧ s.length ≤ i) ⟨by simp, by simp⟩ fun j s x hx hj hs => ?_)
  · intro e1 ⟨h1, h2⟩
    rw [Nat.zero_add] at h2
    refine And.elim ?_ (fold_okI (f := fun (s6 : List Row) (x7 : Int × Rat × Rat) => ((rSub (0 : Rat) x7.2.1).nx.bind fun r8 => (t_bound_row p x7.1 (1 : Rat) r8).nx.bind fun r9 => (t_put_on s6 r9).nx.bind fun r10 => (t_bound_row p x7.1 (-1 : Rat) x7.2.2).nx.bind fun r11 => (t_put_on r10.2 r11).nx.bind fun r12 => .ok (r12.2) : R (List Row)))
      (g := fun s x => putR (putR s (bndR p x.1.toNat 1 (-x.2.1))) (bndR p x.1.toNat (-1) x.2.2)) (xs := enumL p.2.1) (i := 0) (s := p.2.2.foldl putR []) (fun i s => (∀ r ∈ s, RowG m f a c r) ∧ s.length ≤ p.2.2.length + 2 * i) ⟨h1, by omega⟩ fun j s x hx hj hs => ?_)
    · intro e2 ⟨h3, h4⟩
      rw [Nat.zero_add, len_enumL, h.lb] at h4
      refine ⟨?_, h3, h4⟩
      unfold t_first_rows
      rw [e1, bind_okS, e2]
      rfl
    · obtain ⟨hs1, hs2⟩ := hs
      rw [len_enumL, h.lb] at hj
      obtain ⟨i, ei, hi, e⟩ := mem_enumL hx
      obtain ⟨b1, b2⟩ := h.sb _ (e ▸ List.getElem_mem hi)
      rw [h.lb] at hi
      have hi' : x.1.toNat < f := by omega
      have hk : x.1 = (x.1.toNat : Int) := by omega
      have o1 := bound_ok (s := 1) (d := -x.2.1) (b' := c) h hk hi' hm hf (by rw [hq_one]; omega) (by rw [hq_neg]; omega) hb
      have o2 := bound_ok (s := -1) (d := x.2.2) (b' := c) h hk hi' hm hf (by rw [hq_lone]; omega) (by omega) hb
      have p1 := putR_len (rows := s) (r := bndR p x.1.toNat 1 (-x.2.1))
      have p2 := putR_len (rows := putR s (bndR p x.1.toNat 1 (-x.2.1))) (r := bndR p x.1.toNat (-1) x.2.2)
      have c1 := puton_ok (rows := s) o1.2 hm hf (by omega) (by omega)
      have c2 := puton_ok (rows := putR s (bndR p x.1.toNat 1 (-x.2.1))) o2.2 hm hf (by omega) (by omega)
      refine ⟨eq_of_then ?_, putR_all (putR_all hs1 o1.2) o2.2, by omega⟩
      refine st_neg (by omega) fun z ez hz => ?_
      subst ez
      refine st_callE o1.1 ?_
      refine st_callE c1 ?_
      refine st_callE o2.1 ?_
      exact st_callE c2 rfl
  · obtain ⟨hs1, hs2⟩ := hs
    have hx' := h.sd x hx
    refine ⟨?_, putR_all hs1 hx', by have := putR_len (rows := s) (r := x); omega⟩
    show (t_put_on s x).nx.bind _ = _
    rw [puton_ok hx' hm hf (by omega) (by omega)]
    rfl
noncomputable def ruleR : Nat → List Row × List (List Row × List Row) → List Row × List (List Row × List Row)
  | 0, s => s
  | n + 1, s => ruleR n ((outR s.1 n).2.2, ((outR s.1 n).1, (outR s.1 n).2.1) :: s.2)
theorem dnI_succ {n : Nat} : dnI (((n + 1 : Nat) : Int) - 1) (-1) = (n : Int) :: dnI ((n : Int) - 1) (-1) := by
  unfold dnI
  rw [show (((n + 1 : Nat) : Int) - 1 - -1).toNat = n + 1 by omega, show ((n : Int) - 1 - -1).toNat = n by omega, List.range_succ_eq_map]
  simp
  intro a _
  omega
def gA : Nat → Nat → Nat
  | 0, a => a
  | n + 1, a => gA n (4 * a + 1)
def gC : Nat → Nat → Nat → Nat
  | 0, _, c => c
  | n + 1, a, c => gC n (4 * a + 1) (2 * (a + c) + 1)
def gL : Nat → Nat → Nat
  | 0, l => l
  | n + 1, l => gL n (nL l)
theorem le_gA {n a : Nat} : a ≤ gA n a := by
  induction n generalizing a with
  | zero => exact Nat.le_refl _
  | succ n ih => exact Nat.le_trans (by omega) ih
theorem le_gC {n a c : Nat} : c ≤ gC n a c := by
  induction n generalizing a c with
  | zero => exact Nat.le_refl _
  | succ n ih => exact Nat.le_trans (by omega) ih
theorem gL_mono {n : Nat} : ∀ {a b : Nat}, a ≤ b → gL n a ≤ gL n b := by
  induction n with
  | zero => exact id
  | succ n ih => intro a b h; exact ih (nL_mono h)
def StepsG (m f a c : Nat) : Nat → List (List Row × List Row) → Prop
  | _, [] => True
  | n, s :: ss => (∀ r ∈ s.1, RowG m f (gA n a) (gC n a c) r) ∧ (∀ r ∈ s.2, RowG m f (gA n a) (gC n a c) r) ∧ StepsG m f a c (n - 1) ss
theorem gA_out {n a : Nat} : gA n (4 * a + 1) = 4 * gA n a + 1 := by
  induction n generalizing a with
  | zero => rfl
  | succ n ih => exact ih
theorem gC_out {n a c : Nat} : gC n (4 * a + 1) (2 * (a + c) + 1) = 2 * (gA n a + gC n a c) + 1 := by
  induction n generalizing a c with
  | zero => rfl
  | succ n ih => exact ih
theorem rule_loop {m f : Nat} (hm : m ≤ 1000) (hf : f ≤ 1000) : ∀ (n : Nat) {rows : List Row} {steps : List (List Row × List Row)} {a c L : Nat}, n ≤ f → (∀ r ∈ rows, RowG m f a c r) → rows.length ≤ L → gA n a ≤ 7601 → gC n a c ≤ 4001 → gL n L ≤ 3000000 → L ≤ 3000 → (∀ k, k < n → gL k L ≤ 3000) → steps.length + n ≤ 2000 →
    tFold (fun (s4 : List Row × List (List Row × List Row)) x5 => ((t_taken_out s4.1 x5).nx.bind fun r6 => (tIns s4.2 (0 : Int) (r6.1, r6.2.1)).bind fun steps7 => .ok (r6.2.2, steps7) : R (List Row × List (List Row × List Row)))) (dnI ((n : Int) - 1) (-1)) (rows, steps) = .ok (ruleR n (rows, steps)) ∧ (∀ r ∈ (ruleR n (rows, steps)).1, RowG m f (gA n a) (gC n a c) r) ∧ (ruleR n (rows, steps)).1.length ≤ gL n L
  | 0, rows, steps, a, c, L, _, h, hl, _, _, _, _, _, _ => ⟨rfl, h, hl⟩
  | n + 1, rows, steps, a, c, L, hn, h, hl, h1, h1c, h2, hL, hk, h3 => by
    have lb : 4 * a + 1 ≤ 7601 := Nat.le_trans le_gA h1
    have lc : 2 * (a + c) + 1 ≤ 4001 := Nat.le_trans le_gC h1c
    obtain ⟨o1, o2, o3⟩ := out_ok (k := (n : Int)) (n := n) h rfl (by omega) hm hf (by omega) (by omega) (by omega)
    have o4 : (outR rows n).2.2.length ≤ nL L := Nat.le_trans o3 (nL_mono hl)
    obtain ⟨r1, r2, r3⟩ : tFold (fun (s4 : List Row × List (List Row × List Row)) x5 => ((t_taken_out s4.1 x5).nx.bind fun r6 => (tIns s4.2 (0 : Int) (r6.1, r6.2.1)).bind fun steps7 => .ok (r6.2.2, steps7) : R (List Row × List (List Row × List Row)))) (dnI ((n : Int) - 1) (-1)) ((outR rows n).2.2, ((outR rows n).1, (outR rows n).2.1) :: steps) = .ok (ruleR n ((outR rows n).2.2, ((outR rows n).1, (outR rows n).2.1) :: steps)) ∧ (∀ r ∈ (ruleR n ((outR rows n).2.2, ((outR rows n).1, (outR rows n).2.1) :: steps)).1, RowG m f (gA n (4 * a + 1)) (gC n (4 * a + 1) (2 * (a + c) + 1)) r) ∧ (ruleR n ((outR rows n).2.2, ((outR rows n).1, (outR rows n).2.1) :: steps)).1.length ≤ gL n (nL L) := by
      cases n with
      | zero => exact ⟨rfl, o2, o4⟩
      | succ n => exact rule_loop hm hf (n + 1) (by omega) o2 o4 h1 h1c h2 (hk 1 (by omega)) (fun k hk' => hk (k + 1) (by omega)) (by simp; omega)
    refine ⟨?_, r2, r3⟩
    rw [dnI_succ]
    unfold tFold
    rw [show ((t_taken_out rows n).nx.bind fun r6 => (tIns steps (0 : Int) (r6.1, r6.2.1)).bind fun steps7 => .ok (r6.2.2, steps7) : R (List Row × List (List Row × List Row))) = .ok ((outR rows n).2.2, ((outR rows n).1, (outR rows n).2.1) :: steps) from eq_of_then (st_callE o1 (st_ins0 (by omega) rfl))]
    exact r1
theorem steps_ok {m f : Nat} (hm : m ≤ 1000) (hf : f ≤ 1000) : ∀ (n : Nat) {rows : List Row} {steps : List (List Row × List Row)} {a c a0 c0 d L : Nat}, n ≤ f → (∀ r ∈ rows, RowG m f a c r) → rows.length ≤ L → a = gA d a0 → c = gC d a0 c0 → gA n a ≤ 7601 → gC n a c ≤ 4001 → (∀ k, k < n → gL k L ≤ 3000) → StepsG m f a0 c0 (d - 1) steps → (∀ s ∈ steps, s.1.length ≤ 3000) →
    StepsG m f a0 c0 (d + n - 1) (ruleR n (rows, steps)).2 ∧ ∀ s ∈ (ruleR n (rows, steps)).2, s.1.length ≤ 3000
  | 0, rows, steps, a, c, a0, c0, d, L, _, _, _, _, _, _, _, _, hs, hs2 => ⟨by rw [Nat.add_zero]; exact hs, hs2⟩
  | n + 1, rows, steps, a, c, a0, c0, d, L, hn, h, hl, ea, ec, h1, h1c, hk, hs, hs2 => by
    have lb : 4 * a + 1 ≤ 7601 := Nat.le_trans le_gA h1
    have lc : 2 * (a + c) + 1 ≤ 4001 := Nat.le_trans le_gC h1c
    have hL := hk 0 (by omega)
    have hL : L ≤ 3000 := hL
    obtain ⟨o1, o2, o3⟩ := out_ok (k := (n : Int)) (n := n) h rfl (by omega) hm hf (by omega) (by omega) (by omega)
    have o4 : (outR rows n).2.2.length ≤ nL L := Nat.le_trans o3 (nL_mono hl)
    have := steps_ok hm hf n (rows := (outR rows n).2.2) (steps := ((outR rows n).1, (outR rows n).2.1) :: steps) (a := 4 * a + 1) (c := 2 * (a + c) + 1) (a0 := a0) (c0 := c0) (d := d + 1) (L := nL L) (by omega) o2 o4 (by rw [ea]; exact gA_out.symm) (by rw [ea, ec]; exact gC_out.symm) h1 h1c (fun k hk' => hk (k + 1) (by omega)) ⟨fun r hr => ?_, fun r hr => ?_, ?_⟩ fun s hs' => ?_
    · rw [show d + (n + 1) - 1 = d + 1 + n - 1 by omega]
      exact this
    · rw [show d + 1 - 1 = d by omega, ← ea, ← ec]
      exact h r (List.mem_filter.mp hr).1
    · rw [show d + 1 - 1 = d by omega, ← ea, ← ec]
      exact h r (List.mem_filter.mp hr).1
    · rw [show d + 1 - 1 - 1 = d - 1 by omega]; exact hs
    · rcases List.mem_cons.mp hs' with e | e
      · subst e
        exact Nat.le_trans (List.length_filter_le ..) (by omega)
      · exact hs2 s e
theorem rule_ok {p : Plan} {m f a b c : Nat} (h : PlanG m f a b c p) (hm : m ≤ 1000) (hf : f ≤ 1000) (hb : 1 ≤ a) (hbc : b ≤ c) (hc : c ≤ 7000) (hl : p.2.2.length ≤ 1000) (h1 : gA f a ≤ 7601) (h1c : gC f a c ≤ 4001) (h2 : gL f (p.2.2.length + 2 * f) ≤ 3000000) (h3 : p.2.2.length + 2 * f ≤ 3000) (hk : ∀ k, k < f → gL k (p.2.2.length + 2 * f) ≤ 3000) :
    t_rule_of p = .ok ((ruleR f (firstR p, [])).2, (ruleR f (firstR p, [])).1) ∧ (∀ r ∈ (ruleR f (firstR p, [])).1, RowG m f (gA f a) (gC f a c) r) ∧ StepsG m f a c (f - 1) (ruleR f (firstR p, [])).2 ∧ (∀ s ∈ (ruleR f (firstR p, [])).2, s.1.length ≤ 3000) ∧ (ruleR f (firstR p, [])).1.length ≤ gL f (p.2.2.length + 2 * f) := by
  obtain ⟨e1, r1, l1⟩ := first_ok h hm hf hb hbc hc (by omega)
  obtain ⟨e2, r2, l2⟩ := rule_loop hm hf f (rows := firstR p) (steps := []) (Nat.le_refl _) r1 l1 h1 h1c h2 h3 hk (by simp; omega)
  have s := steps_ok hm hf f (rows := firstR p) (steps := []) (a0 := a) (c0 := c) (d := 0) (Nat.le_refl _) r1 l1 rfl rfl h1 h1c hk trivial (by simp)
  rw [Nat.zero_add] at s
  refine ⟨eq_of_then ?_, r2, s.1, s.2, l2⟩
  unfold t_rule_of
  refine st_callE e1 ?_
  refine st_down (by rw [tLen_eq, h.lb]; omega) (by rw [tLen_eq, h.lb]; omega) (by omega) (by omega) ?_
  rw [tLen_eq, h.lb, e2]
  rfl
noncomputable def dotR (xs ys : List Rat) : Rat := ((xs.zip ys).map fun x => x.1 * x.2).sum
end
end Sr
namespace Sr
open L4
noncomputable def evR (r : Row) (made ch : List Rat) : Rat := dotR r.1 made + dotR r.2.1 ch + r.2.2
def SatR (rows : List Row) (made ch : List Rat) : Prop := ∀ r ∈ rows, 0 ≤ evR r made ch
def LenR (m f : Nat) (r : Row) : Prop := r.1.length = m ∧ r.2.1.length = f
theorem RowG.len {m f a c : Nat} {r : Row} (h : RowG m f a c r) : LenR m f r := ⟨h.la, h.lb⟩
structure LexMin (S : List Rat → Prop) (f : Nat) (c : List Rat) : Prop where
  len : c.length = f
  suits : S c
  least : ∀ c', c'.length = f → S c' → ∀ k, k < f → (∀ j, j < k → c'.getD j 0 = c.getD j 0) → c.getD k 0 ≤ c'.getD k 0
theorem LexMin.uniq {S S' : List Rat → Prop} {f : Nat} {c c' : List Rat} (h : LexMin S f c) (h' : LexMin S' f c') (e : ∀ d, d.length = f → (S d ↔ S' d)) : c = c' := by
  have key : ∀ n, ∀ k, k < n → k < f → c.getD k 0 = c'.getD k 0 := by
    intro n
    induction n with
    | zero => intro k hk; omega
    | succ n ih =>
      intro k hk hf
      have a := h.least c' h'.len ((e _ h'.len).mpr h'.suits) k hf fun j hj => (ih j (by omega) (by omega)).symm
      have b := h'.least c h.len ((e _ h.len).mp h.suits) k hf fun j hj => ih j (by omega) (by omega)
      grind
  refine List.ext_getElem (h.len.trans h'.len.symm) fun i h1 h2 => ?_
  have := key (i + 1) i (by omega) (by rw [← h.len]; exact h1)
  rw [List.getD_eq_getElem?_getD, List.getD_eq_getElem?_getD, List.getElem?_eq_getElem h1, List.getElem?_eq_getElem h2] at this
  exact this
structure PlanL (m f : Nat) (p : Plan) : Prop where
  la : p.1.length = m
  lb : p.2.1.length = f
  sd : ∀ r ∈ p.2.2, LenR m f r
theorem PlanG.len {m f a b c : Nat} {p : Plan} (h : PlanG m f a b c p) : PlanL m f p := ⟨h.la, h.lb, fun r hr => (h.sd r hr).len⟩
def SolR (p : Plan) (made c : List Rat) : Prop := (∀ d ∈ p.2.2, 0 ≤ evR d made c) ∧ ∀ k (h : k < p.2.1.length), p.2.1[k].1 ≤ c.getD k 0 ∧ c.getD k 0 ≤ p.2.1[k].2
end Sr
namespace Sr
open PySem PySem.Spec PyProof.Rows L2 L3 L4
def bOk (m a c u lim : Nat) : Nat → Nat → Nat → Nat → Bool
  | 0, _, _, _ => true
  | r + 1, n, k, T => decide (gC n a c + m * (gA n a + u + 1) + k * gA n a + T + gA n a ≤ lim) && bOk m a c u lim r (n - 1) (k + 1) (T + (gC n a c + m * (gA n a + u + 1) + k * gA n a + T + gA n a) + 1)
noncomputable instance {rows : List Row} {made c : List Rat} : Decidable (SatR rows made c) := by unfold SatR; exact Classical.propDecidable _
end Sr
namespace Sr
open PySem PySem.Spec PyProof.Rows L2 L3 L4
abbrev Ps := Int × Bool × Int
section
variable {α : Type} {P : α → Prop} {E : Str → Prop} {p : Ps}
theorem dq_int {n : Int} : dq (n : Rat) = 1 := by
  unfold dq
  rw [Rat.den_intCast]
  decide
theorem dq_mk {t b : Int} {m : Nat} (h : ib b ≤ m) (h1 : 1 ≤ m) {z : Rat} (e : z = Rat.divInt t b) : dq z ≤ m := by
  have := dq_divInt (t := t) (b := b)
  rw [e]
  omega
def Many19 (m f d : Nat) : Prop := (1 ≤ m ∧ m ≤ 3 ∨ m = 6 ∧ f ≤ 2) ∧ (f = 0 ∧ d ≤ 8 ∨ f = 1 ∧ d ≤ 8 ∨ f = 2 ∧ d ≤ 6 ∨ f = 3 ∧ d ≤ 3)
def PlanD (d : Nat) (p : Plan) : Prop := (∀ x ∈ p.1, dq x.1 ≤ d ∧ dq x.2 ≤ d) ∧ (∀ x ∈ p.2.1, dq x.1 ≤ d ∧ dq x.2 ≤ d) ∧ ∀ r ∈ p.2.2, dq r.2.2 ≤ d
end
end Sr
namespace Sr
open PySem PySem.Spec PyProof.Rows L2 L3 L4
structure NumOk (m f D a c u : Nat) : Prop where
  ga : gA f a ≤ 7601
  gc : gC f a c ≤ 4001
  gl : gL f (D + 2 * f) ≤ 3000000
  g3 : D + 2 * f ≤ 1000
  gk : ∀ k, k < f → gL k (D + 2 * f) ≤ 3000
  bo : bOk m a c u 8900 f (f - 1) 0 0 = true
  la : gC f a c + m * (gA f a + u + 1) ≤ 9000
noncomputable def ruleP (f : Nat) (p : Plan) : List (List Row × List Row) × List Row := ((ruleR f (firstR p, [])).2, (ruleR f (firstR p, [])).1)
def ToldSpec (f : Nat) (p : Plan) (made : List Rat) (o : Option (List Rat)) : Prop := match o with
  | none => ∀ c, c.length = f → ¬ SolR p made c
  | some c => LexMin (SolR p made) f c
theorem ToldSpec.uniq {f : Nat} {p p' : Plan} {made made' : List Rat} {o o' : Option (List Rat)} (h : ToldSpec f p made o) (h' : ToldSpec f p' made' o') (e : ∀ d, d.length = f → (SolR p made d ↔ SolR p' made' d)) : o = o' := by
  cases o with
  | none => cases o' with
    | none => rfl
    | some c => exact (h c h'.len ((e c h'.len).mpr h'.suits)).elim
  | some c => cases o' with
    | none => exact (h' c h.len ((e c h.len).mp h.suits)).elim
    | some c' => rw [LexMin.uniq h h' e]
theorem gC_mono {n a : Nat} : ∀ {c c' : Nat}, c ≤ c' → gC n a c ≤ gC n a c' := by
  induction n generalizing a with
  | zero => exact id
  | succ n ih => intro c c' h; exact ih (by omega)
theorem bOk_mono2 {m a c c' u u' lim : Nat} (hc : c ≤ c') (hu : u ≤ u') : ∀ {r n k T T' : Nat}, T ≤ T' → bOk m a c' u' lim r n k T' = true → bOk m a c u lim r n k T = true
  | 0, _, _, _, _, _, _ => rfl
  | r + 1, n, k, T, T', h, e => by
    unfold bOk at e ⊢
    rw [Bool.and_eq_true, decide_eq_true_eq] at e ⊢
    have h1 := gC_mono (n := n) (a := a) hc
    have h2 : m * (gA n a + u + 1) ≤ m * (gA n a + u' + 1) := Nat.mul_le_mul_left _ (by omega)
    exact ⟨by omega, bOk_mono2 hc hu (by omega) e.2⟩
theorem NumOk.mono {m f D a c c' u u' : Nat} (h : NumOk m f D a c' u') (hc : c ≤ c') (hu : u ≤ u') : NumOk m f D a c u := by
  have h1 := gC_mono (n := f) (a := a) hc
  have h2 : m * (gA f a + u + 1) ≤ m * (gA f a + u' + 1) := Nat.mul_le_mul_left _ (by omega)
  exact ⟨h.ga, by have := h.gc; omega, h.gl, h.g3, h.gk, bOk_mono2 hc hu (Nat.le_refl _) h.bo, by have := h.la; omega⟩
def maxD (f : Nat) : Nat := if f = 3 then 5 else 10
theorem num19' {m f : Nat} (h : (1 ≤ m ∧ m ≤ 3 ∧ f ≤ 3) ∨ m = 6 ∧ f ≤ 2) : NumOk m f (maxD f) 5 (39 + 45 * (m + f)) 220 := by
  rcases h with ⟨h1, h2, h3⟩ | ⟨h1, h2⟩
  · rcases (show m = 1 ∨ m = 2 ∨ m = 3 by omega) with e | e | e <;> rcases (show f = 0 ∨ f = 1 ∨ f = 2 ∨ f = 3 by omega) with e' | e' | e' | e' <;> subst e <;> subst e' <;> exact ⟨by decide, by decide, by decide, by decide, by decide, by decide, by decide⟩
  · subst h1
    rcases (show f = 0 ∨ f = 1 ∨ f = 2 by omega) with e' | e' | e' <;> subst e' <;> exact ⟨by decide, by decide, by decide, by decide, by decide, by decide, by decide⟩
theorem Many19.num {m f d u c : Nat} (h : Many19 m f d) (hu : u ≤ 220) (hc : c ≤ 39 + 45 * (m + f)) : NumOk m f (maxD f) 5 c u := by
  obtain ⟨h1, h2⟩ := h
  exact (num19' (by omega)).mono hc hu
theorem PlanG.mono {m f a b c c' : Nat} {p : Plan} (h : PlanG m f a b c p) (k : c ≤ c') : PlanG m f a b c' p := ⟨h.la, h.lb, h.sa, h.sb, h.oa, h.ob, fun r hr => (h.sd r hr).mono (Nat.le_refl _) k⟩
end Sr
namespace Sr
open PySem PySem.Spec PyProof.Rows L2 L3 L4 Sx
structure ToldC (p : Plan) (made : List Rat) (f a c e : Nat) (xs : List Rat) : Prop where
  len : xs.length = f
  sol : SolR p made xs
  sz : Lz (36 * a + 4 * c + 35) (12 * a + 4 * e + 35) xs
structure ToldB (p : Plan) (made : List Rat) (f a : Nat) (ws : List Rat) : Prop where
  bars : Bars (rowsOf p made) f ws
  sz : ∀ x ∈ ws, hq x ≤ 12 * a + 12
  none : ∀ c, c.length = f → ¬ SolR p made c
theorem PlanG.szs {m f a b c cd bd u : Nat} {p : Plan} (h : PlanG m f a b c p) {made : List Rat} (hm : m ≤ 6) (hf : f ≤ 3) (hd : p.2.2.length ≤ 40) (hbd : ∀ x ∈ p.2.1, dq x.1 ≤ bd ∧ dq x.2 ≤ bd) (hcd : ∀ r ∈ p.2.2, dq r.2.2 ≤ bd) (hu : Lz u cd made) (ha : 1 ≤ a) (n2 : 6 * a + (6 * (a + cd) + bd + 3) ≤ 1110) (n3 : 6 * (a + u + 1) + max b c + 3 ≤ 20000) : Szs a (max b c) bd u cd p made := by
  refine ⟨fun w hw => ?_, fun w hw => ?_, fun x hx => ?_, hu, hd, by rw [h.lb]; exact hf, ha, n2, n3⟩
  · have g := h.sd w hw
    exact ⟨by rw [g.la]; exact hm, Lz.of g.sa, by have := g.sc; omega, hcd w hw⟩
  · have g := h.sd w hw
    exact ⟨by rw [g.lb, h.lb], g.sb⟩
  · obtain ⟨b1, b2⟩ := h.sb x hx
    obtain ⟨d1, d2⟩ := hbd x hx
    exact ⟨⟨by omega, d1⟩, by omega, d2⟩
end Sr
namespace Sr
open PySem PySem.Spec PyProof.Rows L2 L3 L4
section
variable {E : Str → Prop} {p : Ps}
def Many20 (m f d : Nat) : Prop := (1 ≤ m ∧ m ≤ 3 ∨ m = 6 ∧ f ≤ 2) ∧ f ≤ 3 ∧ d ≤ maxD f
theorem Many20.num {m f d u c : Nat} (h : Many20 m f d) (hu : u ≤ 220) (hc : c ≤ 39 + 45 * (m + f)) : NumOk m f (maxD f) 5 c u := by
  obtain ⟨h1, h2⟩ := h
  exact (num19' (by omega)).mono hc hu
end
end Sr
namespace Sr
open PySem PySem.Spec PyProof.Rows L2 L3 L4
end Sr
namespace Sr
open PySem PySem.Spec PyProof.Rows L2 L3 L4
end Sr
namespace Sr
open PySem PySem.Spec PyProof.Rows L2 L3 L4 Sx
structure WBars (rows : List (List Rat × Rat)) (f : Nat) (l : List Rat) : Prop where
  len : l.length = rows.length
  nn : ∀ x ∈ l, 0 ≤ x
  col : ∀ i, i < f → dotS (rows.map fun r => r.1.getD i 0) l = 0
  neg : dotS (rows.map Prod.snd) l < 0
noncomputable instance {rows : List (List Rat × Rat)} {f : Nat} {l : List Rat} : Decidable (WBars rows f l) := Classical.propDecidable _
theorem Bars.w {rows : List (List Rat × Rat)} {f : Nat} {l : List Rat} (B : Bars rows f l) (hl : ∀ r ∈ rows, r.1.length = f) : WBars rows f l := by
  obtain ⟨h1, h2⟩ := bars_cols B hl
  exact ⟨B.len, B.nn, h2, h1⟩
structure Wv (rows : List (List Rat × Rat)) (l : List Rat) (f a c e W : Nat) : Prop where
  r : Rz f a c e rows
  hf : f ≤ 3
  hw : ∀ x ∈ l, hq x ≤ W
  ln : l.length ≤ 1000
  n : rows.length ≤ 19
  s1 : 19 * (a + W + 1) + 1 ≤ 9000
  s2 : 19 * (e + W) + 1 ≤ 9000
  s3 : 19 * (c + W + 1) + 1 ≤ 390000
section
variable {rows : List (List Rat × Rat)} {l : List Rat} {f a c e W : Nat} (z : Wv rows l f a c e W)
include z
theorem Wv.col (i : Nat) (hi : i < f) : Lz a a (rows.map (fun r => r.1.getD i 0)) ∧ 1 + (rows.map (fun r : List Rat × Rat => r.1.getD i 0)).length * (a + W + 1) ≤ 400000 ∧ 1 + (rows.map (fun r : List Rat × Rat => r.1.getD i 0)).length * (a + W) ≤ 9000 := by
  refine ⟨Lz.of fun q hq' => ?_, ?_⟩
  · obtain ⟨r, hr, e⟩ := List.mem_map.mp hq'
    subst e
    exact getD_hq (by rw [z.r.hl r hr]; exact hi) (z.r.hs r hr)
  · rw [List.length_map]
    have := Nat.mul_le_mul_right (a + W + 1) z.n
    have := Nat.mul_le_mul_right (a + W) z.n
    have := z.s1
    omega
theorem Wv.at : Lz c e (rows.map Prod.snd) ∧ 1 + (rows.map Prod.snd).length * (c + W + 1) ≤ 390000 ∧ 1 + (rows.map Prod.snd).length * (e + W) ≤ 9000 := by
  refine ⟨fun q hq' => ?_, ?_⟩
  · obtain ⟨r, hr, e⟩ := List.mem_map.mp hq'
    subst e
    exact ⟨z.r.hs2 r hr, z.r.hs3 r hr⟩
  · rw [List.length_map]
    have := Nat.mul_le_mul_right (c + W + 1) z.n
    have := Nat.mul_le_mul_right (e + W) z.n
    have := z.s2
    have := z.s3
    omega
end
end Sr
namespace Sr
open PySem PySem.Spec PyProof.Rows L2 L3 L4
def Within (p : Plan) (made : List Rat) : Prop := made.length = p.1.length ∧ ∀ k (h : k < p.1.length), p.1[k].1 ≤ made.getD k 0 ∧ made.getD k 0 ≤ p.1[k].2
def Alw (p : Plan) : Prop := ∀ made, Within p made → ∃ c, c.length = p.2.1.length ∧ SolR p made c
noncomputable instance {p : Plan} : Decidable (Alw p) := Classical.propDecidable _
structure AlwOk (m f D a b bd : Nat) : Prop where
  ga : gA f a ≤ 7601
  gc : gC f a b ≤ 4001
  gl : gL f (D + 2 * f) ≤ 3000000
  g3 : D + 2 * f ≤ 19
  gk : ∀ k, k < f → gL k (D + 2 * f) ≤ 3000
  wo : gC f a b + m * (gA f a + b + 1) ≤ 9000
  a1 : 1 ≤ a
  n2 : 6 * a + (6 * (a + bd) + bd + 3) ≤ 1110
  w1 : 19 * (a + (12 * a + 12) + 1) + 1 ≤ 9000
  w2 : 19 * ((6 * (a + bd) + bd + 3) + (12 * a + 12)) + 1 ≤ 9000
  m6 : m ≤ 6
  f3 : f ≤ 3
  b3 : b ≤ 500
theorem AlwOk.rule {m f D a b bd : Nat} (k : AlwOk m f D a b bd) {p : Plan} (h : PlanG m f a b b p) (hd : p.2.2.length ≤ D) : t_rule_of p = .ok (ruleP f p) ∧ (∀ r ∈ (ruleP f p).2, RowG m f (gA f a) (gC f a b) r) := by
  have m6 := k.m6
  have f3 := k.f3
  have g3 := k.g3
  have b3 := k.b3
  have mono : p.2.2.length + 2 * f ≤ D + 2 * f := by omega
  obtain ⟨e1, r1, _⟩ := rule_ok h (by omega) (by omega) k.a1 (Nat.le_refl _) (by omega) (by omega) k.ga k.gc (Nat.le_trans (gL_mono mono) k.gl) (by omega) fun j hj => Nat.le_trans (gL_mono mono) (k.gk j hj)
  exact ⟨e1, r1⟩
theorem AlwOk.szs {m f D a b bd : Nat} (k : AlwOk m f D a b bd) {p : Plan} (h : PlanG m f a b b p) (hD : PlanD bd p) (hd : p.2.2.length ≤ D) {made : List Rat} (hu : Lz b bd made) : Szs a b bd b bd p made := by
  have g3 := k.g3
  have b3 := k.b3
  have n2 := k.n2
  have := h.szs (made := made) (bd := bd) (u := b) (cd := bd) k.m6 k.f3 (by omega) hD.2.1 hD.2.2 hu k.a1 k.n2 (by rw [Nat.max_self]; omega)
  rwa [Nat.max_self] at this
end Sr
namespace Sr
open PySem PySem.Spec PyProof.Rows L2 L3 L4
abbrev Pl := Int × Bool × Int
def PlOk (n : Int) (p : Pl) : Prop := 0 ≤ p.2.2 ∧ p.2.2 < n
theorem PlOk.mono {n m : Int} {p : Pl} (h : PlOk n p) (k : n ≤ m) : PlOk m p := ⟨h.1, by have := h.2; omega⟩
theorem take27_spec {p : Pl} {n many : Int} {E : Str → Prop} (hp : PlOk n p) (hn : n ≤ 2 ^ 30) (hm : 0 < many) (hb : ib many ≤ 200) : Then (t__law_take_2 p many) (fun r => (0 ≤ r.1 ∧ r.1 < many) ∧ PlOk (n + 1) r.2) E := by
  obtain ⟨rest, mixed, count⟩ := p
  obtain ⟨h0, h1⟩ := hp
  have h0 : 0 ≤ count := h0
  have h1 : count < n := h1
  have hf : ∀ x : Int, 0 ≤ x.fmod many ∧ x.fmod many < many := fun x => ⟨Int.fmod_nonneg_of_pos x hm, Int.fmod_lt_of_pos x hm⟩
  unfold t__law_take_2
  cases mixed with
  | false =>
    simp only [Bool.not_false, if_true]
    refine st_fdiv (divOk_ib (by omega) (by omega)) ?_
    refine st_ok ?_
    refine st_mod (by omega) ?_
    exact ⟨hf _, h0, by show count < n + 1; omega⟩
  | true =>
    simp only [Bool.not_true, Bool.false_eq_true, if_false]
    refine st_ok ?_
    dsimp only
    refine st_mod (by decide) ?_
    refine st_mul (mulOk_l (by decide)) ?_
    have a1 := Int.fmod_nonneg_of_pos rest (b := 1000000000163) (by omega)
    have a2 := Int.fmod_lt_of_pos rest (b := 1000000000163) (by omega)
    generalize rest.fmod 1000000000163 = x at *
    refine st_mul (mulOk_l (by omega)) ?_
    refine st_mod (by decide) ?_
    have b1 := Int.fmod_nonneg_of_pos ((x + 70001 * (count + 1)) * (x + 70001 * (count + 1) + 29)) (b := 1000000000193) (by omega)
    have b2 := Int.fmod_lt_of_pos ((x + 70001 * (count + 1)) * (x + 70001 * (count + 1) + 29)) (b := 1000000000193) (by omega)
    generalize ((x + 70001 * (count + 1)) * (x + 70001 * (count + 1) + 29)).fmod 1000000000193 = y at *
    refine st_mul (mulOk_l (by omega)) ?_
    refine st_mod (by decide) ?_
    refine st_ok ?_
    refine st_fdiv (divOk_ib (by decide) (by decide)) ?_
    refine st_mod (by omega) ?_
    exact ⟨hf _, by show 0 ≤ count + 1; omega, by show count + 1 < n + 1; omega⟩
section
variable {α : Type} {P : α → Prop} {E : Str → Prop} {p : Pl} {n : Int}
theorem st_take27 {many : Int} {k : Int × Pl → R α} (hp : PlOk n p) (hn : n ≤ 2 ^ 30) (hm : 0 < many) (hb : ib many ≤ 200) (h : ∀ v q, 0 ≤ v → v < many → PlOk (n + 1) q → Then (k (v, q)) P E) : Then ((t__law_take_2 p many).nx.bind k) P E :=
  st_call (take27_spec hp hn hm hb) fun ⟨v, q⟩ ⟨⟨a, b⟩, c⟩ => h v q a b c
theorem frac27_spec (hp : PlOk n p) (hn : n ≤ 2 ^ 29) : Then (t__law_fraction_4 p) (fun r => (hq r.1 ≤ 12 ∧ dq r.1 ≤ 6) ∧ PlOk (n + 3) r.2) E := by
  unfold t__law_fraction_4
  refine st_take27 hp (by omega) (by decide) (by decide) fun v1 p1 a1 b1 h1 => ?_
  dsimp only
  split
  · refine st_take27 h1 (by omega) (by decide) (by decide) fun v2 p2 a2 b2 h2 => ?_
    exact ⟨⟨hq_int (ib_le.mpr (by omega)) (by decide), by rw [dq_int]; decide⟩, h2.mono (by omega)⟩
  · split
    · refine st_take27 h1 (by omega) (by decide) (by decide) fun v2 p2 a2 b2 h2 => ?_
      dsimp only
      refine st_take27 h2 (by omega) (by decide) (by decide) fun v3 p3 a3 b3 h3 => ?_
      dsimp only
      refine st_mk 12 (by omega) (ib_le.mpr (by omega)) (ib_le.mpr (by omega)) (by decide) (by decide) fun z ez hz => ?_
      exact ⟨⟨hz, dq_mk (ib_le.mpr (by omega)) (by decide) ez⟩, h3.mono (by omega)⟩
    · refine st_take27 h1 (by omega) (by decide) (by decide) fun v2 p2 a2 b2 h2 => ?_
      dsimp only
      refine st_take27 h2 (by omega) (by decide) (by decide) fun v3 p3 a3 b3 h3 => ?_
      dsimp only
      refine st_mk 12 (by omega) (ib_le.mpr (by omega)) (ib_le.mpr (by omega)) (by decide) (by decide) fun z ez hz => ?_
      exact ⟨⟨hz, dq_mk (ib_le.mpr (by omega)) (by decide) ez⟩, h3.mono (by omega)⟩
theorem bounds27_spec (hp : PlOk n p) (hn : n ≤ 2 ^ 28) : Then (t__law_bounds_2 p) (fun r => (hq r.1.1 ≤ 12 ∧ hq r.1.2 ≤ 25 ∧ r.1.1 ≤ r.1.2 ∧ dq r.1.1 ≤ 12 ∧ dq r.1.2 ≤ 12) ∧ PlOk (n + 6) r.2) E := by
  unfold t__law_bounds_2
  refine st_call (frac27_spec hp (by omega)) fun ⟨q1, p1⟩ ⟨⟨h1, d1⟩, g1⟩ => ?_
  dsimp only at h1 d1 g1 ⊢
  refine st_call (frac27_spec g1 (by omega)) fun ⟨q2, p2⟩ ⟨⟨h2, d2⟩, g2⟩ => ?_
  dsimp only at h2 d2 g2 ⊢
  refine st_bind (Q := fun w => (hq w ≤ 12 ∧ dq w ≤ 6) ∧ 0 ≤ w) ?_ fun w ⟨⟨hw, dw⟩, w0⟩ => ?_
  · split
    · rename_i hneg
      refine ⟨⟨by rw [hq_neg]; exact h2, by rw [dq_neg]; exact d2⟩, ?_⟩
      have : ¬ 0 ≤ q2 := fun z => by have := Rat.num_nonneg.mpr z; omega
      grind
    · rename_i hneg
      exact ⟨⟨h2, d2⟩, Rat.num_nonneg.mp (by omega)⟩
  · refine st_addW (by omega) (by omega) fun z ez hz dz => ?_
    exact ⟨⟨h1, by show hq z ≤ 25; omega, by show q1 ≤ z; grind, by show dq q1 ≤ 12; omega, by show dq z ≤ 12; omega⟩, g2.mono (by omega)⟩
theorem many27_spec (hp : PlOk n p) (hn : n ≤ 2 ^ 28) : Then (t__law_many_times p) (fun r => hq r.1 ≤ 6 ∧ PlOk (n + 3) r.2) E := by
  unfold t__law_many_times
  refine st_take27 hp (by omega) (by decide) (by decide) fun v1 p1 a1 b1 h1 => ?_
  dsimp only
  split
  · exact ⟨by show hq 0 ≤ 6; rw [hq_zero]; decide, h1.mono (by omega)⟩
  · split
    · refine st_idxM (by omega) (by simp; omega) fun x hx => ?_
      have : x = 1 ∨ x = -1 ∨ x = 2 ∨ x = -2 := by simpa using hx
      exact ⟨hq_int (ib_le.mpr (by omega)) (by decide), h1.mono (by omega)⟩
    · refine st_take27 h1 (by omega) (by decide) (by decide) fun v2 p2 a2 b2 h2 => ?_
      dsimp only
      refine st_take27 h2 (by omega) (by decide) (by decide) fun v3 p3 a3 b3 h3 => ?_
      dsimp only
      refine st_mk 6 (by omega) (ib_le.mpr (by omega)) (ib_le.mpr (by omega)) (by decide) (by decide) fun z ez hz => ?_
      exact ⟨hz, h3.mono (by omega)⟩
theorem demand27_spec {m f : Nat} (hp : PlOk n p) (hn : n ≤ 2 ^ 27) (hm : m ≤ 1000) (hf : f ≤ 1000) : Then (t__law_demand p m f) (fun r => (RowG m f 6 20 r.1 ∧ dq r.1.2.2 ≤ 12) ∧ PlOk (n + 9000) r.2) E := by
  unfold t__law_demand
  refine st_range (by omega) (by omega) (by omega) (by omega) ?_
  refine st_lc (fun i s => PlOk (n + 3 * i) s) (fun q => hq q ≤ 6) (by simp; omega) (by simpa using hp) (fun j x s hx hs => ?_) fun r1 l1 s1 i1 => ?_
  · have := get_rgI hx
    refine st_call (many27_spec hs (by omega)) fun ⟨q1, p1⟩ ⟨h1, g1⟩ => ?_
    exact ⟨⟨q1, rfl, h1⟩, by have := g1.mono (m := n + 3 * ((j + 1 : Nat) : Int)) (by omega); exact this⟩
  simp at l1 i1
  refine st_range (by omega) (by omega) (by omega) (by omega) ?_
  refine st_lc (fun i s => PlOk (n + 3 * m + 3 * i) s) (fun q => hq q ≤ 6) (by simp; omega) (by simpa using i1) (fun j x s hx hs => ?_) fun r2 l2 s2 i2 => ?_
  · have := get_rgI hx
    refine st_call (many27_spec hs (by omega)) fun ⟨q1, p1⟩ ⟨h1, g1⟩ => ?_
    exact ⟨⟨q1, rfl, h1⟩, by have := g1.mono (m := n + 3 * m + 3 * ((j + 1 : Nat) : Int)) (by omega); exact this⟩
  simp at l2 i2
  refine st_call (frac27_spec i2 (by omega)) fun ⟨q3, p3⟩ ⟨⟨h3, d3⟩, g3⟩ => ?_
  dsimp only at h3 d3 g3 ⊢
  refine st_bind (Q := fun z => (hq z.2 ≤ 20 ∧ dq z.2 ≤ 12) ∧ PlOk (n + 9000) z.1) ?_ fun z ⟨⟨hz, dz⟩, gz⟩ => ?_
  · refine st_take27 g3 (by omega) (by decide) (by decide) fun v4 p4 a4 b4 h4 => ?_
    dsimp only
    split
    · refine st_take27 h4 (by omega) (by decide) (by decide) fun v5 p5 a5 b5 h5 => ?_
      dsimp only
      have hv := hq_int (n := v5) (m := 5) (ib_le.mpr (by omega)) (by decide)
      have dv := dq_int (n := v5)
      refine st_addW (by omega) (by omega) fun z ez hz dz => ?_
      exact ⟨⟨by show hq z ≤ 20; omega, by show dq z ≤ 12; omega⟩, h5.mono (by omega)⟩
    · exact ⟨⟨by show hq q3 ≤ 20; omega, by show dq q3 ≤ 12; omega⟩, h4.mono (by omega)⟩
  · exact ⟨⟨⟨l1, l2, s1, s2, hz⟩, dz⟩, gz⟩
theorem cell27_ok {ns : List Int} {k : Int} (h0 : 0 ≤ k) : ∃ v, t__law_cell_at ns k = .ok v := by
  have : Then (t__law_cell_at ns k) (fun _ => True) (fun _ => False) := by
    unfold t__law_cell_at
    rw [tLen_eq]
    split
    · exact st_idxM h0 (by omega) fun _ _ => trivial
    · trivial
  obtain ⟨v, e, _⟩ := of_then this
  exact ⟨v, e⟩
theorem pool27_spec {ns : List Int} {k : Int} (h0 : 0 ≤ k) (h1 : k ≤ 1000) : Then (t__law_pool_2 ns k) (PlOk 10000) E := by
  obtain ⟨v, e⟩ := cell27_ok (ns := ns) h0
  unfold t__law_pool_2
  refine st_callE e ?_
  refine st_op (by decide) ?_
  refine st_mul (mulOk_l (by omega)) ?_
  exact ⟨by show 0 ≤ 3 + 5 * k; omega, by show 3 + 5 * k < 10000; omega⟩
theorem plan27_spec {ns : List Int} {first many most : Int} (h0 : 0 ≤ first) (h1 : first ≤ 500) (m0 : 1 ≤ many) (m1 : many ≤ 100) (f0 : 0 ≤ most) (f1 : most ≤ 100) : Then (t__law_plan_3 ns first many most) (fun p => ∃ m f : Nat, 1 ≤ m ∧ (m : Int) ≤ many ∧ ((f : Int) ≤ most ∨ f ≤ 2) ∧ PlanG m f 6 25 25 p ∧ PlanD 12 p ∧ p.2.2.length ≤ 5) E := by
  have i1 : ib many ≤ 200 := ib_le.mpr (by have : (100 : Nat) < 2 ^ 200 := by decide
                                           omega)
  have i2 : ib (most + 1) ≤ 200 := ib_le.mpr (by have : (102 : Nat) < 2 ^ 200 := by decide
                                                 omega)
  unfold t__law_plan_3
  refine st_call (pool27_spec h0 (by omega)) fun p1 g1 => ?_
  refine st_take27 g1 (by decide) (by omega) i1 fun v2 p2 a2 b2 g2 => ?_
  refine st_take27 g2 (by decide) (by omega) i2 fun v3 p3 a3 b3 g3 => ?_
  refine st_take27 g3 (by decide) (by decide) (by decide) fun v4 p4 a4 b4 g4 => ?_
  dsimp only
  refine st_idxM a4 (by simpa using b4) fun f hf => ?_
  have hf2 : 0 ≤ f ∧ (f ≤ most ∨ f ≤ 2) := by
    simp at hf
    rcases hf with e | e | e <;> subst e <;> constructor <;> first | decide | omega
  refine st_take27 g4 (by decide) (by decide) (by decide) fun v5 p5 a5 b5 g5 => ?_
  refine st_take27 g5 (by decide) (by decide) (by decide) fun v6 p6 a6 b6 g6 => ?_
  refine st_take27 g6 (by decide) (by decide) (by decide) fun v7 p7 a7 b7 g7 => ?_
  dsimp only
  refine st_idxM a7 (by simpa using b7) fun d hd => ?_
  have hd2 : 0 ≤ d ∧ d ≤ 5 := by
    simp at hd
    rcases hd with e | e <;> subst e <;> constructor <;> omega
  obtain ⟨m, em⟩ : ∃ m : Nat, (1 : Int) + v2 = m := ⟨(1 + v2).toNat, by omega⟩
  obtain ⟨fn, ef⟩ : ∃ n : Nat, f = n := ⟨f.toNat, by omega⟩
  rw [em, ef]
  refine st_range (by omega) (by omega) (by omega) (by omega) ?_
  refine st_fold (fun i (s : Plan) => s.1.length = i ∧ (∀ x ∈ s.1, ((hq x.1 ≤ 25 ∧ hq x.2 ≤ 25) ∧ x.1 ≤ x.2) ∧ dq x.1 ≤ 12 ∧ dq x.2 ≤ 12) ∧ s.2.1 = [] ∧ s.2.2 = []) ⟨rfl, by simp, rfl, rfl⟩ (fun j x s hx hs => ?_) fun s1 hs1 => ?_
  · obtain ⟨l1, l2, l3, l4⟩ := hs
    obtain ⟨ex, ex2⟩ := get_rgI hx
    refine st_call (pool27_spec (by omega) (by omega)) fun q g => ?_
    refine st_call (bounds27_spec g (by decide)) fun ⟨y, q2⟩ ⟨⟨y1, y2, y3, y4, y5⟩, g2⟩ => ?_
    refine st_app (by rw [l1]; omega) ?_
    refine ⟨by simp [l1], fun z hz => ?_, l3, l4⟩
    rcases List.mem_append.mp hz with e | e
    · exact l2 z e
    · simp at e; subst e; exact ⟨⟨⟨Nat.le_trans y1 (by decide), y2⟩, y3⟩, y4, y5⟩
  obtain ⟨l1, l2, l3, l4⟩ := hs1
  simp at l1
  refine st_range (by omega) (by omega) (by omega) (by omega) ?_
  refine st_fold (fun i (s : Plan) => s.1 = s1.1 ∧ s.2.1.length = i ∧ (∀ x ∈ s.2.1, ((hq x.1 ≤ 25 ∧ hq x.2 ≤ 25) ∧ x.1 ≤ x.2) ∧ dq x.1 ≤ 12 ∧ dq x.2 ≤ 12) ∧ s.2.2 = []) ⟨rfl, by simp [l3], by simp [l3], l4⟩ (fun j x s hx hs => ?_) fun s2 hs2 => ?_
  · obtain ⟨k0, k1, k2, k4⟩ := hs
    obtain ⟨ex, ex2⟩ := get_rgI hx
    refine st_call (pool27_spec (by omega) (by omega)) fun q g => ?_
    refine st_call (bounds27_spec g (by decide)) fun ⟨y, q2⟩ ⟨⟨y1, y2, y3, y4, y5⟩, g2⟩ => ?_
    refine st_app (by rw [k1]; omega) ?_
    refine ⟨k0, by simp [k1], fun z hz => ?_, k4⟩
    rcases List.mem_append.mp hz with e | e
    · exact k2 z e
    · simp at e; subst e; exact ⟨⟨⟨Nat.le_trans y1 (by decide), y2⟩, y3⟩, y4, y5⟩
  obtain ⟨k0, k1, k2, k4⟩ := hs2
  simp at k1
  refine st_range (by omega) (by omega) (by omega) (by omega) ?_
  refine st_fold (fun i (s : Plan) => s.1 = s1.1 ∧ s.2.1 = s2.2.1 ∧ s.2.2.length = i ∧ (∀ x ∈ s.2.2, RowG m fn 6 20 x ∧ dq x.2.2 ≤ 12)) ⟨k0, rfl, by simp [k4], by simp [k4]⟩ (fun j x s hx hs => ?_) fun s3 hs3 => ?_
  · obtain ⟨o0, o1, o2, o3⟩ := hs
    obtain ⟨ex, ex2⟩ := get_rgI hx
    refine st_call (pool27_spec (by omega) (by omega)) fun q g => ?_
    refine st_call (demand27_spec (m := m) (f := fn) g (by decide) (by omega) (by omega)) fun ⟨y, q2⟩ ⟨y1, g2⟩ => ?_
    refine st_app (by rw [o2]; omega) ?_
    refine ⟨o0, o1, by simp [o2], fun z hz => ?_⟩
    rcases List.mem_append.mp hz with e | e
    · exact o3 z e
    · simp at e; subst e; exact y1
  obtain ⟨o0, o1, o2, o3⟩ := hs3
  simp at o2
  refine ⟨m, fn, by omega, by omega, by omega, ⟨?_, ?_, ?_, ?_, ?_, ?_, fun r hr => (o3 r hr).1.mono (by decide) (by decide)⟩, ⟨?_, ?_, fun r hr => (o3 r hr).2⟩, ?_⟩
  · show s3.1.length = m; rw [o0, l1]
  · show s3.2.1.length = fn; rw [o1, k1]
  · show ∀ x ∈ s3.1, _; rw [o0]; exact fun x hx => (l2 x hx).1.1
  · show ∀ x ∈ s3.2.1, _; rw [o1]; exact fun x hx => (k2 x hx).1.1
  · show ∀ x ∈ s3.1, _; rw [o0]; exact fun x hx => (l2 x hx).1.2
  · show ∀ x ∈ s3.2.1, _; rw [o1]; exact fun x hx => (k2 x hx).1.2
  · show ∀ x ∈ s3.1, _; rw [o0]; exact fun x hx => (l2 x hx).2
  · show ∀ x ∈ s3.2.1, _; rw [o1]; exact fun x hx => (k2 x hx).2
  · show s3.2.2.length ≤ 5; omega
theorem copy_ok {p : Plan} (h : p.2.2.length ≤ 10000) : t__law_copy p = .ok p := by
  refine eq_of_then ?_
  unfold t__law_copy
  refine st_mapF (fun x => x) (by omega) (fun _ _ => rfl) ?_
  show _ = _
  simp
end
end Sr
namespace L4
open PySem PySem.Spec PyProof.Rows L2 L3
section
variable {α : Type}
theorem cut_hi {xs : List α} {i : Int} {n : Nat} (h : i = n) : tCut xs none (some i) = xs.take n := by
  subst h
  unfold tCut cutG HT.sIx
  simp only [List.drop_zero, Nat.sub_zero]
  rw [if_neg (by omega)]
  simp [List.take_eq_take_iff]
theorem cut_lo {xs : List α} {i : Int} {n : Nat} (h : i = n) : tCut xs (some i) none = xs.drop n := by
  subst h
  unfold tCut cutG HT.sIx
  dsimp only
  rw [if_neg (by omega)]
  have e : ((n : Int)).toNat = n := by omega
  rw [e]
  rcases Nat.le_total n xs.length with h | h
  · rw [Nat.min_eq_left h, List.take_of_length_le (by simp)]
  · rw [Nat.min_eq_right h, List.drop_eq_nil_of_le (Nat.le_refl _), List.drop_eq_nil_of_le h]; simp
end
end L4
namespace Sr
open PySem PySem.Spec PyProof.Rows L2 L3 L4
theorem st_rep34 {α β : Type} {P : β → Prop} {E : Str → Prop} {x : α} {i : Int} {n : Nat} {k : List α → R β} (h : i = n) (hn : n ≤ 1000) (hk : Then (k (List.replicate n x)) P E) : Then ((tRep [x] i).bind k) P E := by
  subst h
  unfold tRep
  have hd : -(2 ^ 62) ≤ (n : Int) ∧ (n : Int) < 2 ^ 62 ∧ [x].length * ((n : Int)).toNat ≤ sLine := by
    refine ⟨by omega, by omega, ?_⟩
    have e1 : ((n : Int)).toNat = n := by omega
    rw [e1, List.length_singleton, Nat.one_mul]
    unfold sLine
    omega
  have e : (List.replicate ((n : Int)).toNat [x]).flatten = List.replicate n x := by
    rw [show ((n : Int)).toNat = n by omega]
    clear hk hn hd
    induction n with
    | zero => rfl
    | succ n ih => rw [List.replicate_succ, List.flatten_cons, ih, List.replicate_succ]; rfl
  have e0 : L4.tOp (decide (-(2 ^ 62) ≤ (n : Int) ∧ (n : Int) < 2 ^ 62 ∧ [x].length * ((n : Int)).toNat ≤ sLine)) (List.replicate ((n : Int)).toNat [x]).flatten = .ok (List.replicate n x) := by
    unfold L4.tOp
    rw [decide_eq_true hd, e]; rfl
  rw [e0]
  exact hk
def addAt (xs : List Int) (p : Int × Int) : List Int := xs.set p.1.toNat (xs.getD p.1.toNat 0 + p.2)
def partsI (N : Nat) (H : List (Int × Int)) : List Int := H.foldl addAt (List.replicate N 0)
abbrev B34 : Int := 500000000000000000000000000000
structure ChainOk (N : Nat) (H : List (Int × Int)) : Prop where
  len : H.length ≤ 8
  each : ∀ p ∈ H, 0 ≤ p.1 ∧ p.1 < (N : Int) ∧ -B34 ≤ p.2 ∧ p.2 ≤ B34
theorem addAt_len {xs : List Int} {p : Int × Int} : (addAt xs p).length = xs.length := List.length_set
theorem parts_fold {δ : Type} {P : δ → Prop} {E : Str → Prop} {N : Nat} {H : List (Int × Int)} {k : List Int → R δ} (h : ChainOk N H) (hk : (partsI N H).length = N → (∀ x ∈ partsI N H, -(8 * B34) ≤ x ∧ x ≤ 8 * B34) → Then (k (partsI N H)) P E) :
    Then ((tFold (fun (s : List Int) (x : Int × Int) => ((tIdx s x.1).bind fun y => (tSet s x.1 (y + x.2)).bind fun z => .ok (z) : R (List Int))) H (List.replicate N 0)).bind k) P E := by
  refine st_fold (fun j s => s = (H.take j).foldl addAt (List.replicate N 0) ∧ s.length = N ∧ ∀ x ∈ s, -(j * B34) ≤ x ∧ x ≤ j * B34) ⟨rfl, by simp, fun x hx => by
    have := (List.mem_replicate.mp hx).2
    subst this
    exact ⟨by simp, by simp⟩⟩ ?_ ?_
  · rintro j p s hp ⟨es, hl, hb⟩
    obtain ⟨h0, h1, h2, h3⟩ := h.each p (List.mem_of_getElem? hp)
    have hn : p.1.toNat < s.length := by omega
    refine st_idx p.1.toNat (by omega) hn ?_
    refine st_set p.1.toNat (by omega) hn ?_
    have e : s.set p.1.toNat (s[p.1.toNat] + p.2) = addAt s p := by
      unfold addAt
      rw [List.getD_eq_getElem?_getD, List.getElem?_eq_getElem hn]
      rfl
    rw [e]
    refine st_end ⟨?_, by rw [addAt_len]; exact hl, fun x hx => ?_⟩
    · rw [List.take_add_one, hp, List.foldl_append, ← es]
      rfl
    · unfold addAt at hx
      rcases List.mem_or_eq_of_mem_set hx with z | z
      · have := hb x z
        have hj : ((j + 1 : Nat) : Int) * B34 = (j : Int) * B34 + B34 := by rw [show ((j + 1 : Nat) : Int) = (j : Int) + 1 by omega, Int.add_mul, Int.one_mul]
        have hB : (0 : Int) ≤ B34 := by decide
        rw [hj]
        constructor <;> omega
      · have hg : -(j * B34) ≤ s.getD p.1.toNat 0 ∧ s.getD p.1.toNat 0 ≤ j * B34 := by
          rw [List.getD_eq_getElem?_getD, List.getElem?_eq_getElem hn]
          exact hb _ (List.getElem_mem hn)
        have hj : ((j + 1 : Nat) : Int) * B34 = (j : Int) * B34 + B34 := by rw [show ((j + 1 : Nat) : Int) = (j : Int) + 1 by omega, Int.add_mul, Int.one_mul]
        rw [hj, z]
        constructor <;> omega
  · rintro s ⟨es, hl, hb⟩
    rw [List.take_length] at es
    subst es
    have hB : (H.length : Int) * B34 ≤ 8 * B34 := Int.mul_le_mul_of_nonneg_right (by have := h.len; omega) (by decide)
    exact hk hl fun x hx => by
      have := hb x hx
      constructor <;> omega
noncomputable def S34 (P : Plan) (H : List (Int × Int)) : List Rat := ((partsI (P.1.length + P.2.1.length) H).take P.1.length).map fun x : Int => (x : Rat)
noncomputable def Z34 (P : Plan) (H : List (Int × Int)) : List Rat := ((partsI (P.1.length + P.2.1.length) H).drop P.1.length).map fun x : Int => (x : Rat)
noncomputable def due34 (P : Plan) (H : List (Int × Int)) (q r : Rat) : List Row := [(S34 P H, Z34 P H, -q), ((S34 P H).map fun x => -x, (Z34 P H).map fun x => -x, r)]
theorem chain_ok {P : Plan} {H : List (Int × Int)} (h : ChainOk (P.1.length + P.2.1.length) H) (hs : P.1.length + P.2.1.length ≤ 1000) : t_chain_parts_2 P H = .ok (S34 P H, Z34 P H) := by
  refine eq_of_then ?_
  unfold t_chain_parts_2
  refine st_rep34 (n := P.1.length + P.2.1.length) (by simp) hs ?_
  refine parts_fold h fun hl _ => ?_
  refine st_mapF (fun x : Int => (x : Rat)) (by omega) (fun _ _ => rfl) ?_
  show Then (R.ok _) _ _
  rw [tLen_eq, cut_hi rfl, cut_lo rfl]
  show _ = _
  unfold S34 Z34
  rw [List.map_take, List.map_drop]
theorem hq34 {x : Int} (h : -(8 * B34) ≤ x ∧ x ≤ 8 * B34) : hq (x : Rat) ≤ 110 := hq_int (ib_le.mpr (by
  have hB : B34 = 500000000000000000000000000000 := rfl
  have : (2 : Nat) ^ 110 = 1298074214633706907132624082305024 := by decide
  omega)) (by omega)
theorem S34_hq {P : Plan} {H : List (Int × Int)} (h : ChainOk (P.1.length + P.2.1.length) H) : (∀ q ∈ S34 P H, hq q ≤ 110) ∧ ∀ q ∈ Z34 P H, hq q ≤ 110 := by
  have h0 : Then ((tFold (fun (s : List Int) (x : Int × Int) => ((tIdx s x.1).bind fun y => (tSet s x.1 (y + x.2)).bind fun z => .ok (z) : R (List Int))) H (List.replicate (P.1.length + P.2.1.length) 0)).bind fun _ => R.ok ()) (fun _ => ∀ x ∈ partsI (P.1.length + P.2.1.length) H, -(8 * B34) ≤ x ∧ x ≤ 8 * B34) (fun _ => False) :=
    parts_fold h fun _ hb => hb
  have h1 : ∀ x ∈ partsI (P.1.length + P.2.1.length) H, -(8 * B34) ≤ x ∧ x ≤ 8 * B34 := by
    revert h0
    cases (tFold (fun (s : List Int) (x : Int × Int) => ((tIdx s x.1).bind fun y => (tSet s x.1 (y + x.2)).bind fun z => .ok (z) : R (List Int))) H (List.replicate (P.1.length + P.2.1.length) 0)) with
    | ok s => exact fun z => z
    | exc c => exact fun z => z.elim
    | bad => exact fun z => z.elim
  constructor
  · intro q hq'
    obtain ⟨x, hx, rfl⟩ := List.mem_map.mp hq'
    exact hq34 (h1 x (List.mem_of_mem_take hx))
  · intro q hq'
    obtain ⟨x, hx, rfl⟩ := List.mem_map.mp hq'
    exact hq34 (h1 x (List.mem_of_mem_drop hx))
theorem turned_ok {xs : List Rat} (hl : xs.length ≤ 1000) (h : ∀ q ∈ xs, hq q ≤ 8000) : t_turned_about_2 xs = .ok (xs.map fun x => -x) := by
  refine eq_of_then ?_
  unfold t_turned_about_2
  refine st_mapF (fun x => -x) (by omega) (fun x hx => ?_) (st_end rfl)
  refine eq_of_then ?_
  refine st_times (by have := h x hx; have : hq (-1 : Rat) ≤ 1 := by decide +kernel
                      omega) fun z ez _ => ?_
  subst ez
  show _ = _
  grind
theorem due34_ok {P : Plan} {H : List (Int × Int)} {q r : Rat} (h : ChainOk (P.1.length + P.2.1.length) H) (hs : P.1.length + P.2.1.length ≤ 1000) : t__law_due_9 P H q r = .ok (due34 P H q r) := by
  refine eq_of_then ?_
  unfold t__law_due_9
  refine st_cat (by omega) ?_
  refine st_mapF (fun _ => (0 : Int)) (by rw [List.length_append]; omega) (fun _ _ => rfl) ?_
  have e : (P.1 ++ P.2.1).map (fun _ => (0 : Int)) = List.replicate (P.1.length + P.2.1.length) 0 := by
    rw [List.map_const', List.length_append]
  rw [e]
  refine parts_fold h fun hl _ => ?_
  rw [tLen_eq, cut_hi rfl, cut_lo rfl]
  refine st_mapF (fun x : Int => (x : Rat)) (by rw [List.length_take]; omega) (fun _ _ => rfl) ?_
  refine st_mapF (fun x : Int => (x : Rat)) (by rw [List.length_drop]; omega) (fun _ _ => rfl) ?_
  refine st_mapF (fun x : Int => -(x : Rat)) (by rw [List.length_take]; omega) (fun x _ => ?_) ?_
  · have : (((0 : Int) - x : Int) : Rat) = -(x : Rat) := by
      rw [Int.zero_sub]; exact Rat.intCast_neg x
    rw [this]
  refine st_mapF (fun x : Int => -(x : Rat)) (by rw [List.length_drop]; omega) (fun x _ => ?_) ?_
  · have : (((0 : Int) - x : Int) : Rat) = -(x : Rat) := by
      rw [Int.zero_sub]; exact Rat.intCast_neg x
    rw [this]
  show _ = _
  unfold due34 S34 Z34
  rw [List.map_map, List.map_map]
  rfl
theorem with_ok {P : Plan} {rows : List Row} (h : P.2.2.length + rows.length ≤ 10000) : t_with_demands_2 P rows = .ok (P.1, P.2.1, P.2.2 ++ rows) := by
  refine eq_of_then ?_
  unfold t_with_demands_2
  refine st_cat (by omega) ?_
  refine st_mapF (fun x => x) (by rw [List.length_append]; omega) (fun _ _ => rfl) ?_
  show _ = _
  rw [List.map_id']
end Sr
namespace Sr
open PySem PySem.Spec PyProof.Rows L2 L3 L4
@[irreducible] noncomputable def B34_5 : MS := mSeq (mIfS (mOr (mNot (mTest (mLift (pIsa "tuple" (pVar 7))))) (mOr (mNot (mTest (mLift (pIsa "list" (pBin opIdx (pVar 7) (pC (.int 0))))))) (mNot (mTest (mLift (pIsa "list" (pBin opIdx (pVar 7) (pC (.int 1))))))))) (mRet (mLift (pC (.bool false)))) (mNext)) <|
    mIfS (mTest (mBin opNe (mFz (mLc (miL (mFz (mBin opAdd (mFz (mBin opAdd (mLift (pBin opIdx (pVar 7) (pC (.int 0)))) (mLift (pBin opIdx (pVar 7) (pC (.int 1)))))) (mFz (mLst (mCons (mLift (pBin opIdx (pVar 7) (pC (.int 2)))) (mNil))))))) (mgName 16) (mNot (mTest (mCallF false false 1 m__law_is_fraction_2 [none] (mbCons (mVar 16) (mbNil))))) (mVar 16) [16])) (mFz (mLst (mNil))))) (mRet (mLift (pC (.bool false)))) (mNext)
@[irreducible] noncomputable def B34_15 : MS := mSeq (mDrop (mMeth 12 (lHere) opAppend (mCons (mTup (mCons (mLift (pC (.int 9))) (mCons (mLift (pC (.int 1))) (mNil)))) (mNil)))) <|
    mDrop (mMeth 13 (lHere) opAppend (mCons (mTup (mCons (mLift (pC (.int 9))) (mCons (mLift (pC (.int 1))) (mNil)))) (mNil)))
@[irreducible] noncomputable def B34_10 : MS := mDrop (mMeth 11 (lHere) opAppend (mCons (mTup (mCons (mLift (pC (.int 7))) (mCons (mLift (pC (.int 1))) (mNil)))) (mNil)))
@[irreducible] noncomputable def S34_1 : MS := mAsg (mFz (mLst (mCons (mCallF false false 1 m__law_copy [none] (mbCons (mVar 0) (mbNil))) (mCons (mFz (mCallB opListOf (mCons (mVar 1) (mNil)))) (mNil))))) (mgName 4)
@[irreducible] noncomputable def S34_2 : MS := mAsg (mCallF false false 4 m__law_due_9 [none, none, none, none] (mbCons (mVar 0) (mbCons (mVar 1) (mbCons (mVar 2) (mbCons (mVar 3) (mbNil)))))) (mgName 5)
@[irreducible] noncomputable def S34_3 : MS := mAsg (mCallF false false 4 m_gap_demands_2 [none, none, none, none] (mbCons (mLift (pBin opIdx (pVar 4) (pC (.int 0)))) (mbCons (mLift (pBin opIdx (pVar 4) (pC (.int 1)))) (mbCons (mVar 2) (mbCons (mVar 3) (mbNil)))))) (mgName 6)
@[irreducible] noncomputable def S34_4 : MS := mIfS (mLookT (mOr (mNot (mTest (mLift (pIsa "list" (pVar 6))))) (mOr (mTest (mLift (pBin opNe (pVar 6) (pVar 5)))) (mTest (mBin opNe (mVar 4) (mFz (mLst (mCons (mVar 0) (mCons (mVar 1) (mNil)))))))))) (mRet (mLift (pC (.bool false)))) (mNext)
@[irreducible] noncomputable def S34_5 : MS := mLookS 17 [7, 16] (mFor (miL (mVar 6)) (mgName 7) B34_5)
@[irreducible] noncomputable def S34_6 : MS := mAsg (mLookO (mCallF false false 2 m_with_demands_2 [none, none] (mbCons (mLift (pBin opIdx (pVar 4) (pC (.int 0)))) (mbCons (mVar 6) (mbNil))))) (mgName 8)
@[irreducible] noncomputable def S34_7 : MS := mIfS (mLookT (mOr (mNot (mTest (mLift (pIsa "tuple" (pVar 8))))) (mOr (mLookT (mTest (mBin opNe (mVar 8) (mTup (mCons (mLift (pBin opIdx (pVar 0) (pC (.int 0)))) (mCons (mLift (pBin opIdx (pVar 0) (pC (.int 1)))) (mCons (mFz (mBin opAdd (mLift (pBin opIdx (pVar 0) (pC (.int 2)))) (mVar 5))) (mNil)))))))) (mTest (mBin opNe (mVar 4) (mFz (mLst (mCons (mVar 0) (mCons (mVar 1) (mNil)))))))))) (mRet (mLift (pC (.bool false)))) (mNext)
@[irreducible] noncomputable def S34_8 : MS := mAsg (mLst (mCons (mTake 6 (kIx (kIx (kHere) (pC (.int 0))) (pC (.int 0)))) (mCons (mTake 6 (kIx (kIx (kHere) (pC (.int 0))) (pC (.int 1)))) (mCons (mTake 6 (kIx (kIx (kHere) (pC (.int 1))) (pC (.int 0)))) (mCons (mTake 6 (kIx (kIx (kHere) (pC (.int 1))) (pC (.int 1)))) (mNil)))))) (mgName 9)
@[irreducible] noncomputable def S34_9 : MS := mThenFz 10 (mLookA 17 [10, 11] 10 (mAsg (mLc (miL (mVar 9)) (mgName 11) (mtYes) (mLift (pCallB opLen (pCons (pVar 11) (pNil)))) [11]) (mgName 10)))
@[irreducible] noncomputable def S34_10 : MS := mForAd 9 6 11 B34_10
@[irreducible] noncomputable def S34_11 : MS := mIfS (mLookT (mTest (mBin opNe (mFz (mLc (miL (mVar 9)) (mgName 11) (mtYes) (mLift (pCallB opLen (pCons (pVar 11) (pNil)))) [11])) (mFz (mLc (miL (mVar 10)) (mgName 15) (mtYes) (mLift (pBin opAdd (pVar 15) (pC (.int 1)))) [15]))))) (mRet (mLift (pC (.bool false)))) (mNext)
@[irreducible] noncomputable def S34_12 : MS := mIfS (mLookT (mTest (mBin opNe (mVar 8) (mTup (mCons (mLift (pBin opIdx (pVar 0) (pC (.int 0)))) (mCons (mLift (pBin opIdx (pVar 0) (pC (.int 1)))) (mCons (mFz (mBin opAdd (mLift (pBin opIdx (pVar 0) (pC (.int 2)))) (mVar 5))) (mNil)))))))) (mRet (mLift (pC (.bool false)))) (mNext)
@[irreducible] noncomputable def S34_13 : MS := mDrop (mMeth 8 (lIx (lHere) (pC (.int 0))) opAppend (mCons (mTup (mCons (mLift (pC (.int 0))) (mCons (mLift (pC (.int 1))) (mNil)))) (mNil)))
@[irreducible] noncomputable def S34_14 : MS := mDrop (mMeth 8 (lIx (lHere) (pC (.int 1))) opAppend (mCons (mTup (mCons (mLift (pC (.int 0))) (mCons (mLift (pC (.int 1))) (mNil)))) (mNil)))
@[irreducible] noncomputable def S34_15 : MS := mForOT 8 (kIx (kHere) (pC (.int 2))) [12, 13, 14] B34_15
@[irreducible] noncomputable def S34_16 : MS := mRet (mAndV (mBin opEq (mVar 4) (mFz (mLst (mCons (mVar 0) (mCons (mVar 1) (mNil)))))) (mBin opEq (mFz (mCallF false false 4 m_gap_demands_2 [none, none, none, none] (mbCons (mLift (pBin opIdx (pVar 4) (pC (.int 0)))) (mbCons (mLift (pBin opIdx (pVar 4) (pC (.int 1)))) (mbCons (mVar 2) (mbCons (mVar 3) (mbNil))))))) (mVar 5)))
theorem good34_eq : m__law_good_10 = mFn [] 13 (mSeq S34_1 <| mSeq S34_2 <| mSeq S34_3 <| mSeq S34_4 <| mSeq S34_5 <| mSeq S34_6 <| mSeq S34_7 <| mSeq S34_8 <| mSeq S34_9 <| mSeq S34_10 <| mSeq S34_11 <| mSeq S34_12 <| mSeq S34_13 <| mSeq S34_14 <| mSeq S34_15 <| S34_16) := by
  unfold m__law_good_10 S34_1 S34_2 S34_3 S34_4 S34_5 S34_6 S34_7 S34_8 S34_9 S34_10 S34_11 S34_12 S34_13 S34_14 S34_15 S34_16 B34_5 B34_10 B34_15
  rfl
@[simp] theorem e_lookT34 {m : MT} {ρ : En} : mLookT m ρ = (m (fzEnv ρ)).bind (lookK ρ) := (rfl)
@[simp] theorem e_lookK34 {b : Bool} {ρ r : En} : lookK ρ (b, r) = .ok (b, ρ) := (rfl)
@[simp] theorem e_fzE034 : fzEnv [] = [] := (rfl)
@[simp] theorem e_fzE134 {t : T} {ρ : En} : fzEnv (some t :: ρ) = (t.fz.map T.d) :: fzEnv ρ := (rfl)
@[simp] theorem e_fzE234 {ρ : En} : fzEnv (none :: ρ) = none :: fzEnv ρ := (rfl)
@[simp] theorem e_thenFz34 {i : Nat} {m : MS} {ρ : En} : mThenFz i m ρ = (m ρ).bind (fzNext i) := (rfl)
def fzN234 (ρ : En) : R Out := .ok (.next ρ)
@[simp] theorem e_fzN234 {ρ : En} : fzN234 ρ = .ok (.next ρ) := (rfl)
@[simp] theorem e_fzNext34 {i : Nat} {ρ : En} : fzNext i (.next ρ) = (L3.fzSlot i ρ).bind fzN234 := (rfl)
theorem e_lookA34 {n : Nat} {js : List Nat} {i : Nat} {ms : MS} {ρ : En} : mLookA n js i ms ρ = L3.guard (decide (ρ.length = n) && decide (i < n)) ((ms (fzEnv ρ)).bind (lookAK js i ρ)) := rfl
theorem it_tup34 {a b : PyData} {ρ : En} : itTK (T.d (.tuple [a, b]), ρ) = .ok ([T.d a, T.d b], ρ) := rfl
theorem isfrac34 {q : Rat} (h : hq q ≤ 9000) : m__law_is_fraction_2 [.d (fr q)] = .ok (.d (.bool true), []) := by
  have hb : (q.den : Int) ≠ 0 := by have := q.den_nz; omega
  have hp : (0 : Int) < q.den := by omega
  have e := lf_eq (t := q.num) (b := q.den) hb (Nat.le_trans (hq_denI q) h)
  rw [Rat.divInt_ofNat, Rat.mkRat_self] at e
  have e2 : opEq (T.d (fr q)) (T.d (fr q)) = .ok (.v (.d (.bool true))) := by rw [eq_nice nice_Q rfl rfl]; simp
  unfold m__law_is_fraction_2
  rw [fr_def] at e e2 ⊢
  have hp' : 0 < q.den := q.den_pos
  simp [e_lcC, sLine, e, e2, hp', it_tup34]
abbrev eW34 : Row → PyData := eT3 (eL fr) (eL fr) fr
abbrev eH34 : List (Int × Int) → PyData := eL (eT2 eI eI)
noncomputable abbrev oW34 (r : Row) : T := T.ot [oL (dE fr) r.1, oL (dE fr) r.2.1, dE fr r.2.2]
theorem fzA34 {α : Type} {f : α → PyData} : ∀ xs : List α, T.fzAll (xs.map fun q => T.d (f q)) = some (xs.map f)
  | [] => rfl
  | x :: xs => by
    rw [List.map_cons]
    simp [T.fzAll, T.fz, fzA34 xs]
theorem fzL34 {α : Type} {f : α → PyData} (xs : List α) : T.fz (oL (dE f) xs) = some (eL f xs) := by
  show T.fz (T.ol (xs.map fun q => T.d (f q))) = _
  simp [T.fz, fzA34]
theorem fzW34 (r : Row) : T.fz (oW34 r) = some (eW34 r) := by
  show T.fz (T.ot [oL (dE fr) r.1, oL (dE fr) r.2.1, T.d (fr r.2.2)]) = _
  simp [T.fz, T.fzAll, fzL34]
theorem fzWs34 : ∀ rs : List Row, T.fzAll (rs.map oW34) = some (rs.map eW34)
  | [] => rfl
  | r :: rs => by
    rw [List.map_cons, T.fzAll, fzW34, fzWs34 rs]
    rfl
theorem calmA34 {α : Type} {f : α → PyData} (hf : ∀ x, calm (f x) = true) : ∀ xs : List α, T.calmA (xs.map fun q => T.d (f q)) = true
  | [] => rfl
  | x :: xs => by
    rw [List.map_cons]
    simp [T.calmA, T.calmT, hf, calmA34 hf xs]
theorem calmL34 {α : Type} {f : α → PyData} (hf : ∀ x, calm (f x) = true) (xs : List α) : T.calmT (oL (dE f) xs) = true := by
  show T.calmT (T.ol (xs.map fun q => T.d (f q))) = true
  simp [T.calmT, calmA34 hf]
theorem calm_fr (q : Rat) : calm (fr q) = true := rfl
noncomputable def foundT34 (P : Plan) (H : List (Int × Int)) (q r : Rat) : T := T.ol ((due34 P H q r).map oW34)
theorem partsI_len34 {N : Nat} {H : List (Int × Int)} (h : ChainOk N H) : (partsI N H).length = N := by
  have h0 : Then ((tFold (fun (s : List Int) (x : Int × Int) => ((tIdx s x.1).bind fun y => (tSet s x.1 (y + x.2)).bind fun z => .ok (z) : R (List Int))) H (List.replicate N 0)).bind fun _ => R.ok ()) (fun _ => (partsI N H).length = N) (fun _ => False) :=
    parts_fold h fun hl _ => hl
  revert h0
  cases (tFold (fun (s : List Int) (x : Int × Int) => ((tIdx s x.1).bind fun y => (tSet s x.1 (y + x.2)).bind fun z => .ok (z) : R (List Int))) H (List.replicate N 0)) with
  | ok s => exact fun z => z
  | exc c => exact fun z => z.elim
  | bad => exact fun z => z.elim
theorem Z34_len {P : Plan} {H : List (Int × Int)} (h : ChainOk (P.1.length + P.2.1.length) H) (hs : P.1.length + P.2.1.length ≤ 100) : (Z34 P H).length ≤ 1000 := by
  unfold Z34
  rw [List.length_map, List.length_drop]
  have : (partsI (P.1.length + P.2.1.length) H).length = P.1.length + P.2.1.length := by
    have h0 : Then ((tFold (fun (s : List Int) (x : Int × Int) => ((tIdx s x.1).bind fun y => (tSet s x.1 (y + x.2)).bind fun z => .ok (z) : R (List Int))) H (List.replicate (P.1.length + P.2.1.length) 0)).bind fun _ => R.ok ()) (fun _ => (partsI (P.1.length + P.2.1.length) H).length = P.1.length + P.2.1.length) (fun _ => False) :=
      parts_fold h fun hl _ => hl
    revert h0
    cases (tFold (fun (s : List Int) (x : Int × Int) => ((tIdx s x.1).bind fun y => (tSet s x.1 (y + x.2)).bind fun z => .ok (z) : R (List Int))) H (List.replicate (P.1.length + P.2.1.length) 0)) with
    | ok s => exact fun z => z
    | exc c => exact fun z => z.elim
    | bad => exact fun z => z.elim
  omega
theorem gap_ok34 {P : Plan} {H : List (Int × Int)} {q r : Rat} (h : ChainOk (P.1.length + P.2.1.length) H) (hs : P.1.length + P.2.1.length ≤ 100) (hq' : hq q ≤ 8000) : m_gap_demands_2 [T.d (encPl34 P), T.d (eH34 H), T.d (fr q), T.d (fr r)] = .ok (foundT34 P H q r, []) := by
  obtain ⟨z1, z2⟩ := S34_hq h
  have lS : (S34 P H).length ≤ 1000 := by unfold S34; rw [List.length_map, List.length_take]; omega
  have lZ : (Z34 P H).length ≤ 1000 := Z34_len h hs
  have c1 : m_chain_parts_2 [T.d (encPl34 P), T.d (eH34 H)] = .ok (T.ot [oL (dE fr) (S34 P H), oL (dE fr) (Z34 P H)], []) := fn_t_chain_parts_2.eq (chain_ok h (by omega))
  have c2 : m_turned_about_2 [T.d (eL fr (S34 P H))] = .ok (oL (dE fr) ((S34 P H).map fun x => -x), []) := fn_t_turned_about_2.eq (turned_ok lS fun x hx => Nat.le_trans (z1 x hx) (by decide))
  have c3 : m_turned_about_2 [T.d (eL fr (Z34 P H))] = .ok (oL (dE fr) ((Z34 P H).map fun x => -x), []) := fn_t_turned_about_2.eq (turned_ok lZ fun x hx => Nat.le_trans (z2 x hx) (by decide))
  have fL : PyData.tuple [.int (-1), .int 1] = fr (-1) := by rw [fr_def]; rfl
  have c4 : m_times [T.d (fr (-1)), T.d (fr q)] = .ok (T.d (fr (-q)), []) := by
    have : rMul (-1) q = .ok (-q) := by
      refine eq_of_then ?_
      have h1 : hq (-1 : Rat) ≤ 1 := by decide +kernel
      have := st_times (P := fun x => x = -q) (E := fun _ => False) (q := -1) (r := q) (k := fun z => R.ok z) (by omega) fun z ez _ => (show Then (R.ok z) _ _ from by
        show z = -q
        rw [ez]; grind)
      have e : ((rMul (-1) q).nx.bind fun z => R.ok z) = rMul (-1) q := by
        unfold rMul L4.tOp
        cases decide (Ok2 (-1) q) <;> rfl
      rw [e] at this
      exact this
    exact fn_times.eq this
  have cm : T.calmT (T.ot [oL (dE fr) ((S34 P H).map fun x => -x), oL (dE fr) ((Z34 P H).map fun x => -x), T.d (fr r)]) = true := by
    show (T.calmT (oL (dE fr) ((S34 P H).map fun x => -x)) && (T.calmT (oL (dE fr) ((Z34 P H).map fun x => -x)) && (calm (fr r) && true))) = true
    rw [calmL34 calm_fr, calmL34 calm_fr, calm_fr]
    rfl
  have mk : mkTup [oL (dE fr) ((S34 P H).map fun x => -x), oL (dE fr) ((Z34 P H).map fun x => -x), T.d (fr r)] = T.ot [oL (dE fr) ((S34 P H).map fun x => -x), oL (dE fr) ((Z34 P H).map fun x => -x), T.d (fr r)] := rfl
  unfold m_gap_demands_2
  rw [fL]
  simp [c1, mTupRet, mLookO, c4, fzL34, c2, c3]
  rw [cm]
  rfl
structure G34 (P : Plan) (H : List (Int × Int)) (q r : Rat) : Prop where
  ch : ChainOk (P.1.length + P.2.1.length) H
  few : P.1.length + P.2.1.length ≤ 100
  rows : P.2.2.length ≤ 1000
  rl : ∀ w ∈ P.2.2, w.1.length < 1000 ∧ w.2.1.length < 1000
  zq : hq q ≤ 8000
  zr : hq r ≤ 8000
noncomputable abbrev dP34 (P : Plan) : T := T.d (encPl34 P)
noncomputable abbrev dH34 (H : List (Int × Int)) : T := T.d (eH34 H)
noncomputable abbrev hand34 (P : Plan) (H : List (Int × Int)) : T := T.d (.list [encPl34 P, eH34 H])
noncomputable abbrev dueT34 (P : Plan) (H : List (Int × Int)) (q r : Rat) : T := T.d (eL eW34 (due34 P H q r))
noncomputable def more34 (P : Plan) (H : List (Int × Int)) (q r : Rat) : T := T.ot [oL (dE (eT2 fr fr)) P.1, oL (dE (eT2 fr fr)) P.2.1, T.ol ((P.2.2 ++ due34 P H q r).map oW34)]
section
variable {P : Plan} {H : List (Int × Int)} {q r : Rat} (g : G34 P H q r)
include g
theorem handNe34 : opNe (hand34 P H) (hand34 P H) = .ok (.v (.d (.bool false))) := by
  have n1 : Nice encPl34 5 := (((nice_Q.t2 nice_Q).list).up (by decide)).t3 (((nice_Q.t2 nice_Q).list).up (by decide)) ((nice_Q.list).t3 nice_Q.list (nice_Q.up (by decide))).list
  have n2 : Nice eH34 2 := (nice_I.t2 nice_I).list
  have h1 := n1.plk P 54
  have h2 := n2.plk H 57
  have hp : pl (PyData.list [encPl34 P, eH34 H]) := by
    show (L3.plk 59 (encPl34 P) && (L3.plk 59 (eH34 H) && true)) = true
    rw [h1, h2]
    rfl
  rw [opNe_pl rfl rfl hp hp]
  simp
theorem handEq34 : opEq (hand34 P H) (hand34 P H) = .ok (.v (.d (.bool true))) := by
  have n1 : Nice encPl34 5 := (((nice_Q.t2 nice_Q).list).up (by decide)).t3 (((nice_Q.t2 nice_Q).list).up (by decide)) ((nice_Q.list).t3 nice_Q.list (nice_Q.up (by decide))).list
  have n2 : Nice eH34 2 := (nice_I.t2 nice_I).list
  have h1 := n1.plk P 54
  have h2 := n2.plk H 57
  have hp : pl (PyData.list [encPl34 P, eH34 H]) := by
    show (L3.plk 59 (encPl34 P) && (L3.plk 59 (eH34 H) && true)) = true
    rw [h1, h2]
    rfl
  rw [opEq_pl rfl rfl hp hp]
  simp
theorem s34_1 : S34_1 [some (dP34 P), some (dH34 H), some (T.d (fr q)), some (T.d (fr r)), none, none, none, none, none, none, none, none, none, none, none, none, none] =
    .ok (.next [some (dP34 P), some (dH34 H), some (T.d (fr q)), some (T.d (fr r)), some (hand34 P H), none, none, none, none, none, none, none, none, none, none, none, none]) := by
  have c1 : m__law_copy [T.d (encPl34 P)] = .ok (T.d (encPl34 P), []) := fn_t__law_copy.eq (copy_ok (by have := g.rows; omega))
  have c2 : opListOf [T.d (eH34 H)] = .ok (.nl (H.map (eT2 eI eI))) := rfl
  unfold S34_1
  simp [c1, c2]
theorem s34_2 : S34_2 [some (dP34 P), some (dH34 H), some (T.d (fr q)), some (T.d (fr r)), some (hand34 P H), none, none, none, none, none, none, none, none, none, none, none, none] =
    .ok (.next [some (dP34 P), some (dH34 H), some (T.d (fr q)), some (T.d (fr r)), some (hand34 P H), some (dueT34 P H q r), none, none, none, none, none, none, none, none, none, none, none]) := by
  have c1 : m__law_due_9 [T.d (encPl34 P), T.d (eH34 H), T.d (fr q), T.d (fr r)] = .ok (dueT34 P H q r, []) := fn_t__law_due_9.eq (due34_ok g.ch (by have := g.few; omega))
  unfold S34_2
  simp [c1]
theorem s34_3 : S34_3 [some (dP34 P), some (dH34 H), some (T.d (fr q)), some (T.d (fr r)), some (hand34 P H), some (dueT34 P H q r), none, none, none, none, none, none, none, none, none, none, none] =
    .ok (.next [some (dP34 P), some (dH34 H), some (T.d (fr q)), some (T.d (fr r)), some (hand34 P H), some (dueT34 P H q r), some (foundT34 P H q r), none, none, none, none, none, none, none, none, none, none]) := by
  have c1 := gap_ok34 (r := r) g.ch g.few g.zq
  have c2 : opIdx (hand34 P H) (T.d (.int 0)) = .ok (.v (.d (encPl34 P))) := rfl
  have c3 : opIdx (hand34 P H) (T.d (.int 1)) = .ok (.v (.d (eH34 H))) := rfl
  unfold S34_3
  simp [c1, c2, c3]
theorem fzF34 : T.fz (foundT34 P H q r) = some (eL eW34 (due34 P H q r)) := by
  unfold foundT34
  show (T.fzAll _).map PyData.list = _
  rw [fzWs34]
  rfl
theorem s34_4 : S34_4 [some (dP34 P), some (dH34 H), some (T.d (fr q)), some (T.d (fr r)), some (hand34 P H), some (dueT34 P H q r), some (foundT34 P H q r), none, none, none, none, none, none, none, none, none, none] =
    .ok (.next [some (dP34 P), some (dH34 H), some (T.d (fr q)), some (T.d (fr r)), some (hand34 P H), some (dueT34 P H q r), some (foundT34 P H q r), none, none, none, none, none, none, none, none, none, none]) := by
  have c0 := fzF34 g
  have c1 : isaT "list" (T.d (eL eW34 (due34 P H q r))) = some true := rfl
  have c2 : opNe (T.d (eL eW34 (due34 P H q r))) (T.d (eL eW34 (due34 P H q r))) = .ok (.v (.d (.bool false))) := by
    rw [ne_nice ((nice_Q.list).t3 nice_Q.list (nice_Q.up (by decide))).list (a := due34 P H q r) (b := due34 P H q r) rfl rfl]
    simp
  have c3 := handNe34 g
  unfold S34_4
  simp [c0, c1, c2, c3]
theorem isf34 : ∀ w ∈ due34 P H q r, (∀ z ∈ w.1, hq z ≤ 9000) ∧ (∀ z ∈ w.2.1, hq z ≤ 9000) ∧ hq w.2.2 ≤ 9000 ∧ w.1.length ≤ 1000 ∧ w.2.1.length ≤ 1000 := by
  obtain ⟨z1, z2⟩ := S34_hq g.ch
  have l1 : (S34 P H).length ≤ 1000 := by unfold S34; rw [List.length_map, List.length_take]; have := g.few; omega
  have l2 : (Z34 P H).length ≤ 1000 := Z34_len g.ch g.few
  have a1 := g.zq
  have a2 := g.zr
  intro w hw
  unfold due34 at hw
  rcases List.mem_cons.mp hw with e | e
  · subst e
    exact ⟨fun z hz => Nat.le_trans (z1 z hz) (by decide), fun z hz => Nat.le_trans (z2 z hz) (by decide), by show hq (-q) ≤ 9000; rw [hq_neg]; omega, l1, l2⟩
  · rw [List.mem_singleton.mp e]
    refine ⟨fun z hz => ?_, fun z hz => ?_, by show hq r ≤ 9000; omega, by rw [List.length_map]; exact l1, by rw [List.length_map]; exact l2⟩
    · obtain ⟨y, hy, rfl⟩ := List.mem_map.mp hz
      rw [hq_neg]
      exact Nat.le_trans (z1 y hy) (by decide)
    · obtain ⟨y, hy, rfl⟩ := List.mem_map.mp hz
      rw [hq_neg]
      exact Nat.le_trans (z2 y hy) (by decide)
theorem b34_5 {w : Row} (hw : w ∈ due34 P H q r) {x7 x16 : Option T} : B34_5 [some (dP34 P), some (dH34 H), some (T.d (fr q)), some (T.d (fr r)), some (hand34 P H), some (dueT34 P H q r), some (dueT34 P H q r), some (T.d (eW34 w)), none, none, none, none, none, none, none, none, x16] =
    .ok (.next [some (dP34 P), some (dH34 H), some (T.d (fr q)), some (T.d (fr r)), some (hand34 P H), some (dueT34 P H q r), some (dueT34 P H q r), some (T.d (eW34 w)), none, none, none, none, none, none, none, none, none]) := by
  obtain ⟨z1, z2, z3, l1, l2⟩ := isf34 g w hw
  have i0 : opIdx (.d (eW34 w)) (.d (.int 0)) = .ok (.v (.d (.list (w.1.map fr)))) := rfl
  have i1 : opIdx (.d (eW34 w)) (.d (.int 1)) = .ok (.v (.d (.list (w.2.1.map fr)))) := rfl
  have i2 : opIdx (.d (eW34 w)) (.d (.int 2)) = .ok (.v (.d (fr w.2.2))) := rfl
  have t0 : isaT "tuple" (T.d (eW34 w)) = some true := rfl
  have t1 : ∀ xs : List PyData, isaT "list" (T.d (.list xs)) = some true := fun _ => rfl
  obtain ⟨xs, hx⟩ : ∃ xs, xs = w.1 ++ w.2.1 := ⟨_, rfl⟩
  obtain ⟨ys, hy⟩ : ∃ ys, ys = xs ++ [w.2.2] := ⟨_, rfl⟩
  have lx : xs.length ≤ 2000 := by rw [hx, List.length_append]; omega
  have ly : ys.length ≤ 10000 := by rw [hy, List.length_append, List.length_singleton]; omega
  have a1 : opAdd (T.d (.list (w.1.map fr))) (T.d (.list (w.2.1.map fr))) = .ok (.nl (xs.map fr)) := by
    rw [hx, List.map_append]
    have : (w.1.map fr).length + (w.2.1.map fr).length ≤ sLine := by rw [List.length_map, List.length_map, show sLine = 16777216 from rfl]; omega
    show L3.guard _ _ = _
    rw [decide_eq_true this]
    rfl
  have a2 : opAdd (T.d (.list (xs.map fr))) (T.d (.list [fr w.2.2])) = .ok (.nl (ys.map fr)) := by
    have : (xs.map fr).length + [fr w.2.2].length ≤ sLine := by rw [List.length_map, show sLine = 16777216 from rfl, List.length_singleton]; omega
    rw [hy, List.map_append]
    show L3.guard _ _ = _
    rw [decide_eq_true this]
    rfl
  have fz : ∀ zs : List Rat, T.fzAll (List.map (T.d ∘ fr) zs) = some (zs.map fr) := fzA34
  have hz : ∀ z ∈ ys, hq z ≤ 9000 := fun z hz' => by
    rw [hy, hx] at hz'
    rcases List.mem_append.mp hz' with e | e
    · exact (List.mem_append.mp e).elim (z1 z) (z2 z)
    · rw [List.mem_singleton.mp e]; exact z3
  have n0 : opNe (T.d (.list [])) (T.d (.list [])) = .ok (.v (.d (.bool false))) := by
    rw [ne_nice nice_Q.list (a := ([] : List Rat)) (b := []) rfl rfl]
    simp
  unfold B34_5
  simp [i0, i1, i2, t0, t1, a1, a2, fz]
  refine lcF_eq (p := fun _ => false) (enc := fr) (out := fr) ly rfl ?_ ?_
  · intro q' hq'
    exact ⟨_, rfl, by simp [isfrac34 (hz q' hq')], by simp, rfl⟩
  · intro ρ' e
    simp at e
    have e0 : List.filter (fun _ => false) ys = [] := List.filter_eq_nil_iff.mpr fun _ _ => by simp
    rw [e0]
    simp [e, n0]
theorem s34_5 : S34_5 [some (dP34 P), some (dH34 H), some (T.d (fr q)), some (T.d (fr r)), some (hand34 P H), some (dueT34 P H q r), some (foundT34 P H q r), none, none, none, none, none, none, none, none, none, none] =
    .ok (.next [some (dP34 P), some (dH34 H), some (T.d (fr q)), some (T.d (fr r)), some (hand34 P H), some (dueT34 P H q r), some (foundT34 P H q r), none, none, none, none, none, none, none, none, none, none]) := by
  have c0 := fzF34 g
  have b1 := fun x16 => b34_5 g (w := (S34 P H, Z34 P H, -q)) (by simp [due34]) (x7 := none) (x16 := x16)
  have b2 := fun x16 => b34_5 g (w := ((S34 P H).map fun x => -x, (Z34 P H).map fun x => -x, r)) (by simp [due34]) (x7 := none) (x16 := x16)
  have ed : eL eW34 (due34 P H q r) = .list [eW34 (S34 P H, Z34 P H, -q), eW34 ((S34 P H).map fun x => -x, (Z34 P H).map fun x => -x, r)] := rfl
  unfold S34_5
  unfold mLookS
  simp only [dueT34] at b1 b2 ⊢
  simp [c0]
  have em : List.map (T.d ∘ eW34) (due34 P H q r) = [T.d (eW34 (S34 P H, Z34 P H, -q)), T.d (eW34 ((S34 P H).map fun x => -x, (Z34 P H).map fun x => -x, r))] := rfl
  rw [em]
  simp [b1, b2]
  rfl
theorem s34_6 : S34_6 [some (dP34 P), some (dH34 H), some (T.d (fr q)), some (T.d (fr r)), some (hand34 P H), some (dueT34 P H q r), some (foundT34 P H q r), none, none, none, none, none, none, none, none, none, none] =
    .ok (.next [some (dP34 P), some (dH34 H), some (T.d (fr q)), some (T.d (fr r)), some (hand34 P H), some (dueT34 P H q r), some (foundT34 P H q r), none, some (more34 P H q r), none, none, none, none, none, none, none, none]) := by
  have c0 := fzF34 g
  have c1 : m_with_demands_2 [T.d (encPl34 P), T.d (eL eW34 (due34 P H q r))] = .ok (more34 P H q r, []) := fn_t_with_demands_2.eq (with_ok (by have := g.rows; show P.2.2.length + 2 ≤ 10000; omega))
  have cw : ∀ rs : List Row, T.calmA (rs.map oW34) = true := fun rs => by
    induction rs with
    | nil => rfl
    | cons w rs ih =>
      show (T.calmT (oW34 w) && T.calmA (rs.map oW34)) = true
      rw [ih]
      show ((T.calmT (oL (dE fr) w.1) && (T.calmT (oL (dE fr) w.2.1) && (calm (fr w.2.2) && true))) && true) = true
      rw [calmL34 calm_fr, calmL34 calm_fr, calm_fr]
      rfl
  have c2 : T.calmT (more34 P H q r) = true := by
    show (T.calmT (oL (dE (eT2 fr fr)) P.1) && (T.calmT (oL (dE (eT2 fr fr)) P.2.1) && (T.calmA ((P.2.2 ++ due34 P H q r).map oW34) && true))) = true
    rw [calmL34 (fun _ => rfl), calmL34 (fun _ => rfl), cw]
    rfl
  have c3 : opIdx (hand34 P H) (T.d (.int 0)) = .ok (.v (.d (encPl34 P))) := rfl
  unfold S34_6
  simp [mLookO, c0, c1, c2, c3]
omit g in
theorem fzM34 : T.fz (more34 P H q r) = some (encPl34 (P.1, P.2.1, P.2.2 ++ due34 P H q r)) := by
  show (T.fzAll [oL (dE (eT2 fr fr)) P.1, oL (dE (eT2 fr fr)) P.2.1, T.ol ((P.2.2 ++ due34 P H q r).map oW34)]).map PyData.tuple = _
  have e1 : T.fz (T.ol ((P.2.2 ++ due34 P H q r).map oW34)) = some (eL eW34 (P.2.2 ++ due34 P H q r)) := by
    show (T.fzAll _).map PyData.list = _
    rw [fzWs34]
    rfl
  simp only [T.fzAll, fzL34, e1]
  rfl
theorem moreNe34 : opNe (T.d (encPl34 (P.1, P.2.1, P.2.2 ++ due34 P H q r))) (T.d (encPl34 (P.1, P.2.1, P.2.2 ++ due34 P H q r))) = .ok (.v (.d (.bool false))) := by
  have n1 : Nice encPl34 5 := (((nice_Q.t2 nice_Q).list).up (by decide)).t3 (((nice_Q.t2 nice_Q).list).up (by decide)) ((nice_Q.list).t3 nice_Q.list (nice_Q.up (by decide))).list
  rw [ne_nice n1 (a := (P.1, P.2.1, P.2.2 ++ due34 P H q r)) (b := (P.1, P.2.1, P.2.2 ++ due34 P H q r)) rfl rfl]
  simp
theorem sum34 : opAdd (T.d (.list (P.2.2.map eW34))) (dueT34 P H q r) = .ok (.nl ((P.2.2 ++ due34 P H q r).map eW34)) := by
  have : (P.2.2.map eW34).length + ((due34 P H q r).map eW34).length ≤ sLine := by
    have := g.rows
    rw [List.length_map, List.length_map, show sLine = 16777216 from rfl]
    show _ + 2 ≤ _
    omega
  rw [List.map_append]
  show L3.guard _ _ = _
  rw [decide_eq_true this]
  rfl
theorem s34_7 : S34_7 [some (dP34 P), some (dH34 H), some (T.d (fr q)), some (T.d (fr r)), some (hand34 P H), some (dueT34 P H q r), some (foundT34 P H q r), none, some (more34 P H q r), none, none, none, none, none, none, none, none] =
    .ok (.next [some (dP34 P), some (dH34 H), some (T.d (fr q)), some (T.d (fr r)), some (hand34 P H), some (dueT34 P H q r), some (foundT34 P H q r), none, some (more34 P H q r), none, none, none, none, none, none, none, none]) := by
  have c0 := fzF34 g
  have c1 := fzM34 (P := P) (H := H) (q := q) (r := r)
  have c2 : isaT "tuple" (T.d (encPl34 (P.1, P.2.1, P.2.2 ++ due34 P H q r))) = some true := rfl
  have i0 : opIdx (dP34 P) (.d (.int 0)) = .ok (.v (.d (.list (P.1.map (eT2 fr fr))))) := rfl
  have i1 : opIdx (dP34 P) (.d (.int 1)) = .ok (.v (.d (.list (P.2.1.map (eT2 fr fr))))) := rfl
  have i2 : opIdx (dP34 P) (.d (.int 2)) = .ok (.v (.d (.list (P.2.2.map eW34)))) := rfl
  have c3 := moreNe34 g
  have c4 := handNe34 g
  have c5 := sum34 g
  obtain ⟨rs, hrs⟩ : ∃ rs, rs = P.2.2 ++ due34 P H q r := ⟨_, rfl⟩
  rw [← hrs] at c1 c2 c3 c5
  have fz : T.fzAll (List.map (T.d ∘ eW34) rs) = some (rs.map eW34) := fzA34 rs
  have e0 : PyData.tuple [.list (P.1.map (eT2 fr fr)), .list (P.2.1.map (eT2 fr fr)), .list (rs.map eW34)] = encPl34 (P.1, P.2.1, rs) := rfl
  unfold S34_7
  simp [c0, c1, c2, i0, i1, i2, c5, fz, e0, c3, c4]
noncomputable abbrev lists34 (P : Plan) (H : List (Int × Int)) : T := T.ol [oL (dE fr) (S34 P H), oL (dE fr) (Z34 P H), oL (dE fr) ((S34 P H).map fun x => -x), oL (dE fr) ((Z34 P H).map fun x => -x)]
noncomputable abbrev holes34 (q r : Rat) : T := T.ol [T.ot [T.hl, T.hl, T.d (fr (-q))], T.ot [T.hl, T.hl, T.d (fr r)]]
omit g in
theorem s34_8 : S34_8 [some (dP34 P), some (dH34 H), some (T.d (fr q)), some (T.d (fr r)), some (hand34 P H), some (dueT34 P H q r), some (foundT34 P H q r), none, some (more34 P H q r), none, none, none, none, none, none, none, none] =
    .ok (.next [some (dP34 P), some (dH34 H), some (T.d (fr q)), some (T.d (fr r)), some (hand34 P H), some (dueT34 P H q r), some (holes34 q r), none, some (more34 P H q r), some (lists34 P H), none, none, none, none, none, none, none]) := by
  unfold S34_8
  rfl
noncomputable abbrev sizes34 (P : Plan) (H : List (Int × Int)) : T := T.d (eL eI [((S34 P H).length : Int), ((Z34 P H).length : Int), ((S34 P H).length : Int), ((Z34 P H).length : Int)])
omit g in
theorem s34_9 : S34_9 [some (dP34 P), some (dH34 H), some (T.d (fr q)), some (T.d (fr r)), some (hand34 P H), some (dueT34 P H q r), some (holes34 q r), none, some (more34 P H q r), some (lists34 P H), none, none, none, none, none, none, none] =
    .ok (.next [some (dP34 P), some (dH34 H), some (T.d (fr q)), some (T.d (fr r)), some (hand34 P H), some (dueT34 P H q r), some (holes34 q r), none, some (more34 P H q r), some (lists34 P H), some (sizes34 P H), none, none, none, none, none, none]) := by
  have c1 := fzM34 (P := P) (H := H) (q := q) (r := r)
  have c2 : T.fz (lists34 P H) = some (eL (eL fr) [S34 P H, Z34 P H, (S34 P H).map fun x => -x, (Z34 P H).map fun x => -x]) := by
    show (T.fzAll [oL (dE fr) (S34 P H), oL (dE fr) (Z34 P H), oL (dE fr) ((S34 P H).map fun x => -x), oL (dE fr) ((Z34 P H).map fun x => -x)]).map PyData.list = _
    simp only [T.fzAll, fzL34]
    rfl
  have c3 : T.fz (holes34 q r) = none := rfl
  have l : ∀ xs : List Rat, opLen [T.d (eL fr xs)] = .ok (.v (.d (.int xs.length))) := fun xs => by simp [opLen, eL]
  unfold S34_9
  simp [e_lookA34, c1, c2, c3]
  have em : [T.d (eL fr (S34 P H)), T.d (eL fr (Z34 P H)), T.d (eL fr ((S34 P H).map fun x => -x)), T.d (eL fr ((Z34 P H).map fun x => -x))] = List.map (T.d ∘ eL fr) [S34 P H, Z34 P H, (S34 P H).map fun x => -x, (Z34 P H).map fun x => -x] := rfl
  rw [em]
  refine lcU_eq (enc := eL fr) (out := fun xs => .int xs.length) (by simp) rfl ?_ ?_
  · intro xs _
    exact ⟨_, rfl, by simp [l], rfl⟩
  · intro ρ' e
    simp at e
    simp [e, lookAK]
    rfl
noncomputable abbrev app34 (xs : List Rat) : T := T.ol (xs.map (dE fr) ++ [T.d (.tuple [.int 7, .int 1])])
noncomputable abbrev listsB34 (P : Plan) (H : List (Int × Int)) : T := T.ol [app34 (S34 P H), app34 (Z34 P H), app34 ((S34 P H).map fun x => -x), app34 ((Z34 P H).map fun x => -x)]
noncomputable abbrev holesB34 (q r : Rat) : T := T.ol [T.ot [T.hl, T.hl, T.d (fr (-q))], T.ot [T.hl, T.hl, T.d (fr r)], T.d (.tuple [.int 7, .int 1])]
theorem s34_10 : S34_10 [some (dP34 P), some (dH34 H), some (T.d (fr q)), some (T.d (fr r)), some (hand34 P H), some (dueT34 P H q r), some (holes34 q r), none, some (more34 P H q r), some (lists34 P H), some (sizes34 P H), none, none, none, none, none, none] =
    .ok (.next [some (dP34 P), some (dH34 H), some (T.d (fr q)), some (T.d (fr r)), some (hand34 P H), some (dueT34 P H q r), some (holesB34 q r), none, some (more34 P H q r), some (listsB34 P H), some (sizes34 P H), none, none, none, none, none, none]) := by
  obtain ⟨l1, l2⟩ : (S34 P H).length ≤ 1000 ∧ (Z34 P H).length ≤ 1000 := ⟨by unfold S34; rw [List.length_map, List.length_take]; have := g.few; omega, Z34_len g.ch g.few⟩
  have hb : ∀ (xs : List Rat), xs.length ≤ 1000 → ∀ {a0 a1 a2 a3 a4 a5 a6 a7 a8 a9 a10 a12 a13 a14 a15 a16 : Option T}, lend 11 B34_10 (oL (dE fr) xs) [a0, a1, a2, a3, a4, a5, a6, a7, a8, a9, a10, none, a12, a13, a14, a15, a16] = .ok (app34 xs, [a0, a1, a2, a3, a4, a5, a6, a7, a8, a9, a10, none, a12, a13, a14, a15, a16]) := by
    intro xs hx a0 a1 a2 a3 a4 a5 a6 a7 a8 a9 a10 a12 a13 a14 a15 a16
    have hs : xs.length < sLine := by rw [show sLine = 16777216 from rfl]; omega
    unfold lend B34_10
    simp [clearN, putIo, takeN, oL, hs]
  have hb2 : ∀ {a0 a1 a2 a3 a4 a5 a6 a7 a8 a9 a10 a12 a13 a14 a15 a16 : Option T}, lend 11 B34_10 (holes34 q r) [a0, a1, a2, a3, a4, a5, a6, a7, a8, a9, a10, none, a12, a13, a14, a15, a16] = .ok (holesB34 q r, [a0, a1, a2, a3, a4, a5, a6, a7, a8, a9, a10, none, a12, a13, a14, a15, a16]) := by
    intro a0 a1 a2 a3 a4 a5 a6 a7 a8 a9 a10 a12 a13 a14 a15 a16
    unfold lend B34_10
    simp [clearN, putIo, takeN]
    rw [if_pos (by decide)]
    rfl
  have l3 : ((S34 P H).map fun x => -x).length ≤ 1000 := by rw [List.length_map]; exact l1
  have l4 : ((Z34 P H).map fun x => -x).length ≤ 1000 := by rw [List.length_map]; exact l2
  have g5 : decide (5 ≤ sLine) = true := by decide
  unfold S34_10
  simp only [mForAd]
  simp [List.range, List.range.loop, lendIx, hb _ l1, hb _ l2, hb _ l3, hb _ l4, hb2, g5]
theorem s34_11 : S34_11 [some (dP34 P), some (dH34 H), some (T.d (fr q)), some (T.d (fr r)), some (hand34 P H), some (dueT34 P H q r), some (holesB34 q r), none, some (more34 P H q r), some (listsB34 P H), some (sizes34 P H), none, none, none, none, none, none] =
    .ok (.next [some (dP34 P), some (dH34 H), some (T.d (fr q)), some (T.d (fr r)), some (hand34 P H), some (dueT34 P H q r), some (holesB34 q r), none, some (more34 P H q r), some (listsB34 P H), some (sizes34 P H), none, none, none, none, none, none]) := by
  have c1 := fzM34 (P := P) (H := H) (q := q) (r := r)
  have fa : ∀ xs : List Rat, T.fz (app34 xs) = some (.list (xs.map fr ++ [.tuple [.int 7, .int 1]])) := fun xs => by
    show (T.fzAll (xs.map (dE fr) ++ [T.d (.tuple [.int 7, .int 1])])).map PyData.list = _
    have : xs.map (dE fr) ++ [T.d (.tuple [.int 7, .int 1])] = (xs.map fr ++ [PyData.tuple [.int 7, .int 1]]).map fun y => T.d (id y) := by
      rw [List.map_append, List.map_map]
      rfl
    rw [this, fzA34]
    simp
  have c2 : T.fz (listsB34 P H) = some (.list ([(S34 P H).map fr ++ [.tuple [.int 7, .int 1]], (Z34 P H).map fr ++ [.tuple [.int 7, .int 1]], ((S34 P H).map fun x => -x).map fr ++ [.tuple [.int 7, .int 1]], ((Z34 P H).map fun x => -x).map fr ++ [.tuple [.int 7, .int 1]]].map PyData.list)) := by
    show (T.fzAll [app34 (S34 P H), app34 (Z34 P H), app34 ((S34 P H).map fun x => -x), app34 ((Z34 P H).map fun x => -x)]).map PyData.list = _
    simp only [T.fzAll, fa]
    rfl
  have c3 : T.fz (holesB34 q r) = none := rfl
  have l : ∀ xs : List PyData, opLen [T.d (.list xs)] = .ok (.v (.d (.int xs.length))) := fun xs => by simp [opLen]
  obtain ⟨L, hL⟩ : ∃ L : List (List PyData), L = [(S34 P H).map fr ++ [.tuple [.int 7, .int 1]], (Z34 P H).map fr ++ [.tuple [.int 7, .int 1]], ((S34 P H).map fun x => -x).map fr ++ [.tuple [.int 7, .int 1]], ((Z34 P H).map fun x => -x).map fr ++ [.tuple [.int 7, .int 1]]] := ⟨_, rfl⟩
  rw [← hL] at c2
  have lL : L.length ≤ 10000 := by rw [hL]; simp
  obtain ⟨Z, hZ⟩ : ∃ Z : List Int, Z = [((S34 P H).length : Int), ((Z34 P H).length : Int), ((S34 P H).length : Int), ((Z34 P H).length : Int)] := ⟨_, rfl⟩
  have lZ : Z.length ≤ 10000 := by rw [hZ]; simp
  have eZ : sizes34 P H = T.d (eL eI Z) := by rw [hZ]
  rw [eZ]
  have e1 : L.map (fun xs => PyData.int xs.length) = Z.map (fun n => PyData.int (n + 1)) := by
    rw [hL, hZ]
    simp
  have n0 : opNe (T.d (.list (Z.map fun n => PyData.int (n + 1)))) (T.d (.list (Z.map fun n => PyData.int (n + 1)))) = .ok (.v (.d (.bool false))) := by
    have h0 : Z.map (fun n => PyData.int (n + 1)) = (Z.map fun n => n + 1).map eI := by rw [List.map_map]; rfl
    rw [h0, ne_nice nice_I.list (a := Z.map fun n => n + 1) (b := Z.map fun n => n + 1) rfl rfl]
    simp
  unfold S34_11
  simp [c1, c2, c3]
  refine lcU_eq (enc := PyData.list) (out := fun xs => .int xs.length) lL rfl ?_ ?_
  · intro xs _
    exact ⟨_, rfl, by simp [l], rfl⟩
  · intro ρ' e
    simp at e
    have fz1 : T.fzAll (List.map (T.d ∘ fun xs : List PyData => PyData.int xs.length) L) = some (Z.map fun n => PyData.int (n + 1)) := by
      rw [← e1]
      exact fzA34 L
    have fz2 : T.fzAll (List.map (T.d ∘ fun n : Int => PyData.int (n + 1)) Z) = some (Z.map fun n => PyData.int (n + 1)) := fzA34 Z
    simp [e, fz1]
    refine lcU_eq (enc := eI) (out := fun n => .int (n + 1)) lZ rfl ?_ ?_
    · intro n _
      exact ⟨_, rfl, by simp, rfl⟩
    · intro ρ2 e2
      simp at e2
      simp [e2, fz2, n0]
theorem s34_12 : S34_12 [some (dP34 P), some (dH34 H), some (T.d (fr q)), some (T.d (fr r)), some (hand34 P H), some (dueT34 P H q r), some (holesB34 q r), none, some (more34 P H q r), some (listsB34 P H), some (sizes34 P H), none, none, none, none, none, none] =
    .ok (.next [some (dP34 P), some (dH34 H), some (T.d (fr q)), some (T.d (fr r)), some (hand34 P H), some (dueT34 P H q r), some (holesB34 q r), none, some (more34 P H q r), some (listsB34 P H), some (sizes34 P H), none, none, none, none, none, none]) := by
  have c1 := fzM34 (P := P) (H := H) (q := q) (r := r)
  have i0 : opIdx (dP34 P) (.d (.int 0)) = .ok (.v (.d (.list (P.1.map (eT2 fr fr))))) := rfl
  have i1 : opIdx (dP34 P) (.d (.int 1)) = .ok (.v (.d (.list (P.2.1.map (eT2 fr fr))))) := rfl
  have i2 : opIdx (dP34 P) (.d (.int 2)) = .ok (.v (.d (.list (P.2.2.map eW34)))) := rfl
  have c3 := moreNe34 g
  have c5 := sum34 g
  obtain ⟨rs, hrs⟩ : ∃ rs, rs = P.2.2 ++ due34 P H q r := ⟨_, rfl⟩
  rw [← hrs] at c1 c3 c5
  have fz : T.fzAll (List.map (T.d ∘ eW34) rs) = some (rs.map eW34) := fzA34 rs
  have e0 : PyData.tuple [.list (P.1.map (eT2 fr fr)), .list (P.2.1.map (eT2 fr fr)), .list (rs.map eW34)] = encPl34 (P.1, P.2.1, rs) := rfl
  unfold S34_12
  simp [c1, i0, i1, i2, c5, fz, e0, c3]
noncomputable abbrev one34 (xs : List (Rat × Rat)) : T := T.ol (xs.map (dE (eT2 fr fr)) ++ [T.d (.tuple [.int 0, .int 1])])
theorem s34_13 : S34_13 [some (dP34 P), some (dH34 H), some (T.d (fr q)), some (T.d (fr r)), some (hand34 P H), some (dueT34 P H q r), some (holesB34 q r), none, some (more34 P H q r), some (listsB34 P H), some (sizes34 P H), none, none, none, none, none, none] =
    .ok (.next [some (dP34 P), some (dH34 H), some (T.d (fr q)), some (T.d (fr r)), some (hand34 P H), some (dueT34 P H q r), some (holesB34 q r), none, some (T.ot [one34 P.1, oL (dE (eT2 fr fr)) P.2.1, T.ol ((P.2.2 ++ due34 P H q r).map oW34)]), some (listsB34 P H), some (sizes34 P H), none, none, none, none, none, none]) := by
  have hs : P.1.length < sLine := by have := g.few; rw [show sLine = 16777216 from rfl]; omega
  unfold S34_13 more34
  simp [oL, hs]
theorem s34_14 : S34_14 [some (dP34 P), some (dH34 H), some (T.d (fr q)), some (T.d (fr r)), some (hand34 P H), some (dueT34 P H q r), some (holesB34 q r), none, some (T.ot [one34 P.1, oL (dE (eT2 fr fr)) P.2.1, T.ol ((P.2.2 ++ due34 P H q r).map oW34)]), some (listsB34 P H), some (sizes34 P H), none, none, none, none, none, none] =
    .ok (.next [some (dP34 P), some (dH34 H), some (T.d (fr q)), some (T.d (fr r)), some (hand34 P H), some (dueT34 P H q r), some (holesB34 q r), none, some (T.ot [one34 P.1, one34 P.2.1, T.ol ((P.2.2 ++ due34 P H q r).map oW34)]), some (listsB34 P H), some (sizes34 P H), none, none, none, none, none, none]) := by
  have hs : P.2.1.length < sLine := by have := g.few; rw [show sLine = 16777216 from rfl]; omega
  unfold S34_14
  simp [oL, hs]
omit g in
theorem b34_15 {e0 e1 e2 e3 e4 e5 e6 e7 e9 e10 e11 x14 e15 e16 : Option T} {as bs : List T} (ha : as.length < 1000) (hb : bs.length < 1000) :
    B34_15 [e0, e1, e2, e3, e4, e5, e6, e7, none, e9, e10, e11, some (.ol as), some (.ol bs), x14, e15, e16] = .ok (.next [e0, e1, e2, e3, e4, e5, e6, e7, none, e9, e10, e11, some (.ol (as ++ [.d (.tuple [.int 9, .int 1])])), some (.ol (bs ++ [.d (.tuple [.int 9, .int 1])])), x14, e15, e16]) := by
  have h1 : as.length < sLine := by
    have : sLine = 16777216 := rfl
    omega
  have h2 : bs.length < sLine := by
    have : sLine = 16777216 := rfl
    omega
  unfold B34_15
  simp [h1, h2]
noncomputable def nine34 (r : Row) : T := .ot [.ol (r.1.map (dE fr) ++ [T.d (.tuple [.int 9, .int 1])]), .ol (r.2.1.map (dE fr) ++ [T.d (.tuple [.int 9, .int 1])]), .d (fr r.2.2)]
omit g in
theorem take_succ34 {α : Type} : ∀ {xs : List α} {k : Nat} {x : α}, xs[k]? = some x → xs.take (k + 1) = xs.take k ++ [x]
  | [], k, x, h => by simp at h
  | a :: xs, 0, x, h => by simp at h; subst h; rfl
  | a :: xs, k + 1, x, h => by
    have := take_succ34 (xs := xs) (k := k) (by simpa using h)
    simp only [List.take_succ_cons] at this ⊢
    rw [this]; rfl
omit g in
theorem turns34 {e0 e1 e2 e3 e4 e5 e6 e7 e9 e10 e11 e15 e16 : Option T} {A C : T} : ∀ (n k : Nat) (rows : List Row) (x12 x13 x14 : Option T), n + k = rows.length →
    (∀ r ∈ rows, r.1.length < 1000 ∧ r.2.1.length < 1000) →
    ∃ y12 y13 y14, turnsOT 8 [.ix 2] [12, 13, 14] B34_15 n k [e0, e1, e2, e3, e4, e5, e6, e7, some (.ot [A, C, .ol ((rows.take k).map nine34 ++ (rows.drop k).map oW34)]), e9, e10, e11, x12, x13, x14, e15, e16] = .ok (.next [e0, e1, e2, e3, e4, e5, e6, e7, some (.ot [A, C, .ol (rows.map nine34)]), e9, e10, e11, y12, y13, y14, e15, e16])
  | 0, k, rows, x12, x13, x14, hk, hb => by
    have f1 : rows.take k = rows := List.take_of_length_le (by omega)
    have f2 : rows.drop k = [] := List.drop_eq_nil_of_le (by omega)
    refine ⟨x12, x13, x14, ?_⟩
    rw [f1, f2, List.map_nil, List.append_nil]
    unfold turnsOT
    show L3.guard (decide ((rows.map nine34).length = k)) _ = _
    rw [decide_eq_true (by rw [List.length_map]; omega)]
    rfl
  | n + 1, k, rows, x12, x13, x14, hk, hb => by
    have hlt : k < rows.length := by omega
    have ek : ((rows.take k).map nine34 ++ (rows.drop k).map oW34)[k]? = some (oW34 rows[k]) := by
      rw [List.getElem?_append_right (by rw [List.length_map, List.length_take]; omega), List.length_map, List.length_take, show k - min k rows.length = 0 by omega, List.drop_eq_getElem_cons hlt]
      rfl
    have es : ((rows.take k).map nine34 ++ (rows.drop k).map oW34).set k (nine34 rows[k]) = (rows.take (k + 1)).map nine34 ++ (rows.drop (k + 1)).map oW34 := by
      rw [List.set_append_right _ _ (by rw [List.length_map, List.length_take]; omega), List.length_map, List.length_take, show k - min k rows.length = 0 by omega, List.drop_eq_getElem_cons hlt, List.map_cons, List.set_cons_zero, take_succ34 (List.getElem?_eq_getElem hlt), List.map_append, List.append_assoc]
      rfl
    obtain ⟨g1, g2⟩ := hb rows[k] (List.getElem_mem hlt)
    obtain ⟨y12, y13, y14, ih⟩ := turns34 n (k + 1) rows none none none (by omega) hb
    refine ⟨y12, y13, y14, ?_⟩
    rw [← ih, ← es]
    generalize (rows.take k).map nine34 ++ (rows.drop k).map oW34 = ts at *
    show R.bind (turnOT 8 [.ix 2] [12, 13, 14] B34_15 k _) _ = _
    have et : turnOT 8 [.ix 2] [12, 13, 14] B34_15 k [e0, e1, e2, e3, e4, e5, e6, e7, some (.ot [A, C, .ol ts]), e9, e10, e11, x12, x13, x14, e15, e16] = .ok [e0, e1, e2, e3, e4, e5, e6, e7, some (.ot [A, C, .ol (ts.set k (nine34 rows[k]))]), e9, e10, e11, none, none, none, e15, e16] := by
      unfold turnOT
      show R.bind (ofO ts[k]?) _ = _
      rw [ek]
      show R.bind (B34_15 [e0, e1, e2, e3, e4, e5, e6, e7, none, e9, e10, e11, some (.ol (rows[k].1.map (dE fr))), some (.ol (rows[k].2.1.map (dE fr))), some (.d (fr rows[k].2.2)), e15, e16]) _ = _
      rw [b34_15 (by rw [List.length_map]; exact g1) (by rw [List.length_map]; exact g2)]
      rfl
    rw [et]
    rfl
omit g in
theorem forOT34 {e0 e1 e2 e3 e4 e5 e6 e7 e9 e10 e11 x12 x13 x14 e15 e16 : Option T} {A C : T} {rows : List Row} (hb : ∀ r ∈ rows, r.1.length < 1000 ∧ r.2.1.length < 1000) :
    ∃ y12 y13 y14, mForOT 8 (kIx kHere (pC (.int 2))) [12, 13, 14] B34_15 [e0, e1, e2, e3, e4, e5, e6, e7, some (.ot [A, C, .ol (rows.map oW34)]), e9, e10, e11, x12, x13, x14, e15, e16] = .ok (.next [e0, e1, e2, e3, e4, e5, e6, e7, some (.ot [A, C, .ol (rows.map nine34)]), e9, e10, e11, y12, y13, y14, e15, e16]) := by
  obtain ⟨y12, y13, y14, e⟩ := turns34 (e0 := e0) (e1 := e1) (e2 := e2) (e3 := e3) (e4 := e4) (e5 := e5) (e6 := e6) (e7 := e7) (e9 := e9) (e10 := e10) (e11 := e11) (e15 := e15) (e16 := e16) (A := A) (C := C) rows.length 0 rows x12 x13 x14 (by omega) hb
  refine ⟨y12, y13, y14, ?_⟩
  rw [List.take_zero, List.map_nil, List.nil_append, List.drop_zero] at e
  rw [← e]
  show turnsOT 8 [.ix 2] [12, 13, 14] B34_15 (rows.map oW34).length 0 _ = _
  rw [List.length_map]
theorem s34_15 : ∃ A C rows y12 y13 y14, S34_15 [some (dP34 P), some (dH34 H), some (T.d (fr q)), some (T.d (fr r)), some (hand34 P H), some (dueT34 P H q r), some (holesB34 q r), none, some (T.ot [one34 P.1, one34 P.2.1, T.ol ((P.2.2 ++ due34 P H q r).map oW34)]), some (listsB34 P H), some (sizes34 P H), none, none, none, none, none, none] =
    .ok (.next [some (dP34 P), some (dH34 H), some (T.d (fr q)), some (T.d (fr r)), some (hand34 P H), some (dueT34 P H q r), some (holesB34 q r), none, some (T.ot [A, C, T.ol rows]), some (listsB34 P H), some (sizes34 P H), none, y12, y13, y14, none, none]) := by
  have hr : ∀ w ∈ P.2.2 ++ due34 P H q r, w.1.length < 1000 ∧ w.2.1.length < 1000 := fun w hw => by
    rcases List.mem_append.mp hw with e | e
    · exact g.rl w e
    · obtain ⟨l1, l2⟩ : (S34 P H).length ≤ 100 ∧ (Z34 P H).length ≤ 100 := by
        have hp := partsI_len34 g.ch
        have := g.few
        unfold S34 Z34
        rw [List.length_map, List.length_map, List.length_take, List.length_drop, hp]
        omega
      unfold due34 at e
      rcases List.mem_cons.mp e with z | z
      · subst z
        exact ⟨by show (S34 P H).length < 1000; omega, by show (Z34 P H).length < 1000; omega⟩
      · rw [List.mem_singleton.mp z]
        exact ⟨by show ((S34 P H).map _).length < 1000; rw [List.length_map]; omega, by show ((Z34 P H).map _).length < 1000; rw [List.length_map]; omega⟩
  unfold S34_15
  obtain ⟨y12, y13, y14, e⟩ := forOT34 (e0 := some (dP34 P)) (e1 := some (dH34 H)) (e2 := some (T.d (fr q))) (e3 := some (T.d (fr r))) (e4 := some (hand34 P H)) (e5 := some (dueT34 P H q r)) (e6 := some (holesB34 q r)) (e7 := none) (e9 := some (listsB34 P H)) (e10 := some (sizes34 P H)) (e11 := none) (x12 := none) (x13 := none) (x14 := none) (e15 := none) (e16 := none) (A := one34 P.1) (C := one34 P.2.1) hr
  exact ⟨_, _, _, y12, y13, y14, e⟩
theorem s34_16 {A C : T} {rows : List T} {y12 y13 y14 : Option T} : ∃ ρ, S34_16 [some (dP34 P), some (dH34 H), some (T.d (fr q)), some (T.d (fr r)), some (hand34 P H), some (dueT34 P H q r), some (holesB34 q r), none, some (T.ot [A, C, T.ol rows]), some (listsB34 P H), some (sizes34 P H), none, y12, y13, y14, none, none] = .ok (.ret (.d (.bool true)) ρ) := by
  have c1 := gap_ok34 (r := r) g.ch g.few g.zq
  have c2 : opIdx (hand34 P H) (T.d (.int 0)) = .ok (.v (.d (encPl34 P))) := rfl
  have c3 : opIdx (hand34 P H) (T.d (.int 1)) = .ok (.v (.d (eH34 H))) := rfl
  have c4 := handEq34 g
  have c5 := fzF34 g
  have c6 : opEq (T.d (eL eW34 (due34 P H q r))) (T.d (eL eW34 (due34 P H q r))) = .ok (.v (.d (.bool true))) := by
    rw [eq_nice ((nice_Q.list).t3 nice_Q.list (nice_Q.up (by decide))).list (a := due34 P H q r) (b := due34 P H q r) rfl rfl]
    simp
  unfold S34_16
  simp [c1, c2, c3, c4, c5, c6]
theorem good34_ok : m__law_good_10 [dE encPl34 P, dE (eL (eT2 eI eI)) H, dE fr q, dE fr r] = .ok (dE eB true, []) := by
  obtain ⟨A, C, rows, y12, y13, y14, e15⟩ := s34_15 g
  obtain ⟨ρ, e16⟩ := s34_16 g (A := A) (C := C) (rows := rows) (y12 := y12) (y13 := y13) (y14 := y14)
  rw [good34_eq]
  simp [-List.map_append, s34_1 g, s34_2 g, s34_3 g, s34_4 g, s34_5 g, s34_6 g, s34_7 g, s34_8, s34_9, s34_10 g, s34_11 g, s34_12 g, s34_13 g, s34_14 g, e15, e16]
end
end Sr
namespace Sr
open PySem PySem.Spec PyProof.Rows L2 L3 L4
theorem chain34_spec {p : Pl} {n : Int} {N : Nat} {E : Str → Prop} (hp : PlOk n p) (hn : n ≤ 20000) (h0 : 0 < N) (h1 : N ≤ 100) : Then (t__law_chain p (N : Int)) (fun r => ChainOk N r.1 ∧ PlOk (n + 100) r.2) E := by
  unfold t__law_chain
  refine st_take27 hp (by omega) (by decide) (by decide) fun v q v0 v1 hq => ?_
  refine st_range (by omega) (by omega) (by omega) (by omega) ?_
  refine st_fold (fun j s => s.2.length = j ∧ (∀ x ∈ s.2, 0 ≤ x.1 ∧ x.1 < (N : Int) ∧ -B34 ≤ x.2 ∧ x.2 ≤ B34) ∧ PlOk (n + 1 + 4 * j) s.1) ⟨rfl, by simp, hq.mono (by omega)⟩ ?_ ?_
  · rintro j x s hx ⟨hl, hc, hs⟩
    obtain ⟨_, hj⟩ := get_rgI hx
    have hj8 : j < 9 := by omega
    refine st_take27 hs (by omega) (by decide) (by decide) fun a p1 a0 a1 g1 => ?_
    refine st_op (by decide +kernel) ?_
    refine st_take27 g1 (by omega) (by decide) (by decide) fun b p2 b0 b1 g2 => ?_
    refine st_op (by decide +kernel) ?_
    refine st_mul (by decide +kernel) ?_
    refine st_take27 g2 (by omega) (by decide) (by decide) fun c p3 c0 c1 g3 => ?_
    refine st_idxM (by simpa using c0) (by simpa using c1) fun z hz => ?_
    refine st_take27 g3 (by omega) (by omega) (by
      have : ib (N : Int) ≤ 7 := ib_le.mpr (by omega)
      omega) fun d p4 d0 d1 g4 => ?_
    refine st_app (by omega) ?_
    refine st_end ⟨by rw [List.length_append, hl]; rfl, fun y hy => ?_, g4.mono (by omega)⟩
    rcases List.mem_append.mp hy with e | e
    · exact hc y e
    · rw [List.mem_singleton.mp e]
      have hB : B34 = 500000000000000000000000000000 := rfl
      have p30 : (10 : Int) ^ Int.toNat 30 = 1000000000000000000000000000000 := by decide +kernel
      have p29 : (5 : Int) * 10 ^ Int.toNat 29 = 500000000000000000000000000000 := by decide +kernel
      rw [p30] at b1
      rw [p29] at hz
      have hz' : -B34 ≤ z ∧ z ≤ B34 := by
        rw [hB]
        simp only [List.mem_cons, List.not_mem_nil, or_false] at hz
        rcases hz with e | e | e | e <;> subst e <;> constructor <;> omega
      exact ⟨d0, d1, hz'⟩
  · rintro s ⟨hl, hc, hs⟩
    rw [len_rgI] at hl hs
    exact st_end ⟨⟨by show s.2.length ≤ 8; omega, hc⟩, hs.mono (by omega)⟩
theorem law34 (ns : List Int) : Then (t_law_56 ns) (fun b => b = true) (fun _ => False) := by
  unfold t_law_56
  refine st_call (plan27_spec (by decide) (by decide) (by decide) (by decide) (by decide) (by decide)) ?_
  rintro P ⟨m, f, m1, m2, hf, hG, hD, hl⟩
  have hm : m ≤ 3 := by omega
  have hf3 : f ≤ 3 := by omega
  obtain ⟨hi, e⟩ : ∃ hi : Int, hi = tMax (20 : Int) (tMin (tLen ns) (31 : Int)) := ⟨_, rfl⟩
  rw [← e]
  have hhi : 0 ≤ hi ∧ hi ≤ 31 := by
    rw [e]
    unfold tMax tMin
    split <;> split <;> simp_all <;> omega
  refine st_range (by omega) (by omega) (by omega) (by omega) ?_
  have ec : t__law_copy P = .ok P := copy_ok (by omega)
  refine st_loop (fun _ _ => True) (fun _ => True) (fun _ => False) trivial (fun _ _ => trivial) ?_ ?_ (fun _ h => h.elim)
  · intro j x s hx _
    obtain ⟨ex, hj⟩ := get_rgI hx
    refine st_call (pool27_spec (by omega) (by omega)) fun p1 g1 => ?_
    have eN : (tLen P.1) + (tLen P.2.1) = ((m + f : Nat) : Int) := by rw [tLen_eq, tLen_eq, hG.la, hG.lb]; omega
    rw [eN]
    refine st_call (chain34_spec (N := m + f) g1 (by omega) (by omega) (by omega)) fun ⟨H, p2⟩ ⟨hc, g2⟩ => ?_
    refine st_call (frac27_spec g2 (by omega)) fun ⟨q, p3⟩ ⟨⟨q1, q2⟩, g3⟩ => ?_
    refine st_call (frac27_spec g3 (by omega)) fun ⟨r, p4⟩ ⟨⟨r1, r2⟩, g4⟩ => ?_
    have gg : G34 P H q r := by
      refine ⟨by rw [hG.la, hG.lb]; exact hc, by rw [hG.la, hG.lb]; omega, by omega, fun w hw => ?_, by have : hq q ≤ 12 := q1; omega, by have : hq r ≤ 12 := r1; omega⟩
      have := hG.sd w hw
      have h1 := this.la
      have h2 := this.lb
      omega
    refine st_callE (good34_of (good34_ok gg)) ?_
    exact st_end trivial
  · intro s _
    refine st_callE ec ?_
    refine st_callE (with_ok (by show P.2.2.length + 0 ≤ 10000; omega)) ?_
    refine st_end ?_
    rw [List.append_nil]
    simp
theorem law_k34_holds (ns : List Int) (h : ns.length ≤ 63) : Then (m_law_56 [scr ns]) (fun r => r.1 = .d (.bool true)) (fun _ => False) := by
  refine (fn_t_law_56.spec (law34 ns)).imp ?_
  rintro _ ⟨b, rfl, rfl⟩
  rfl
end Sr
open PySem PySem.W PyProof.Rows
set_option maxRecDepth 100000 in
set_option maxHeartbeats 0 in
theorem PySem.Challenge.cw_shimright_k34_gap_demands_holds : PySem.Challenge.rw_shimright_k34_gap_demands.Holds := by
  w_on; o_law; k_head; (case hw => w_witness2)
  k_fill
  refine L2.walk_of (l := PySem.Challenge.rw_shimright_k34_gap_demands) (n := 63) (k := 7) (x := "script") (CX := fun _ => L2.CX0) (sp := fun w => L3.spT _ false (fun _ => none) 1 [] Sr.m_law_56) rfl (by decide) rfl ⟨rfl, by decide, by decide⟩ (fun w h Y => PySem.W.kIn_of Y) ?F (fun _ _ a ns hl hO hS => L3.law_sp hO hS (Sr.law_k34_holds ns hl)) (fun _ _ _ _ _ h => h)
  case F =>
    intro w mg fa h KX G hmg
    refine' Sr.all_mk KX G hmg ?a0 ?l0 ?c0 ?k0 ?a1 ?l1 ?c1 ?k1 ?a2 ?l2 ?c2 ?k2 ?a3 ?l3 ?c3 ?k3 ?a4 ?l4 ?c4 ?k4 ?a5 ?l5 ?c5 ?k5 ?a6 ?l6 ?c6 ?k6 ?a7 ?l7 ?c7 ?k7 ?a8 ?l8 ?c8 ?k8 ?a9 ?l9 ?c9 ?k9 ?a10 ?l10 ?c10 ?k10 ?a11 ?l11 ?c11 ?k11 ?a12 ?l12 ?c12 ?k12 ?a13 ?l13 ?c13 ?k13 ?a14 ?l14 ?c14 ?k14 ?a15 ?l15 ?c15 ?k15 ?a16 ?l16 ?c16 ?k16 ?a17 ?l17 ?c17 ?k17 ?a18 ?l18 ?c18 ?k18 ?a19 ?l19 ?c19 ?k19 ?a20 ?l20 ?c20 ?k20 ?a21 ?l21 ?c21 ?k21 ?a22 ?l22 ?c22 ?k22 ?z0 ?z1 ?z2 ?z3 ?z4 ?z5 ?z6 ?z7 ?z8 ?z9 ?y0 ?r0
    (case a0 => k_is)
    (case l0 => k_is)
    (case c0 => k_is)
    (case k0 => k_is)
    (case a1 => k_is)
    (case l1 => k_is)
    (case c1 => k_is)
    (case k1 => k_is)
    (case a2 => k_is)
    (case l2 => k_is)
    (case c2 => k_is)
    (case k2 => k_is)
    (case a3 => k_is)
    (case l3 => k_is)
    (case c3 => k_is)
    (case k3 => k_is)
    (case a4 => k_is)
    (case l4 => k_is)
    (case c4 => k_is)
    (case k4 => k_is)
    (case a5 => k_is)
    (case l5 => k_is)
    (case c5 => k_is)
    (case k5 => k_is)
    (case a6 => k_is)
    (case l6 => k_is)
    (case c6 => k_is)
    (case k6 => k_is)
    (case a7 => k_is)
    (case l7 => k_is)
    (case c7 => k_is)
    (case k7 => k_is)
    (case a8 => k_is)
    (case l8 => k_is)
    (case c8 => k_is)
    (case k8 => k_is)
    (case a9 => k_is)
    (case l9 => k_is)
    (case c9 => k_is)
    (case k9 => k_is)
    (case a10 => k_is)
    (case l10 => k_is)
    (case c10 => k_is)
    (case k10 => k_is)
    (case a11 => k_is)
    (case l11 => k_is)
    (case c11 => k_is)
    (case k11 => k_is)
    (case a12 => k_is)
    (case l12 => k_is)
    (case c12 => k_is)
    (case k12 => k_is)
    (case a13 => k_is)
    (case l13 => k_is)
    (case c13 => k_is)
    (case k13 => k_is)
    (case a14 => k_is)
    (case l14 => k_is)
    (case c14 => k_is)
    (case k14 => k_is)
    (case a15 => k_is)
    (case l15 => k_is)
    (case c15 => k_is)
    (case k15 => k_is)
    (case a16 => k_is)
    (case l16 => k_is)
    (case c16 => k_is)
    (case k16 => k_is)
    (case a17 => k_is)
    (case l17 => k_is)
    (case c17 => k_is)
    (case k17 => k_is)
    (case a18 => k_is)
    (case l18 => k_is)
    (case c18 => k_is)
    (case k18 => k_is)
    (case a19 => k_is)
    (case l19 => k_is)
    (case c19 => k_is)
    (case k19 => k_is)
    (case a20 => k_is)
    (case l20 => k_is)
    (case c20 => k_is)
    (case k20 => k_is)
    (case a21 => k_is)
    (case l21 => k_is)
    (case c21 => k_is)
    (case k21 => k_is)
    (case a22 => k_is)
    (case l22 => k_is)
    (case c22 => k_is)
    (case k22 => k_is)
    (case z0 => k_is)
    (case z1 => k_is)
    (case z2 => k_is)
    (case z3 => k_is)
    (case z4 => k_is)
    (case z5 => k_is)
    (case z6 => k_is)
    (case z7 => k_is)
    (case z8 => k_is)
    (case z9 => k_is)
    (case y0 => k_is)
    (case r0 => k_is)
