import PyProof.Rows.All
import PySem.Challenge.RW_hawserweb_k03_likenesses_solved
import Wide.All
import OpenK.AllK
import Wide.FinOn
import HandS.ForMost
import HandS.Wide
import HandS.Exc
import HandS.ExcOwn
import HandS.TryOnly
import HandS.TryMany
import HandS.WordsExc
import HandS.CallSlots
import HandS.TupAny
import HandS.IsInst
import HandS.Flow
import HandS.Style
set_option Elab.async false
set_option linter.all false
set_option maxRecDepth 100000
set_option maxHeartbeats 4000000
set_option autoImplicit false
namespace Dv
open PySem PySem.Spec PyProof.Rows L2

/-! ### values as data; mutable objects stand in a store -/
inductive Dt where
  | non | bl (b : Bool) | int (i : Int) | str (s : Str) | ty (n : String) | cls (c : String)
  | tup (ds : List Dt) | lst (ds : List Dt) | fz (ds : List Dt) | ins (c : String) (ns : List Str) (ds : List Dt) | dct (ks : List Key) (ds : List Dt) | ref (i : Nat)
inductive Ob where
  | lst (ds : List Dt) | ins (c : String) (ns : List Str) (ds : List Dt) | dct (ks : List Key) (ds : List Dt)
abbrev Store := List Ob
abbrev Env := List (Option Dt)
/-- an exception of a class of the text -/
structure Ex where
  c : String
  ns : List Str
  ds : List Dt
inductive R (α : Type) where
  | ok (a : α) (S : Store) | err (x : Ex) (S : Store) | stuck
@[reducible] def R.bind {α β : Type} (r : R α) (f : α → Store → R β) : R β := match r with
  | .ok a S => f a S
  | .err x S => .err x S
  | .stuck => .stuck
inductive Fl where
  | nx | bk | ct | rt (d : Dt)
inductive RS where
  | ok (f : Fl) (σ : Env) (S : Store) | err (x : Ex) (σ : Env) (S : Store) | stuck
/-- what the names of classes mean -/
structure Gv where
  K : PySem.W.Frag
  cl : String → Option Addr

/-- the addresses of the store; further ones that change meanwhile -/
structure Io where
  l : List Addr
  h : List Addr
instance : Membership Addr Io := ⟨fun io a => a ∈ io.l ∨ a ∈ io.h⟩
theorem Io.mem {a : Addr} {io : Io} : a ∈ io ↔ a ∈ io.l ∨ a ∈ io.h := Iff.rfl
abbrev Io.push (io : Io) (p : Addr) : Io := ⟨io.l ++ [p], io.h⟩
abbrev Io.take (io : Io) (n : Nat) : Io := ⟨io.l.take n, io.h⟩
def KTup (K : PySem.W.Frag) (a : Addr) (xs : List V) : Prop := ∃ (o : Obj) (its : Array Value) (n : Nat), K.lookup a = some o ∧ o.cls = .type "tuple" ∧ o.data = .seq its n ∧ its.size ≤ sizeLine ∧ Vals xs its.toList
def KLst (K : PySem.W.Frag) (a : Addr) (xs : List V) : Prop := ∃ (o : Obj) (its : Array Value) (n : Nat), K.lookup a = some o ∧ o.cls = .type "list" ∧ o.dict = none ∧ o.data = .seq its n ∧ its.size ≤ sizeLine ∧ Vals xs its.toList

mutual
inductive RelD (G : Gv) (io : Io) (H : Hp) : Dt → V → Prop
  | non : RelD G io H .non .non
  | bl (b : Bool) : RelD G io H (.bl b) (.bl b)
  | int (i : Int) : RelD G io H (.int i) (.int i)
  | str (s : Str) : RelD G io H (.str s) (.str s)
  | ty (n : String) : RelD G io H (.ty n) (.ty n)
  | cls {c : String} {C : Addr} : G.cl c = some C → RelD G io H (.cls c) (.ref C)
  | tup {a : Addr} {ds : List Dt} {vs : List V} : (H a = some (.tup vs) ∧ a ∉ io) ∨ KTup G.K a vs → RelDs G io H ds vs → RelD G io H (.tup ds) (.ref a)
  | lst {a : Addr} {ds : List Dt} {vs : List V} : H a = some (.lst vs) → a ∉ io → RelDs G io H ds vs → RelD G io H (.lst ds) (.ref a)
  | fz {a : Addr} {ds : List Dt} {vs : List V} : (Rd H a (.lst vs) ∧ a ∉ io) ∨ KLst G.K a vs → RelDs G io H ds vs → RelD G io H (.fz ds) (.ref a)
  | ins {a C dx : Addr} {c : String} {ns : List Str} {ds : List Dt} {vs : List V} : H a = some (.ins C dx (ns.zip vs)) → a ∉ io → G.cl c = some C → ns.length = ds.length → RelDs G io H ds vs → RelD G io H (.ins c ns ds) (.ref a)
  | dct {a : Addr} {ks : List Key} {ds : List Dt} {vs : List V} : H a = some (.dK (ks.zip vs)) → a ∉ io → ks.length = ds.length → RelDs G io H ds vs → RelD G io H (.dct ks ds) (.ref a)
  | ref {a : Addr} {i : Nat} : io.l[i]? = some a → RelD G io H (.ref i) (.ref a)
inductive RelDs (G : Gv) (io : Io) (H : Hp) : List Dt → List V → Prop
  | nil : RelDs G io H [] []
  | cons {d : Dt} {v : V} {ds : List Dt} {vs : List V} : RelD G io H d v → RelDs G io H ds vs → RelDs G io H (d :: ds) (v :: vs)
end

structure Grow (io : Io) (H : Hp) (io' : Io) (H' : Hp) : Prop where
  pre : ∃ t, io' = ⟨io.l ++ t, io.h⟩
  keep : ∀ b o, H b = some o → b ∉ io.l → H' b = some o
  new : ∀ a, a ∈ io'.l → a ∉ io.l → H a = none
theorem Grow.refl {io : Io} {H : Hp} : Grow io H io H := ⟨⟨[], by simp⟩, fun _ _ h _ => h, fun a h n => absurd h n⟩
theorem Grow.trans {io i1 i2 : Io} {H H1 H2 : Hp} (a : Grow io H i1 H1) (b : Grow i1 H1 i2 H2) : Grow io H i2 H2 := by
  obtain ⟨t, rfl⟩ := a.pre
  obtain ⟨u, rfl⟩ := b.pre
  refine ⟨⟨t ++ u, by simp⟩, fun c o h n => ?_, fun c h n => ?_⟩
  · refine b.keep c o (a.keep c o h n) fun hm => ?_
    have z := a.new c hm n
    rw [h] at z
    cases z
  · by_cases hm : c ∈ io.l ++ t
    · exact a.new c hm n
    · have z := b.new c h hm
      cases q : H c with
      | none => rfl
      | some o =>
        rw [a.keep c o q n] at z
        cases z
theorem Grow.notin {io i1 : Io} {H H1 : Hp} (g : Grow io H i1 H1) {a : Addr} {o : HO} (h : H a = some o) (n : a ∉ io) : a ∉ i1 := fun hm => by
  rcases hm with hm | hm
  · have z := g.new a hm fun q => n (.inl q)
    rw [h] at z
    cases z
  · obtain ⟨t, rfl⟩ := g.pre
    exact n (.inr hm)
theorem Grow.at {io i1 : Io} {H H1 : Hp} (g : Grow io H i1 H1) {i : Nat} {a : Addr} (h : io.l[i]? = some a) : i1.l[i]? = some a := by
  obtain ⟨t, rfl⟩ := g.pre
  rw [List.getElem?_append_left (List.getElem?_eq_some_iff.mp h).1]
  exact h
theorem Grow.kp {io i1 : Io} {H H1 : Hp} (g : Grow io H i1 H1) {b : Addr} {o : HO} (h : H b = some o) (n : b ∉ io) : H1 b = some o := g.keep b o h fun q => n (.inl q)
/-- what data leans on -/
structure Base (io : Io) (H : Hp) (io' : Io) (H' : Hp) : Prop where
  at_ : ∀ (i : Nat) (a : Addr), io.l[i]? = some a → io'.l[i]? = some a
  keep : ∀ b o, H b = some o → b ∉ io → H' b = some o ∧ b ∉ io'
theorem Grow.base {io i1 : Io} {H H1 : Hp} (g : Grow io H i1 H1) : Base io H i1 H1 := ⟨fun _ _ h => g.at h, fun _ _ h n => ⟨g.kp h n, g.notin h n⟩⟩
section
variable {G : Gv} {io i1 : Io} {H H1 : Hp}
theorem Base.rd (g : Base io H i1 H1) {a : Addr} {u : HO} (h : Rd H a u) (n : a ∉ io) : Rd H1 a u ∧ a ∉ i1 := by
  rcases h with h | ⟨o, h⟩
  · exact ⟨.inl (g.keep _ _ h n).1, (g.keep _ _ h n).2⟩
  · exact ⟨.inr ⟨o, (g.keep _ _ h n).1⟩, (g.keep _ _ h n).2⟩
mutual
theorem RelD.monoB (g : Base io H i1 H1) : ∀ {d : Dt} {v : V}, RelD G io H d v → RelD G i1 H1 d v
  | _, _, .non => .non
  | _, _, .bl b => .bl b
  | _, _, .int i => .int i
  | _, _, .str s => .str s
  | _, _, .ty n => .ty n
  | _, _, .cls h => .cls h
  | _, _, .tup h r => .tup (h.imp (fun z => g.keep _ _ z.1 z.2) id) (RelDs.monoB g r)
  | _, _, .lst h n r => .lst (g.keep _ _ h n).1 (g.keep _ _ h n).2 (RelDs.monoB g r)
  | _, _, .fz h r => .fz (h.imp (fun z => g.rd z.1 z.2) id) (RelDs.monoB g r)
  | _, _, .ins h n c l r => .ins (g.keep _ _ h n).1 (g.keep _ _ h n).2 c l (RelDs.monoB g r)
  | _, _, .dct h n l r => .dct (g.keep _ _ h n).1 (g.keep _ _ h n).2 l (RelDs.monoB g r)
  | _, _, .ref h => .ref (g.at_ _ _ h)
theorem RelDs.monoB (g : Base io H i1 H1) : ∀ {ds : List Dt} {vs : List V}, RelDs G io H ds vs → RelDs G i1 H1 ds vs
  | _, _, .nil => .nil
  | _, _, .cons h r => .cons (RelD.monoB g h) (RelDs.monoB g r)
end
theorem RelD.mono (g : Grow io H i1 H1) {d : Dt} {v : V} (r : RelD G io H d v) : RelD G i1 H1 d v := r.monoB g.base
theorem RelDs.mono (g : Grow io H i1 H1) {ds : List Dt} {vs : List V} (r : RelDs G io H ds vs) : RelDs G i1 H1 ds vs := r.monoB g.base
theorem RelDs.length : ∀ {ds : List Dt} {vs : List V}, RelDs G io H ds vs → ds.length = vs.length
  | _, _, .nil => rfl
  | _, _, .cons _ r => by rw [List.length_cons, List.length_cons, RelDs.length r]
theorem RelDs.append : ∀ {ds es : List Dt} {vs us : List V}, RelDs G io H ds vs → RelDs G io H es us → RelDs G io H (ds ++ es) (vs ++ us)
  | _, _, _, _, .nil, s => s
  | _, _, _, _, .cons h r, s => .cons h (RelDs.append r s)
theorem RelDs.get : ∀ {ds : List Dt} {vs : List V} {i : Nat} {d : Dt}, RelDs G io H ds vs → ds[i]? = some d → ∃ v, vs[i]? = some v ∧ RelD G io H d v
  | _, _, _, _, .nil, e => by simp at e
  | _, _, 0, _, .cons h _, e => by simp at e; subst e; exact ⟨_, rfl, h⟩
  | _, _, i + 1, d, .cons _ r, e => by
    obtain ⟨u, h1, h2⟩ := RelDs.get (i := i) (d := d) r (by simpa using e)
    exact ⟨u, by simpa using h1, h2⟩
theorem RelDs.set : ∀ {ds : List Dt} {vs : List V} {d : Dt} {v : V} (i : Nat), RelD G io H d v → RelDs G io H ds vs → RelDs G io H (ds.set i d) (vs.set i v)
  | _, _, _, _, _, _, .nil => .nil
  | _, _, _, _, 0, h, .cons _ r => .cons h r
  | _, _, _, _, i + 1, h, .cons k r => .cons k (RelDs.set i h r)
theorem RelDs.take : ∀ {ds : List Dt} {vs : List V} (n : Nat), RelDs G io H ds vs → RelDs G io H (ds.take n) (vs.take n)
  | _, _, 0, _ => .nil
  | _, _, _ + 1, .nil => .nil
  | _, _, n + 1, .cons h r => .cons h (RelDs.take n r)
theorem RelDs.drop : ∀ {ds : List Dt} {vs : List V} (n : Nat), RelDs G io H ds vs → RelDs G io H (ds.drop n) (vs.drop n)
  | _, _, 0, r => r
  | _, _, _ + 1, .nil => .nil
  | _, _, n + 1, .cons _ r => RelDs.drop n r
theorem RelDs.reverse : ∀ {ds : List Dt} {vs : List V}, RelDs G io H ds vs → RelDs G io H ds.reverse vs.reverse
  | _, _, .nil => .nil
  | _, _, .cons h r => by
    rw [List.reverse_cons, List.reverse_cons]
    exact RelDs.append (RelDs.reverse r) (.cons h .nil)
end

/-- a mutable object at its address -/
inductive RelO (G : Gv) (io : Io) (H : Hp) : Ob → Addr → Prop
  | lst {a : Addr} {ds : List Dt} {vs : List V} : H a = some (.lst vs) → RelDs G io H ds vs → RelO G io H (.lst ds) a
  | ins {a C dx : Addr} {c : String} {ns : List Str} {ds : List Dt} {vs : List V} : H a = some (.ins C dx (ns.zip vs)) → G.cl c = some C → ns.length = ds.length → RelDs G io H ds vs → RelO G io H (.ins c ns ds) a
  | dct {a : Addr} {ks : List Key} {ds : List Dt} {vs : List V} : H a = some (.dK (ks.zip vs)) → ks.length = ds.length → RelDs G io H ds vs → RelO G io H (.dct ks ds) a
structure StoreOk (G : Gv) (io : Io) (S : Store) (H : Hp) : Prop where
  nd : io.l.Nodup
  len : S.length = io.l.length
  dis : ∀ a ∈ io.l, a ∉ io.h
  hid : ∀ a ∈ io.h, ∃ u, H a = some u
  ob : ∀ (i : Nat) (o : Ob) (a : Addr), S[i]? = some o → io.l[i]? = some a → RelO G io H o a
structure RelEnv (G : Gv) (io : Io) (H : Hp) (e : Env) (σ : L2.St) : Prop where
  len : e.length = σ.length
  at_ : ∀ (i : Nat) (d : Dt), e[i]? = some (some d) → ∃ v, σ[i]? = some (some v) ∧ RelD G io H d v
theorem RelEnv.mono {G : Gv} {io i1 : Io} {H H1 : Hp} {e : Env} {σ : L2.St} (g : Grow io H i1 H1) (r : RelEnv G io H e σ) : RelEnv G i1 H1 e σ :=
  ⟨r.len, fun i d h => let ⟨v, h1, h2⟩ := r.at_ i d h; ⟨v, h1, h2.mono g⟩⟩
theorem RelEnv.set {G : Gv} {io : Io} {H : Hp} {e : Env} {σ : L2.St} {i : Nat} {d : Dt} {v : V} (r : RelEnv G io H e σ) (h : RelD G io H d v) : RelEnv G io H (e.set i (some d)) (σ.set i (some v)) := by
  refine ⟨by simpa using r.len, fun j x hj => ?_⟩
  by_cases hij : i = j
  · subst hij
    have hl : i < e.length := by
      by_cases q : i < e.length
      · exact q
      · rw [List.getElem?_eq_none (by simpa using q)] at hj
        cases hj
    rw [List.getElem?_set_self hl] at hj
    cases hj
    exact ⟨v, List.getElem?_set_self (by rw [← r.len]; exact hl), h⟩
  · rw [List.getElem?_set_ne hij] at hj ⊢
    exact r.at_ j x hj

/-- an exception of the text's classes -/
def RelX (G : Gv) (io : Io) (H : Hp) (x : Ex) (cls : Value) (dx : Option Addr) : Prop :=
  ∃ (C a : Addr) (vs : List V), cls = .ref C ∧ G.cl x.c = some C ∧ dx = some a ∧ H a = some (.xd (x.ns.zip vs)) ∧ a ∉ io ∧ x.ns.length = x.ds.length ∧ RelDs G io H x.ds vs
theorem RelX.mono {G : Gv} {io i1 : Io} {H H1 : Hp} (g : Grow io H i1 H1) {x : Ex} {cls : Value} {dx : Option Addr} (r : RelX G io H x cls dx) : RelX G i1 H1 x cls dx := by
  obtain ⟨C, a, vs, h1, h2, h3, h4, h5, h6, h7⟩ := r
  exact ⟨C, a, vs, h1, h2, h3, g.kp h4 h5, g.notin h4 h5, h6, h7.mono g⟩

/-! ### ends -/
def Out (G : Gv) (io : Io) (H : Hp) {α : Type} (wx : Ex → Io → Hp → Prop) (post : α → Store → Io → Hp → Prop) : R α → Prop
  | .ok a S => ∀ io' H', Grow io H io' H' → StoreOk G io' S H' → post a S io' H'
  | .err x S => ∀ io' H', Grow io H io' H' → StoreOk G io' S H' → wx x io' H'
  | .stuck => False
theorem Out.from {G : Gv} {io i1 : Io} {H H1 : Hp} {α : Type} {wx : Ex → Io → Hp → Prop} {post : α → Store → Io → Hp → Prop} {r : R α} (g : Grow io H i1 H1) (h : Out G io H wx post r) : Out G i1 H1 wx post r := by
  cases r with
  | ok a S => exact fun io' H' g' s => h io' H' (g.trans g') s
  | err x S => exact fun io' H' g' s => h io' H' (g.trans g') s
  | stuck => exact h
theorem Out.bind {G : Gv} {io : Io} {H : Hp} {α β : Type} {wx : Ex → Io → Hp → Prop} {post : β → Store → Io → Hp → Prop} {r : R α} {f : α → Store → R β} (h : Out G io H wx post (r.bind f)) :
    Out G io H wx (fun a S io' H' => Out G io' H' wx post (f a S)) r := by
  cases r with
  | ok a S => exact fun io' H' g s => Out.from g h
  | err x S => exact h
  | stuck => exact h
theorem Out.imp {G : Gv} {io : Io} {H : Hp} {α : Type} {wx wx' : Ex → Io → Hp → Prop} {post post' : α → Store → Io → Hp → Prop} {r : R α} (h : Out G io H wx post r)
    (hx : ∀ x io' H', Grow io H io' H' → wx x io' H' → wx' x io' H') (hp : ∀ a S io' H', Grow io H io' H' → StoreOk G io' S H' → post a S io' H' → post' a S io' H') : Out G io H wx' post' r := by
  cases r with
  | ok a S => exact fun io' H' g s => hp _ _ _ _ g s (h io' H' g s)
  | err x S => exact fun io' H' g s => hx _ _ _ g (h io' H' g s)
  | stuck => exact h
def OutS (G : Gv) (io : Io) (H : Hp) (wx : Ex → Env → Io → Hp → Prop) (post : Fl → Env → Store → Io → Hp → Prop) : RS → Prop
  | .ok f e S => ∀ io' H', Grow io H io' H' → StoreOk G io' S H' → post f e S io' H'
  | .err x e S => ∀ io' H', Grow io H io' H' → StoreOk G io' S H' → wx x e io' H'
  | .stuck => False
theorem OutS.from {G : Gv} {io i1 : Io} {H H1 : Hp} {wx : Ex → Env → Io → Hp → Prop} {post : Fl → Env → Store → Io → Hp → Prop} {r : RS} (g : Grow io H i1 H1) (h : OutS G io H wx post r) : OutS G i1 H1 wx post r := by
  cases r with
  | ok a e S => exact fun io' H' g' s => h io' H' (g.trans g') s
  | err x e S => exact fun io' H' g' s => h io' H' (g.trans g') s
  | stuck => exact h

/-- the wish for an exception at the slots σ -/
abbrev wxE (G : Gv) (W : WX) (σ : L2.St) : Ex → Io → Hp → Prop := fun x io' H' => ∀ cls dx, RelX G io' H' x cls dx → W cls dx σ H'
abbrev poE (G : Gv) (Q : VK) : Dt → Store → Io → Hp → Prop := fun d _ io' H' => ∀ v, RelD G io' H' d v → Q v H'
abbrev poA (G : Gv) (Q : List V → Hp → Prop) : List Dt → Store → Io → Hp → Prop := fun ds _ io' H' => ∀ vs, RelDs G io' H' ds vs → Q vs H'
abbrev poT (Q : Bool → Hp → Prop) : Bool → Store → Io → Hp → Prop := fun b _ _ H' => Q b H'
def SimE (G : Gv) (W : WX) (t : TE) (m : Env → Store → R Dt) : Prop := ∀ io H S e σ Q, StoreOk G io S H → RelEnv G io H e σ → Out G io H (wxE G W σ) (poE G Q) (m e S) → t σ H Q
def SimA (G : Gv) (W : WX) (t : TA) (m : Env → Store → R (List Dt)) : Prop := ∀ io H S e σ Q, StoreOk G io S H → RelEnv G io H e σ → Out G io H (wxE G W σ) (poA G Q) (m e S) → t σ H Q
def SimT (G : Gv) (W : WX) (t : TT) (m : Env → Store → R Bool) : Prop := ∀ io H S e σ Q, StoreOk G io S H → RelEnv G io H e σ → Out G io H (wxE G W σ) (poT Q) (m e S) → t σ H Q
abbrev wxS (G : Gv) (W : WX) : Ex → Env → Io → Hp → Prop := fun x e io' H' => ∀ σ cls dx, RelEnv G io' H' e σ → RelX G io' H' x cls dx → W cls dx σ H'
def poF (G : Gv) (D : Ends) : Fl → Env → Store → Io → Hp → Prop
  | .nx, e, _, io, H => ∀ σ, RelEnv G io H e σ → D.nx σ H
  | .bk, e, _, io, H => ∀ σ, RelEnv G io H e σ → D.bk σ H
  | .ct, e, _, io, H => ∀ σ, RelEnv G io H e σ → D.ct σ H
  | .rt d, _, _, io, H => ∀ v, RelD G io H d v → D.rt v H
def SimS (G : Gv) (W : WX) (t : TS) (m : Env → Store → RS) : Prop := ∀ io H S e σ D, StoreOk G io S H → RelEnv G io H e σ → OutS G io H (wxS G W) (poF G D) (m e S) → t D σ H

/-! ### judgements -/
def DE (G : Gv) (X : Cx) (W : WX) (e : Expr) (m : Env → Store → R Dt) : Prop := ∃ t, PE X e t ∧ SimE G W t m
def DA (G : Gv) (X : Cx) (W : WX) (e : List Expr) (m : Env → Store → R (List Dt)) : Prop := ∃ t, PA X e t ∧ SimA G W t m
def DT (G : Gv) (X : Cx) (W : WX) (e : Expr) (m : Env → Store → R Bool) : Prop := ∃ t, PT X e t ∧ SimT G W t m
def DW (G : Gv) (X : Cx) (W : WX) (e : Expr) (m : Env → Store → R Bool) : Prop := ∃ t, PW X e t ∧ SimT G W t m
def DS (G : Gv) (X : Cx) (W : WX) (s : Stmt) (m : Env → Store → RS) : Prop := ∃ t, PS X s t ∧ SimS G W t m
def DB (G : Gv) (X : Cx) (W : WX) (s : List Stmt) (m : Env → Store → RS) : Prop := ∃ t, PSs X s t ∧ SimS G W t m

/-! ### names and constants -/
@[reducible] def mVar (i : Nat) : Env → Store → R Dt := fun e S => match e[i]? with
  | some (some d) => .ok d S
  | _ => .stuck
@[reducible] def mC (d : Dt) : Env → Store → R Dt := fun _ S => .ok d S
section
variable {G : Gv} {X : Cx} {W : WX}
theorem simE_var (i : Nat) : SimE G W (tVar i) (mVar i) := by
  intro io H S e σ Q so re h
  unfold mVar at h
  split at h
  · rename_i d hd
    obtain ⟨v, h1, h2⟩ := re.at_ i d hd
    exact ⟨v, h1, h io H Grow.refl so v h2⟩
  · exact h.elim
theorem simE_c {d : Dt} {v : V} (hr : ∀ io H, RelD G io H d v) : SimE G W (tC v) (mC d) := by
  intro io H S e σ Q so re h
  exact h io H Grow.refl so v (hr io H)
theorem de_var (i : Nat) {x : Str} {pos : Pos} (hN : X.N[i]? = some x := by rfl) (hv : Vis X.env.scope x := by first | exact Or.inl rfl | exact Or.inr (Or.inl rfl) | exact Or.inr (Or.inr rfl)) (hd : (x == ("__debug__" : Str)) = false := by decide)
    (hcd : (x == ("__classdict__" : Str)) = false := by decide) : DE G X W (.Name x pos) (mVar i) := ⟨_, pe_var hN hv hd hcd, simE_var i⟩
theorem de_int {i : Int} {j pos} : DE G X W (.Constant (.int i) j pos) (mC (.int i)) := ⟨_, pe_int, simE_c fun _ _ => .int i⟩
theorem de_bl {b j pos} : DE G X W (.Constant (.bool b) j pos) (mC (.bl b)) := ⟨_, pe_bl, simE_c fun _ _ => .bl b⟩
theorem de_non {j pos} : DE G X W (.Constant .none j pos) (mC .non) := ⟨_, pe_non, simE_c fun _ _ => .non⟩
theorem de_str {x j pos} : DE G X W (.Constant (.str x) j pos) (mC (.str x)) := ⟨_, pe_str, simE_c fun _ _ => .str x⟩
theorem de_gint {x : Str} {i : Int} {t : Tok} {pos : Pos} (hg : Gl X x) (hm : X.mg x = some (.int i t)) (hd : (x == ("__debug__" : Str)) = false := by decide) : DE G X W (.Name x pos) (mC (.int i)) :=
  ⟨_, pe_glob (v := .int i) hg hm ⟨t, rfl⟩ hd, simE_c fun _ _ => .int i⟩
theorem de_gstr {x : Str} {i : Str} {t : Tok} {pos : Pos} (hg : Gl X x) (hm : X.mg x = some (.str i t)) (hd : (x == ("__debug__" : Str)) = false := by decide) : DE G X W (.Name x pos) (mC (.str i)) :=
  ⟨_, pe_glob (v := .str i) hg hm ⟨t, rfl⟩ hd, simE_c fun _ _ => .str i⟩
theorem de_cls {x : Str} {c : String} {C : Addr} {pos : Pos} (hc : G.cl c = some C) (hg : Gl X x) (hm : X.mg x = some (.ref C)) (hd : (x == ("__debug__" : Str)) = false := by decide) : DE G X W (.Name x pos) (mC (.cls c)) :=
  ⟨_, pe_glob (v := .ref C) hg hm rfl hd, simE_c fun _ _ => .cls hc⟩
theorem de_ty {x : Str} {n : String} {pos : Pos} (hg : Gl X x) (hm : X.mg x = none) (hv : bootBuiltins x = some (.type n)) (hn : x ≠ "__name__" := by decide) (hd : (x == ("__debug__" : Str)) = false := by decide) : DE G X W (.Name x pos) (mC (.ty n)) :=
  ⟨_, pe_bltn (v := .ty n) hg hm hv rfl hn hd, simE_c fun _ _ => .ty n⟩
end

/-! ### argument lists -/
@[reducible] def mNil : Env → Store → R (List Dt) := fun _ S => .ok [] S
@[reducible] def mCons (ma : Env → Store → R Dt) (mr : Env → Store → R (List Dt)) : Env → Store → R (List Dt) := fun e S => (ma e S).bind fun d S1 => (mr e S1).bind fun ds S2 => .ok (d :: ds) S2
section
variable {G : Gv} {X : Cx} {W : WX} {e : Expr} {es : List Expr} {m : Env → Store → R Dt} {ms : Env → Store → R (List Dt)}
theorem da_nil : DA G X W [] mNil := ⟨_, pa_nil, fun io H S e σ Q so re h => h io H Grow.refl so [] .nil⟩
theorem da_cons (ha : DE G X W e m) (hr : DA G X W es ms) (hs : starEach (e :: es) X.env = (false, eval e X.env) :: starEach es X.env := by rfl) : DA G X W (e :: es) (mCons m ms) := by
  obtain ⟨t, p, q⟩ := ha
  obtain ⟨u, p', q'⟩ := hr
  refine ⟨_, pa_cons p p' hs, fun io H S e σ Q so re h => ?_⟩
  refine q io H S e σ _ so re (h.bind.imp (fun _ _ _ _ z => z) fun d S1 i1 H1 g1 s1 k1 v r => ?_)
  refine q' i1 H1 S1 e σ _ s1 (re.mono g1) (k1.bind.imp (fun _ _ _ _ z => z) fun ds S2 i2 H2 g2 s2 k2 vs rs => ?_)
  exact k2 i2 H2 Grow.refl s2 _ (.cons (r.mono g2) rs)
end

/-! ### operations on values -/
/-- a two-place operation -/
def SimO (G : Gv) (r : R2) (m : Dt → Dt → Store → R Dt) : Prop := ∀ io H S x y dx dy Q, StoreOk G io S H → RelD G io H dx x → RelD G io H dy y → Out G io H (fun _ _ _ => False) (poE G Q) (m dx dy S) → r x y H Q
@[reducible] def mOp (m : Dt → Dt → Store → R Dt) (ma mb : Env → Store → R Dt) : Env → Store → R Dt := fun e S => (ma e S).bind fun x S1 => (mb e S1).bind fun y S2 => m x y S2
def NoErr {α : Type} : R α → Prop
  | .err _ _ => False
  | _ => True
theorem Out.noErr {G : Gv} {io : Io} {H : Hp} {α : Type} {wx wx' : Ex → Io → Hp → Prop} {post : α → Store → Io → Hp → Prop} {r : R α} (n : NoErr r) (h : Out G io H wx post r) : Out G io H wx' post r := by
  cases r with
  | ok a S => exact h
  | err x S => exact n.elim
  | stuck => exact h
def DO (G : Gv) (X : Cx) (f : Value → Value → Sem Value) (m : Dt → Dt → Store → R Dt) : Prop := ∃ r, OpR X f r ∧ SimO G r m ∧ ∀ x y S, NoErr (m x y S)
section
variable {G : Gv} {X : Cx} {W : WX} {a b : Expr} {ma mb : Env → Store → R Dt}
theorem simE_op {r : R2} {ta tb : TE} {m : Dt → Dt → Store → R Dt} (ho : SimO G r m) (hn : ∀ x y S, NoErr (m x y S)) (ha : SimE G W ta ma) (hb : SimE G W tb mb) : SimE G W (tOp r ta tb) (mOp m ma mb) := by
  intro io H S e σ Q so re h
  refine ha io H S e σ _ so re (h.bind.imp (fun _ _ _ _ z => z) fun d S1 i1 H1 g1 s1 k1 v r1 => ?_)
  refine hb i1 H1 S1 e σ _ s1 (re.mono g1) (k1.bind.imp (fun _ _ _ _ z => z) fun d' S2 i2 H2 g2 s2 k2 v' r2 => ?_)
  exact ho i2 H2 S2 v v' d d' Q s2 (r1.mono g2) r2 (k2.noErr (hn _ _ _))
theorem de_op {op : Operator} {pos : Pos} {m : Dt → Dt → Store → R Dt} (ho : DO G X (binaryOp op) m) (ha : DE G X W a ma) (hb : DE G X W b mb) : DE G X W (.BinOp a op b pos) (mOp m ma mb) := by
  obtain ⟨r, p, q, n⟩ := ho
  obtain ⟨ta, pa, qa⟩ := ha
  obtain ⟨tb, pb, qb⟩ := hb
  exact ⟨_, pe_op p pa pb, simE_op q n qa qb⟩
theorem de_cmp {op : CmpOp} {pos : Pos} {m : Dt → Dt → Store → R Dt} (ho : DO G X (compareOp op) m) (ha : DE G X W a ma) (hb : DE G X W b mb) (hm : behindInMarks op b = false := by first | exact nomark _ | rfl) : DE G X W (.Compare a [op] [b] pos) (mOp m ma mb) := by
  obtain ⟨r, p, q, n⟩ := ho
  obtain ⟨ta, pa, qa⟩ := ha
  obtain ⟨tb, pb, qb⟩ := hb
  exact ⟨_, pe_cmpR p pa pb hm, simE_op q n qa qb⟩
/-- the truth of an answer that is a bool -/
@[reducible] def mB (m : Env → Store → R Dt) : Env → Store → R Bool := fun e S => (m e S).bind fun d S1 => match d with
  | .bl b => .ok b S1
  | _ => .stuck
theorem simT_b {t : TE} {m : Env → Store → R Dt} (h : SimE G W t m) : SimT G W (fun σ H Q => t σ H fun x H1 => ∃ c, x = .bl c ∧ Q c H1) (mB m) := by
  intro io H S e σ Q so re k
  refine h io H S e σ _ so re (k.bind.imp (fun _ _ _ _ z => z) fun d S1 i1 H1 g1 s1 k1 v r => ?_)
  cases r with
  | bl b => exact ⟨b, rfl, k1 i1 H1 Grow.refl s1⟩
  | _ => exact k1.elim
theorem dt_cmp {op : CmpOp} {pos : Pos} {m : Dt → Dt → Store → R Dt} (ho : DO G X (compareOp op) m) (ha : DE G X W a ma) (hb : DE G X W b mb) (hm : behindInMarks op b = false := by first | exact nomark _ | rfl) : DT G X W (.Compare a [op] [b] pos) (mB (mOp m ma mb)) := by
  obtain ⟨r, p, q, n⟩ := ho
  obtain ⟨ta, pa, qa⟩ := ha
  obtain ⟨tb, pb, qb⟩ := hb
  exact ⟨_, pt_cmpR p pa pb hm, simT_b (simE_op q n qa qb)⟩
end
end Dv

set_option Elab.async false
set_option linter.all false
set_option maxRecDepth 100000
set_option maxHeartbeats 4000000
set_option autoImplicit false
namespace Dv
open PySem PySem.Spec PyProof.Rows L2

/-! ### the store under extension -/
def ExtH (H H' : Hp) : Prop := ∀ b o, H b = some o → H' b = some o
theorem ExtH.new {H : Hp} {p : Addr} {o : HO} (h : H p = none) : ExtH H (upd H p o) := fun a u e => by
  rw [upd_ne (ne_of_none e h)]
  exact e
theorem ExtH.grow {io : Io} {H H' : Hp} (e : ExtH H H') : Grow io H io H' := ⟨⟨[], by simp⟩, fun b o h _ => e b o h, fun a h n => absurd h n⟩
section
variable {G : Gv} {io : Io} {H H' : Hp} {S : Store}
theorem RelO.there {o : Ob} {a : Addr} (r : RelO G io H o a) : ∃ u, H a = some u := by
  cases r with
  | lst h _ => exact ⟨_, h⟩
  | ins h _ _ _ => exact ⟨_, h⟩
  | dct h _ _ => exact ⟨_, h⟩
theorem RelO.ext (e : ExtH H H') {o : Ob} {a : Addr} (r : RelO G io H o a) : RelO G io H' o a := by
  cases r with
  | lst h k => exact .lst (e _ _ h) (k.mono e.grow)
  | ins h c l k => exact .ins (e _ _ h) c l (k.mono e.grow)
  | dct h l k => exact .dct (e _ _ h) l (k.mono e.grow)
theorem StoreOk.ext (e : ExtH H H') (so : StoreOk G io S H) : StoreOk G io S H' := ⟨so.nd, so.len, so.dis, fun a h => let ⟨u, z⟩ := so.hid a h; ⟨u, e _ _ z⟩, fun i o a h1 h2 => (so.ob i o a h1 h2).ext e⟩
theorem StoreOk.at_ (so : StoreOk G io S H) {i : Nat} {o : Ob} (h : S[i]? = some o) : ∃ a, io.l[i]? = some a ∧ RelO G io H o a := by
  have hl : i < io.l.length := by
    rw [← so.len]
    exact (List.getElem?_eq_some_iff.mp h).1
  exact ⟨io.l[i], by simp [hl], so.ob i o _ h (by simp [hl])⟩
theorem StoreOk.there (so : StoreOk G io S H) {a : Addr} (h : a ∈ io) : ∃ u, H a = some u := by
  rcases h with h | h
  · obtain ⟨i, hl, e⟩ := List.getElem_of_mem h
    have hs : i < S.length := by rw [so.len]; exact hl
    exact (so.ob i S[i] a (by simp [hs]) (by simp [hl, e])).there
  · exact so.hid a h
theorem StoreOk.fresh (so : StoreOk G io S H) {p : Addr} (h : H p = none) : p ∉ io := fun hm => by
  obtain ⟨u, e⟩ := so.there hm
  rw [h] at e
  cases e
theorem push_grow {p : Addr} {u : HO} (h : H p = none) : Grow io H (io.push p) (upd H p u) := by
  refine ⟨⟨[p], rfl⟩, fun b o h' _ => ExtH.new h b o h', fun a ha n => ?_⟩
  rcases List.mem_append.mp ha with z | z
  · exact absurd z n
  · rw [List.mem_singleton] at z
    rw [z]
    exact h
/-- a new object of the store -/
theorem StoreOk.push (so : StoreOk G io S H) {p : Addr} {o : Ob} {u : HO} (h : H p = none) (r : RelO G (io.push p) (upd H p u) o p) :
    Grow io H (io.push p) (upd H p u) ∧ StoreOk G (io.push p) (S ++ [o]) (upd H p u) := by
  have g : Grow io H (io.push p) (upd H p u) := push_grow h
  refine ⟨g, ?_, by simp [so.len], fun a ha => ?_, fun a ha => ?_, fun i ob a h1 h2 => ?_⟩
  · rw [List.nodup_append]
    refine ⟨so.nd, by simp, fun a ha b hb => ?_⟩
    rw [List.mem_singleton] at hb
    rw [hb]
    intro z
    rw [z] at ha
    exact so.fresh h (.inl ha)
  · rcases List.mem_append.mp ha with z | z
    · exact so.dis a z
    · rw [List.mem_singleton] at z
      rw [z]
      exact fun q => so.fresh h (.inr q)
  · obtain ⟨v, z⟩ := so.hid a ha
    exact ⟨v, ExtH.new h _ _ z⟩
  · by_cases hi : i < S.length
    · rw [List.getElem?_append_left hi] at h1
      rw [List.getElem?_append_left (by rw [← so.len]; exact hi)] at h2
      have q := so.ob i ob a h1 h2
      have e := ExtH.new (o := u) h
      cases q with
      | lst h k => exact .lst (e _ _ h) (k.mono g)
      | ins h c l k => exact .ins (e _ _ h) c l (k.mono g)
      | dct h l k => exact .dct (e _ _ h) l (k.mono g)
    · have hs : i = S.length := by
        have := (List.getElem?_eq_some_iff.mp h1).1
        rw [List.length_append, List.length_singleton] at this
        omega
      subst hs
      rw [List.getElem?_append_right (Nat.le_refl _)] at h1
      rw [so.len, List.getElem?_append_right (Nat.le_refl _)] at h2
      simp at h1 h2
      subst h1 h2
      exact r
/-- an object of the store is written -/
theorem StoreOk.write (so : StoreOk G io S H) {i : Nat} {p : Addr} {o : Ob} {u : HO} (hp : io.l[i]? = some p) (r : RelO G io (upd H p u) o p) : Grow io H io (upd H p u) ∧ StoreOk G io (S.set i o) (upd H p u) := by
  have hm : p ∈ io.l := List.mem_of_getElem? hp
  have g : Grow io H io (upd H p u) := ⟨⟨[], by simp⟩, fun b o h n => by
    rw [upd_ne (fun z => n (by rw [z]; exact hm))]
    exact h, fun a h n => absurd h n⟩
  refine ⟨g, so.nd, by simp [so.len], so.dis, fun a ha => ?_, fun j ob a h1 h2 => ?_⟩
  · by_cases hb : a = p
    · rw [hb]
      exact ⟨u, upd_same⟩
    · rw [upd_ne hb]
      exact so.hid a ha
  by_cases hj : i = j
  · subst hj
    have hl := (List.getElem?_eq_some_iff.mp hp).1
    rw [List.getElem?_set_self (by rw [so.len]; exact hl)] at h1
    rw [hp] at h2
    cases h1
    cases h2
    exact r
  · rw [List.getElem?_set_ne hj] at h1
    have ne : a ≠ p := fun z => by
      obtain ⟨l1, e1⟩ := List.getElem?_eq_some_iff.mp h2
      obtain ⟨l2, e2⟩ := List.getElem?_eq_some_iff.mp hp
      exact hj ((List.getElem_inj so.nd).mp (e2.trans (z.symm.trans e1.symm)))
    have q := so.ob j ob a h1 h2
    cases q with
    | lst h k => exact .lst (by rw [upd_ne ne]; exact h) (k.mono g)
    | ins h c l k => exact .ins (by rw [upd_ne ne]; exact h) c l (k.mono g)
    | dct h l k => exact .dct (by rw [upd_ne ne]; exact h) l (k.mono g)
end

/-! ### lists and tuples that are read -/
@[reducible] def asL (S : Store) : Dt → Option (List Dt)
  | .lst ds => some ds
  | .fz ds => some ds
  | .ref i => match S[i]? with
    | some (.lst ds) => some ds
    | _ => none
  | _ => none
@[reducible] def asP (S : Store) : Dt → Option (List Dt)
  | .lst ds => some ds
  | .ref i => match S[i]? with
    | some (.lst ds) => some ds
    | _ => none
  | _ => none
@[reducible] def asT : Dt → Option (List Dt)
  | .tup ds => some ds
  | _ => none
section
variable {G : Gv} {io : Io} {H H' : Hp} {S : Store} {d : Dt} {ds : List Dt} {v : V}
theorem asP_ok (so : StoreOk G io S H) (r : RelD G io H d v) (h : asP S d = some ds) : ∃ a vs, v = .ref a ∧ H a = some (.lst vs) ∧ RelDs G io H ds vs := by
  cases r with
  | lst e n k => cases h; exact ⟨_, _, rfl, e, k⟩
  | @ref a i e =>
    simp only [asP] at h
    split at h
    · rename_i xs hs
      cases h
      obtain ⟨a', h1, h2⟩ := so.at_ hs
      rw [e] at h1
      cases h1
      cases h2 with
      | lst h3 h4 => exact ⟨_, _, rfl, h3, h4⟩
    · cases h
  | _ => cases h
theorem asL_ok (so : StoreOk G io S H) (r : RelD G io H d v) (h : asL S d = some ds) : ∃ a vs, v = .ref a ∧ SqL G.K H a vs ∧ RelDs G io H ds vs := by
  cases r with
  | lst e n k => cases h; exact ⟨_, _, rfl, .inl (.inl e), k⟩
  | fz e k =>
    cases h
    refine ⟨_, _, rfl, ?_, k⟩
    rcases e with ⟨e, _⟩ | e
    · exact .inl e
    · exact .inr e
  | @ref a i e =>
    obtain ⟨a', vs, h1, h2, h3⟩ := asP_ok (d := .ref i) (ds := ds) so (.ref e) (by simpa only [asP, asL] using h)
    exact ⟨a', vs, h1, .inl (.inl h2), h3⟩
  | _ => cases h
theorem asT_ok (r : RelD G io H d v) (h : asT d = some ds) : ∃ a vs, v = .ref a ∧ SqT G.K H a vs ∧ RelDs G io H ds vs := by
  cases r with
  | tup e k =>
    cases h
    refine ⟨_, _, rfl, ?_, k⟩
    rcases e with ⟨e, _⟩ | e
    · exact .inl (.inl e)
    · exact .inr e
  | _ => cases h
/-- a new tuple, a new list by value -/
theorem new_tup (so : StoreOk G io S H) {ds : List Dt} {vs : List V} (r : RelDs G io H ds vs) {p : Addr} (h : H p = none) :
    Grow io H io (upd H p (.tup vs)) ∧ StoreOk G io S (upd H p (.tup vs)) ∧ RelD G io (upd H p (.tup vs)) (.tup ds) (.ref p) :=
  ⟨(ExtH.new h).grow, so.ext (ExtH.new h), .tup (.inl ⟨upd_same, so.fresh h⟩) (r.mono (ExtH.new h).grow)⟩
theorem new_lst (so : StoreOk G io S H) {ds : List Dt} {vs : List V} (r : RelDs G io H ds vs) {p : Addr} (h : H p = none) :
    Grow io H io (upd H p (.lst vs)) ∧ StoreOk G io S (upd H p (.lst vs)) ∧ RelD G io (upd H p (.lst vs)) (.lst ds) (.ref p) :=
  ⟨(ExtH.new h).grow, so.ext (ExtH.new h), .lst upd_same (so.fresh h) (r.mono (ExtH.new h).grow)⟩
theorem out_tup {wx : Ex → Io → Hp → Prop} {Q : VK} (so : StoreOk G io S H) {ds : List Dt} {vs : List V} (r : RelDs G io H ds vs) (h : Out G io H wx (poE G Q) (.ok (.tup ds) S)) {p : Addr} (hp : H p = none) : Q (.ref p) (upd H p (.tup vs)) := by
  obtain ⟨a, b, c⟩ := new_tup so r hp
  exact h io _ a b _ c
theorem out_lst {wx : Ex → Io → Hp → Prop} {Q : VK} (so : StoreOk G io S H) {ds : List Dt} {vs : List V} (r : RelDs G io H ds vs) (h : Out G io H wx (poE G Q) (.ok (.lst ds) S)) {p : Addr} (hp : H p = none) : Q (.ref p) (upd H p (.lst vs)) := by
  obtain ⟨a, b, c⟩ := new_lst so r hp
  exact h io _ a b _ c
theorem out_ref {wx : Ex → Io → Hp → Prop} {Q : VK} (so : StoreOk G io S H) {ds : List Dt} {vs : List V} (r : RelDs G io H ds vs) (h : Out G io H wx (poE G Q) (.ok (.ref S.length) (S ++ [.lst ds]))) {p : Addr} (hp : H p = none) : Q (.ref p) (upd H p (.lst vs)) := by
  obtain ⟨a, b⟩ := so.push (o := .lst ds) (u := .lst vs) hp (.lst upd_same (r.mono (push_grow hp)))
  exact h _ _ a b _ (.ref (by rw [so.len]; simp))
end
end Dv

set_option Elab.async false
set_option linter.all false
set_option maxRecDepth 100000
set_option maxHeartbeats 4000000
set_option autoImplicit false
namespace Dv
open PySem PySem.Spec PyProof.Rows L2

def mAdd (x y : Dt) (S : Store) : R Dt := match x, y with
  | .int i, .int j => .ok (.int (i + j)) S
  | .str a, .str b => if a.length + b.length ≤ 100000 then .ok (.str (a ++ b)) S else .stuck
  | .tup xs, .tup ys => if xs.length + ys.length ≤ 1000000 then .ok (.tup (xs ++ ys)) S else .stuck
  | x, y => match asP S x, asP S y with
    | some xs, some ys => if xs.length + ys.length ≤ 1000000 then .ok (.lst (xs ++ ys)) S else .stuck
    | _, _ => .stuck
def mSub (x y : Dt) (S : Store) : R Dt := match x, y with
  | .int i, .int j => .ok (.int (i - j)) S
  | _, _ => .stuck
/-- small enough for * -/
def mulOk (i j : Int) : Bool := decide (i.natAbs < 2 ^ 64) || decide (j.natAbs < 2 ^ 64) || decide (i.natAbs.log2 + j.natAbs.log2 < 1000000)
def mMul (x y : Dt) (S : Store) : R Dt := match x, y with
  | .int i, .int j => if mulOk i j = true then .ok (.int (i * j)) S else .stuck
  | x, .int k => match asP S x with
    | some xs => if -100000 ≤ k ∧ k ≤ 100000 ∧ xs.length ≤ 100 then .ok (.lst (List.replicate k.toNat xs).flatten) S else .stuck
    | none => .stuck
  | _, _ => .stuck
def divOk (j : Int) : Bool := decide (j ≠ 0) && decide (j.natAbs.log2 < 9000)
def mDiv (x y : Dt) (S : Store) : R Dt := match x, y with
  | .int i, .int j => if divOk j = true then .ok (.int (i.fdiv j)) S else .stuck
  | _, _ => .stuck
def mMod (x y : Dt) (S : Store) : R Dt := match x, y with
  | .int i, .int j => if j ≠ 0 then .ok (.int (i.fmod j)) S else .stuck
  | _, _ => .stuck
def powOk (i j : Int) : Bool := decide (0 ≤ j ∧ j ≤ 1000000 ∧ i.natAbs < 2 ^ 64)
def mPow (x y : Dt) (S : Store) : R Dt := match x, y with
  | .int i, .int j => if powOk i j = true then .ok (.int (i ^ j.toNat)) S else .stuck
  | _, _ => .stuck
def mCmpI (p : Int → Int → Bool) (x y : Dt) (S : Store) : R Dt := match x, y with
  | .int i, .int j => .ok (.bl (p i j)) S
  | _, _ => .stuck
def mLt : Dt → Dt → Store → R Dt := mCmpI fun i j => decide (i < j)
def mLe : Dt → Dt → Store → R Dt := mCmpI fun i j => decide (i ≤ j)
def mGt : Dt → Dt → Store → R Dt := mCmpI fun i j => decide (j < i)
def mGe : Dt → Dt → Store → R Dt := mCmpI fun i j => decide (j ≤ i)
/-- is, is not: None and bools -/
def mIs (neg : Bool) (x y : Dt) (S : Store) : R Dt := match x, y with
  | .non, .non => .ok (.bl (!neg)) S
  | .ref _, .non => .ok (.bl neg) S
  | .bl _, .non => .ok (.bl neg) S
  | .int _, .non => .ok (.bl neg) S
  | .str _, .non => .ok (.bl neg) S
  | .tup _, .non => .ok (.bl neg) S
  | .lst _, .non => .ok (.bl neg) S
  | .ins _ _ _, .non => .ok (.bl neg) S
  | .dct _ _, .non => .ok (.bl neg) S
  | .bl a, .bl b => .ok (.bl (if neg then !decide (a = b) else decide (a = b))) S
  | _, _ => .stuck

section
variable {G : Gv} {X : Cx}
theorem small6 {n : Nat} (h : n ≤ 1000000) : n ≤ sizeLine := Nat.le_trans h (by decide)
theorem rel_int {G : Gv} {io : Io} {H : Hp} {i : Int} {v : V} (r : RelD G io H (.int i) v) : v = .int i := by cases r; rfl
theorem rel_bl {G : Gv} {io : Io} {H : Hp} {i : Bool} {v : V} (r : RelD G io H (.bl i) v) : v = .bl i := by cases r; rfl
theorem rel_str {G : Gv} {io : Io} {H : Hp} {i : Str} {v : V} (r : RelD G io H (.str i) v) : v = .str i := by cases r; rfl
theorem rel_non {G : Gv} {io : Io} {H : Hp} {v : V} (r : RelD G io H .non v) : v = .non := by cases r; rfl

theorem nil_iff {G : Gv} {io : Io} {H : Hp} {ds : List Dt} {vs : List V} (r : RelDs G io H ds vs) : vs = [] ↔ ds = [] := by
  cases r with
  | nil => simp
  | cons _ _ => simp
/-- a rule on two ints -/
theorem sim_int {C : Int → Int → Prop} {c : Int → Int → Bool} {g : Int → Int → V} {gd : Int → Int → Dt} (hc : ∀ i j, c i j = true → C i j) (hg : ∀ G io H i j, RelD G io H (gd i j) (g i j)) :
    SimO G (rI C g) (fun x y S => match x, y with | .int i, .int j => if c i j = true then .ok (gd i j) S else .stuck | _, _ => .stuck) := by
  intro io H S x y dx dy Q so rx ry h
  dsimp only at h
  split at h
  · rename_i i j
    cases rx
    cases ry
    by_cases hcc : c i j = true
    · rw [if_pos hcc] at h
      exact ⟨_, _, rfl, rfl, hc _ _ hcc, h io H Grow.refl so _ (hg _ _ _ _ _)⟩
    · rw [if_neg hcc] at h
      exact h.elim
  · exact h.elim
theorem do_add (hK : X.K = G.K := by rfl) : DO G X (binaryOp .Add) mAdd := by
  refine ⟨_, (((op_add (X := X)).or op_add_str).or op_catA).or op_cat, ?_, ?_⟩
  · intro io H S x y dx dy Q so rx ry h
    unfold mAdd at h
    split at h
    · cases rx
      cases ry
      exact .inl (.inl (.inl ⟨_, _, rfl, rfl, h io H Grow.refl so _ (.int _)⟩))
    · rename_i a b
      cases rx
      cases ry
      by_cases hl : a.length + b.length ≤ 100000
      · rw [if_pos hl] at h
        exact .inl (.inl (.inr ⟨_, _, rfl, rfl, small6 (by omega), h io H Grow.refl so _ (.str _)⟩))
      · rw [if_neg hl] at h
        exact h.elim
    · rename_i xs ys
      by_cases hl : xs.length + ys.length ≤ 1000000
      · rw [if_pos hl] at h
        obtain ⟨a, vs, rfl, hs, rs⟩ := asT_ok rx rfl
        obtain ⟨b, us, rfl, ht, rt⟩ := asT_ok ry rfl
        have l1 := rs.length
        have l2 := rt.length
        refine .inl (.inr ⟨a, b, vs, us, rfl, rfl, by rw [hK]; exact hs, by rw [hK]; exact ht, small6 (by omega), fun e => ?_, fun e1 e2 => ?_, fun e1 e2 p hp => ?_⟩)
        · have e' := (nil_iff rs).mp e
          subst e'
          rw [List.nil_append] at h
          exact h io H Grow.refl so _ ry
        · have e' := (nil_iff rt).mp e2
          subst e'
          rw [List.append_nil] at h
          exact h io H Grow.refl so _ rx
        · exact out_tup so (rs.append rt) h hp
      · rw [if_neg hl] at h
        exact h.elim
    · split at h
      · rename_i xs ys e1 e2
        by_cases hl : xs.length + ys.length ≤ 1000000
        · rw [if_pos hl] at h
          obtain ⟨a, vs, rfl, hs, rs⟩ := asP_ok so rx e1
          obtain ⟨b, us, rfl, ht, rt⟩ := asP_ok so ry e2
          have l1 := rs.length
          have l2 := rt.length
          exact .inr ⟨a, b, vs, us, rfl, rfl, hs, ht, small6 (by omega), fun p hp => out_lst so (rs.append rt) h hp⟩
        · rw [if_neg hl] at h
          exact h.elim
      · exact h.elim
  · intro x y S
    unfold mAdd
    repeat' split
    all_goals trivial
theorem do_sub : DO G X (binaryOp .Sub) mSub := by
  refine ⟨_, op_sub, ?_, ?_⟩
  · intro io H S x y dx dy Q so rx ry h
    unfold mSub at h
    split at h
    · cases rx
      cases ry
      exact ⟨_, _, rfl, rfl, h io H Grow.refl so _ (.int _)⟩
    · exact h.elim
  · intro x y S
    unfold mSub
    split <;> trivial
theorem do_mul : DO G X (binaryOp .Mult) mMul := by
  refine ⟨_, ((op_mulW (X := X)).or op_mul).or op_rep, ?_, ?_⟩
  · intro io H S x y dx dy Q so rx ry h
    unfold mMul at h
    split at h
    · rename_i i j
      cases rx
      cases ry
      by_cases hc : mulOk i j = true
      · rw [if_pos hc] at h
        unfold mulOk at hc
        rw [Bool.or_eq_true, Bool.or_eq_true] at hc
        rcases hc with (hc | hc) | hc
        · have z := of_decide_eq_true hc
          exact .inl (.inr ⟨_, _, rfl, rfl, .inl (by omega), h io H Grow.refl so _ (.int _)⟩)
        · have z := of_decide_eq_true hc
          exact .inl (.inr ⟨_, _, rfl, rfl, .inr (by omega), h io H Grow.refl so _ (.int _)⟩)
        · exact .inl (.inl ⟨_, _, rfl, rfl, (of_decide_eq_true (p := i.natAbs.log2 + j.natAbs.log2 < 1000000) hc : CMulW i j), h io H Grow.refl so _ (.int _)⟩)
      · rw [if_neg hc] at h
        exact h.elim
    · rename_i k hne
      cases ry
      split at h
      · rename_i xs e1
        by_cases hl : -100000 ≤ k ∧ k ≤ 100000 ∧ xs.length ≤ 100
        · rw [if_pos hl] at h
          obtain ⟨a, vs, rfl, hs, rs⟩ := asP_ok so rx e1
          have l1 := rs.length
          refine .inr ⟨a, k, vs, rfl, rfl, hs, by omega, by omega, ?_, fun p hp => ?_⟩
          · have e : vs.length * k.toNat ≤ 100 * 100000 := Nat.mul_le_mul (by omega) (by omega)
            exact Nat.le_trans e (by decide)
          · have rr : ∀ n : Nat, RelDs G io H (List.replicate n xs).flatten (List.replicate n vs).flatten := fun n => by
              induction n with
              | zero => exact .nil
              | succ n ih =>
                rw [List.replicate_succ, List.replicate_succ, List.flatten_cons, List.flatten_cons]
                exact rs.append ih
            exact out_lst so (rr _) h hp
        · rw [if_neg hl] at h
          exact h.elim
      · exact h.elim
    · exact h.elim
  · intro x y S
    unfold mMul
    repeat' split
    all_goals trivial
theorem op_fdivA : OpR X (binaryOp .FloorDiv) (rI (fun _ j => j ≠ 0 ∧ j.natAbs.log2 < 9000) fun i j => .int (i.fdiv j)) := opI fun _ _ _ _ _ _ _ hc q =>
  floordiv_int hc.1 q (.inl (PyProof.noPylong_of_log2 hc.2))
theorem noErr_int {c : Int → Int → Bool} {gd : Int → Int → Dt} (x y : Dt) (S : Store) : NoErr (match x, y with | .int i, .int j => if c i j = true then R.ok (gd i j) S else .stuck | _, _ => .stuck) := by
  repeat' split
  all_goals trivial
theorem do_div : DO G X (binaryOp .FloorDiv) mDiv :=
  ⟨_, op_fdivA, sim_int (c := fun _ j => divOk j) (gd := fun i j => .int (i.fdiv j)) (fun i j h => by
    unfold divOk at h
    rw [Bool.and_eq_true] at h
    exact ⟨of_decide_eq_true h.1, of_decide_eq_true h.2⟩) (fun _ _ _ _ _ => .int _), fun x y S => noErr_int (c := fun _ j => divOk j) (gd := fun i j => .int (i.fdiv j)) x y S⟩
theorem do_mod : DO G X (binaryOp .Mod) mMod := by
  refine ⟨_, op_modN, ?_, ?_⟩
  · intro io H S x y dx dy Q so rx ry h
    unfold mMod at h
    split at h
    · rename_i i j
      cases rx
      cases ry
      by_cases hc : j ≠ 0
      · rw [if_pos hc] at h
        exact ⟨_, _, rfl, rfl, hc, h io H Grow.refl so _ (.int _)⟩
      · rw [if_neg hc] at h
        exact h.elim
    · exact h.elim
  · intro x y S
    unfold mMod
    repeat' split
    all_goals trivial
theorem do_pow : DO G X (binaryOp .Pow) mPow :=
  ⟨_, op_pow, sim_int (c := powOk) (gd := fun i j => .int (i ^ j.toNat)) (fun i j h => (of_decide_eq_true (p := 0 ≤ j ∧ j ≤ 1000000 ∧ i.natAbs < 2 ^ 64) h : CPow i j)) (fun _ _ _ _ _ => .int _), fun x y S => noErr_int (c := powOk) (gd := fun i j => .int (i ^ j.toNat)) x y S⟩
theorem do_cmpI {op : CmpOp} {p : Int → Int → Bool} (ho : OpR X (compareOp op) (rI0 fun i j => .bl (p i j))) : DO G X (compareOp op) (mCmpI p) := by
  refine ⟨_, ho, ?_, ?_⟩
  · intro io H S x y dx dy Q so rx ry h
    unfold mCmpI at h
    split at h
    · cases rx
      cases ry
      exact ⟨_, _, rfl, rfl, h io H Grow.refl so _ (.bl _)⟩
    · exact h.elim
  · intro x y S
    unfold mCmpI
    split <;> trivial
theorem do_lt : DO G X (compareOp .Lt) mLt := do_cmpI op_lt
theorem do_le : DO G X (compareOp .LtE) mLe := do_cmpI op_le
theorem do_gt : DO G X (compareOp .Gt) mGt := do_cmpI op_gt
theorem do_ge : DO G X (compareOp .GtE) mGe := do_cmpI op_ge
theorem do_is : DO G X (compareOp .Is) (mIs false) := by
  refine ⟨_, (op_isN (X := X)).or op_isBl, ?_, ?_⟩
  · intro io H S x y dx dy Q so rx ry h
    unfold mIs at h
    split at h
    case h_11 => exact h.elim
    case h_10 =>
      cases rx
      cases ry
      exact .inr ⟨_, _, rfl, rfl, h io H Grow.refl so _ (.bl _)⟩
    all_goals
      cases ry
      refine .inl ⟨rfl, ?_⟩
      cases rx
      exact h io H Grow.refl so _ (.bl _)
  · intro x y S
    unfold mIs
    split <;> trivial
theorem do_isNot : DO G X (compareOp .IsNot) (mIs true) := by
  refine ⟨_, (op_notN (X := X)).or op_notBl, ?_, ?_⟩
  · intro io H S x y dx dy Q so rx ry h
    unfold mIs at h
    split at h
    case h_11 => exact h.elim
    case h_10 =>
      cases rx
      cases ry
      exact .inr ⟨_, _, rfl, rfl, h io H Grow.refl so _ (.bl _)⟩
    all_goals
      cases ry
      refine .inl ⟨rfl, ?_⟩
      cases rx
      exact h io H Grow.refl so _ (.bl _)
  · intro x y S
    unfold mIs
    split <;> trivial
end

/-! ### == of plain data -/
mutual
def eqD : Dt → Dt → Bool
  | .non, .non => true
  | .bl a, .bl b => a == b
  | .bl a, .int j => (if a then 1 else 0) == j
  | .int i, .bl b => i == (if b then 1 else 0)
  | .int i, .int j => i == j
  | .str a, .str b => a == b
  | .tup xs, .tup ys => eqDs xs ys
  | .lst xs, .lst ys => eqDs xs ys
  | _, _ => false
def eqDs : List Dt → List Dt → Bool
  | [], [] => true
  | x :: xs, y :: ys => eqD x y && eqDs xs ys
  | _, _ => false
end
/-- plain data, so deep at most -/
def okD : Nat → Dt → Bool
  | _, .non => true
  | _, .bl _ => true
  | _, .int _ => true
  | _, .str s => PyData.strOk s
  | k + 1, .tup ds => ds.all (okD k)
  | k + 1, .lst ds => ds.all (okD k)
  | _, _ => false
mutual
def toPy : Dt → PyData
  | .bl b => .bool b
  | .int i => .int i
  | .str s => .str s
  | .tup ds => .tuple (toPys ds)
  | .lst ds => .list (toPys ds)
  | _ => .none
def toPys : List Dt → List PyData
  | [] => []
  | d :: ds => toPy d :: toPys ds
end
section
variable {G : Gv} {io : Io} {H : Hp}
theorem all_cons {k : Nat} {d : Dt} {ds : List Dt} (h : (d :: ds).all (okD k) = true) : okD k d = true ∧ ds.all (okD k) = true := by
  rw [List.all_cons, Bool.and_eq_true] at h
  exact h
theorem okD_flat {d : Dt} (h : okD 0 d = true) : (∀ ds, d ≠ .tup ds) ∧ ∀ ds, d ≠ .lst ds := by
  refine ⟨fun ds e => ?_, fun ds e => ?_⟩
  all_goals
    subst e
    simp [okD] at h
theorem dp_of : ∀ (k : Nat) {d : Dt} {v : V}, RelD G io H d v → okD k d = true → Dp G.K H v (toPy d) ∧ (toPy d).canLay0 = true ∧ (toPy d).depth ≤ k := by
  intro k
  induction k with
  | zero =>
    intro d v r h
    cases r with
    | non => exact ⟨.non, rfl, Nat.le_refl _⟩
    | bl b => exact ⟨.bl b, rfl, Nat.le_refl _⟩
    | int i => exact ⟨.int i, rfl, Nat.le_refl _⟩
    | str s => exact ⟨.str s, by simpa [okD, toPy, PyData.canLay0] using h, by simp [toPy, PyData.depth]⟩
    | _ => simp [okD] at h
  | succ k ih =>
    have all : ∀ {ds : List Dt} {vs : List V}, RelDs G io H ds vs → ds.all (okD k) = true → DpAll G.K H vs (toPys ds) ∧ PyData.canLayAll0 (toPys ds) = true ∧ PyData.depthAll (toPys ds) ≤ k := by
      intro ds
      induction ds with
      | nil =>
        intro vs r _
        cases r
        exact ⟨.nil, rfl, Nat.zero_le _⟩
      | cons d ds ih2 =>
        intro vs r h
        cases r with
        | cons r1 r2 =>
          obtain ⟨h1, h2⟩ := all_cons h
          obtain ⟨a1, a2, a3⟩ := ih r1 h1
          obtain ⟨b1, b2, b3⟩ := ih2 r2 h2
          refine ⟨.cons a1 b1, ?_, ?_⟩
          · show ((toPy d).canLay0 && PyData.canLayAll0 (toPys ds)) = true
            rw [a2, b2]
            rfl
          · show PyData.depthAll (toPy d :: toPys ds) ≤ k
            simp only [PyData.depthAll]
            omega
    intro d v r h
    cases r with
    | non => exact ⟨.non, rfl, by simp [toPy, PyData.depth]⟩
    | bl b => exact ⟨.bl b, rfl, by simp [toPy, PyData.depth]⟩
    | int i => exact ⟨.int i, rfl, by simp [toPy, PyData.depth]⟩
    | str s => exact ⟨.str s, by simpa [okD, toPy, PyData.canLay0] using h, by simp [toPy, PyData.depth]⟩
    | tup e rs =>
      obtain ⟨a1, a2, a3⟩ := all rs (by simpa [okD] using h)
      refine ⟨.tup ?_ a1, a2, ?_⟩
      · rcases e with ⟨e, _⟩ | e
        · exact .inl (.inl e)
        · exact .inr e
      · simp only [toPy, PyData.depth]
        omega
    | lst e n rs =>
      obtain ⟨a1, a2, a3⟩ := all rs (by simpa [okD] using h)
      refine ⟨.lst (.inl (.inl e)) a1, a2, ?_⟩
      simp only [toPy, PyData.depth]
      omega
    | _ => simp [okD] at h
theorem shaped_of {k : Nat} {d : Dt} {v : V} (hk : k ≤ 60) (r : RelD G io H d v) (h : okD k d = true) : SeqAt.shaped (toPy d) = true := by
  obtain ⟨_, a, b⟩ := dp_of k r h
  unfold SeqAt.shaped
  rw [a, Bool.true_and]
  exact decide_eq_true (by omega)
theorem eqv_of : ∀ (k : Nat) (d e : Dt), okD k d = true → okD k e = true → PyData.eqv (toPy d) (toPy e) = eqD d e := by
  intro k
  induction k with
  | zero =>
    intro d e h1 h2
    cases d <;> cases e <;> first
      | rfl
      | (simp [okD] at h1; done)
      | (simp [okD] at h2; done)
  | succ k ih =>
    have all : ∀ ds es : List Dt, ds.all (okD k) = true → es.all (okD k) = true → PyData.eqvAll (toPys ds) (toPys es) = eqDs ds es := by
      intro ds
      induction ds with
      | nil =>
        intro es _ _
        cases es <;> rfl
      | cons d ds ih2 =>
        intro es h1 h2
        cases es with
        | nil => rfl
        | cons e es =>
          obtain ⟨a1, a2⟩ := all_cons h1
          obtain ⟨b1, b2⟩ := all_cons h2
          show (PyData.eqv (toPy d) (toPy e) && PyData.eqvAll (toPys ds) (toPys es)) = (eqD d e && eqDs ds es)
          rw [ih d e a1 b1, ih2 es a2 b2]
    intro d e h1 h2
    cases d <;> cases e <;> first
      | rfl
      | (simp [okD] at h1; done)
      | (simp [okD] at h2; done)
      | exact all _ _ (by simpa [okD] using h1) (by simpa [okD] using h2)
end
/-- a list of the store, as it stands -/
def res (S : Store) (d : Dt) : Dt := match d with
  | .ref i => match S[i]? with
    | some (.lst ds) => .lst ds
    | _ => .ref i
  | d => d
theorem res_ok {G : Gv} {io : Io} {H : Hp} {S : Store} {d : Dt} {v : V} {k : Nat} (so : StoreOk G io S H) (r : RelD G io H d v) (h : okD k (res S d) = true) : Dp G.K H v (toPy (res S d)) ∧ (k ≤ 60 → SeqAt.shaped (toPy (res S d)) = true) := by
  cases d with
  | ref i =>
    unfold res at h ⊢
    dsimp only at h ⊢
    split at h
    · rename_i ds hs
      obtain ⟨a, vs, rfl, e, rs⟩ := asP_ok (d := .ref i) (ds := ds) so r (by simp [asP, hs])
      cases k with
      | zero => simp [okD] at h
      | succ k =>
        have z : ∀ (ds : List Dt) (vs : List V), RelDs G io H ds vs → ds.all (okD k) = true → DpAll G.K H vs (toPys ds) ∧ PyData.canLayAll0 (toPys ds) = true ∧ PyData.depthAll (toPys ds) ≤ k := by
          intro ds
          induction ds with
          | nil =>
            intro vs r _
            cases r
            exact ⟨.nil, rfl, Nat.zero_le _⟩
          | cons d ds ih2 =>
            intro vs r h
            cases r with
            | cons r1 r2 =>
              obtain ⟨h1, h2⟩ := all_cons h
              obtain ⟨a1, a2, a3⟩ := dp_of k r1 h1
              obtain ⟨b1, b2, b3⟩ := ih2 _ r2 h2
              refine ⟨.cons a1 b1, ?_, ?_⟩
              · show ((toPy d).canLay0 && PyData.canLayAll0 (toPys ds)) = true
                rw [a2, b2]
                rfl
              · show PyData.depthAll (toPy d :: toPys ds) ≤ k
                simp only [PyData.depthAll]
                omega
        obtain ⟨a1, a2, a3⟩ := z ds vs rs (by simpa [okD] using h)
        refine ⟨.lst (.inl (.inl e)) a1, fun hk => ?_⟩
        unfold SeqAt.shaped
        rw [show (toPy (Dt.lst ds)).canLay0 = true from a2, Bool.true_and]
        refine decide_eq_true ?_
        simp only [toPy, PyData.depth]
        omega
    · cases k <;> simp [okD] at h
  | _ => exact ⟨(dp_of k r h).1, fun hk => shaped_of hk r h⟩
def deep : Nat := 12
def mEq (x y : Dt) (S : Store) : R Dt := if okD deep (res S x) = true ∧ okD deep (res S y) = true then .ok (.bl (eqD (res S x) (res S y))) S else .stuck
def mNe (x y : Dt) (S : Store) : R Dt := if okD deep (res S x) = true ∧ okD deep (res S y) = true then .ok (.bl (!eqD (res S x) (res S y))) S else .stuck
section
variable {G : Gv} {X : Cx}
theorem do_eq (hu : X.A.units + 64 < cLine) (hK : X.K = G.K := by rfl) : DO G X (compareOp .Eq) mEq := by
  refine ⟨_, op_eqD hu, ?_, ?_⟩
  · intro io H S x y dx dy Q so rx ry h
    unfold mEq at h
    split at h
    · rename_i hc
      obtain ⟨p1, q1⟩ := res_ok so rx hc.1
      obtain ⟨p2, q2⟩ := res_ok so ry hc.2
      refine ⟨_, _, by rw [hK]; exact p1, by rw [hK]; exact p2, q1 (by decide), q2 (by decide), ?_⟩
      rw [eqv_of deep _ _ hc.1 hc.2]
      exact h io H Grow.refl so _ (.bl _)
    · exact h.elim
  · intro x y S
    unfold mEq
    split <;> trivial
theorem do_ne (hu : X.A.units + 64 < cLine) (hK : X.K = G.K := by rfl) : DO G X (compareOp .NotEq) mNe := by
  refine ⟨_, op_neD hu, ?_, ?_⟩
  · intro io H S x y dx dy Q so rx ry h
    unfold mNe at h
    split at h
    · rename_i hc
      obtain ⟨p1, q1⟩ := res_ok so rx hc.1
      obtain ⟨p2, q2⟩ := res_ok so ry hc.2
      refine ⟨_, _, by rw [hK]; exact p1, by rw [hK]; exact p2, q1 (by decide), q2 (by decide), ?_⟩
      rw [eqv_of deep _ _ hc.1 hc.2]
      exact h io H Grow.refl so _ (.bl _)
    · exact h.elim
  · intro x y S
    unfold mNe
    split <;> trivial
end
end Dv

set_option Elab.async false
set_option linter.all false
set_option maxRecDepth 100000
set_option maxHeartbeats 4000000
set_option autoImplicit false
namespace Dv
open PySem PySem.Spec PyProof.Rows L2

/-! ### truth -/
def tru (S : Store) (d : Dt) : Option Bool := match d with
  | .non => some false
  | .bl b => some b
  | .int i => some (i != 0)
  | .str s => if s.length ≤ 100000 then some ((s.length : Int) != 0) else none
  | .tup ds => some (!ds.isEmpty)
  | .dct ks _ => some (!ks.isEmpty)
  | d => match asL S d with
    | some ds => some (!ds.isEmpty)
    | none => none
def mTruth (m : Env → Store → R Dt) : Env → Store → R Bool := fun e S => (m e S).bind fun d S1 => match tru S1 d with
  | some b => .ok b S1
  | none => .stuck
section
variable {G : Gv} {X : Cx} {W : WX}
theorem isEmpty_rel {G : Gv} {io : Io} {H : Hp} {ds : List Dt} {vs : List V} (r : RelDs G io H ds vs) : ds.isEmpty = vs.isEmpty := by cases r <;> rfl
theorem tru_of {io : Io} {H : Hp} {S : Store} {d : Dt} {v : V} {b : Bool} (so : StoreOk G io S H) (r : RelD G io H d v) (h : tru S d = some b) : TruV G.K v H b := by
  have ls : ∀ {d : Dt}, RelD G io H d v → (match asL S d with | some ds => some (!ds.isEmpty) | none => none) = some b → TruV G.K v H b := fun {d} r h => by
    split at h
    · rename_i ds e
      obtain ⟨a, vs, rfl, h1, h2⟩ := asL_ok so r e
      cases h
      exact .inl ⟨vs, h1, by rw [isEmpty_rel h2]⟩
    · cases h
  unfold tru at h
  split at h
  · cases r; cases h; rfl
  · cases r; cases h; rfl
  · cases r; cases h; rfl
  · cases r
    split at h
    · cases h
      exact ⟨Nat.le_trans (by assumption) (by decide), rfl⟩
    · cases h
  · cases h
    obtain ⟨a, vs, rfl, h1, h2⟩ := asT_ok r rfl
    exact .inr (.inl ⟨vs, h1, by rw [isEmpty_rel h2]⟩)
  · rename_i ks ds
    cases h
    cases r with
    | @dct a _ _ vs e n l k =>
      refine .inr (.inr ⟨_, e, ?_⟩)
      have l2 := k.length
      cases ks with
      | nil => rfl
      | cons x xs =>
        cases vs with
        | nil =>
          rw [List.length_cons] at l
          rw [List.length_nil] at l2
          omega
        | cons _ _ => rfl
  · exact ls r h
theorem simT_truth {t : TE} {m : Env → Store → R Dt} (hK : X.K = G.K) (h : SimE G W t m) : SimT G W (fun σ H Q => t σ H fun x H' => ∃ k, TruV X.K x H' k ∧ Q k H') (mTruth m) := by
  intro io H S e σ Q so re k
  refine h io H S e σ _ so re (k.bind.imp (fun _ _ _ _ z => z) fun d S1 i1 H1 g1 s1 k1 v r => ?_)
  split at k1
  · rename_i b hb
    exact ⟨b, by rw [hK]; exact tru_of s1 r hb, k1 i1 H1 Grow.refl s1⟩
  · exact k1.elim
theorem dt_truth {a : Expr} {m : Env → Store → R Dt} (ha : DE G X W a m) (hK : X.K = G.K := by rfl) (he : ∀ whole, isTrue a X.env whole = (do let v ← whole; standAt a.pos; holding [v] (truthy v)) := by intro _; rfl) : DT G X W a (mTruth m) := by
  obtain ⟨t, p, q⟩ := ha
  exact ⟨_, pt_truth p he, simT_truth hK q⟩

/-! ### and, or, not as tests -/
def mAndT (a b : Env → Store → R Bool) : Env → Store → R Bool := fun e S => (a e S).bind fun c S1 => if c = true then b e S1 else .ok false S1
def mOrT (a b : Env → Store → R Bool) : Env → Store → R Bool := fun e S => (a e S).bind fun c S1 => if c = true then .ok true S1 else b e S1
def mNotT (a : Env → Store → R Bool) : Env → Store → R Bool := fun e S => (a e S).bind fun c S1 => .ok (!c) S1
variable {a b : Expr} {rest : List Expr} {pos : Pos} {ma mb : Env → Store → R Bool}
theorem dw_and1 (h : DT G X W a ma) : DW G X W (.BoolOp .And [a] pos) ma := let ⟨_, p, q⟩ := h; ⟨_, pw_and1 p, q⟩
theorem dw_or1 (h : DT G X W a ma) : DW G X W (.BoolOp .Or [a] pos) ma := let ⟨_, p, q⟩ := h; ⟨_, pw_or1 p, q⟩
theorem dw_and (h : DT G X W a ma) (k : DW G X W (.BoolOp .And (b :: rest) pos) mb) : DW G X W (.BoolOp .And (a :: b :: rest) pos) (mAndT ma mb) := by
  obtain ⟨t, p, q⟩ := h
  obtain ⟨u, p', q'⟩ := k
  refine ⟨_, pw_and p p', fun io H S e σ Q so re h => ?_⟩
  refine q io H S e σ _ so re (h.bind.imp (fun _ _ _ _ z => z) fun c S1 i1 H1 g1 s1 k1 => ?_)
  cases c with
  | true => exact q' i1 H1 S1 e σ Q s1 (re.mono g1) k1
  | false => exact k1 i1 H1 Grow.refl s1
theorem dw_or (h : DT G X W a ma) (k : DW G X W (.BoolOp .Or (b :: rest) pos) mb) : DW G X W (.BoolOp .Or (a :: b :: rest) pos) (mOrT ma mb) := by
  obtain ⟨t, p, q⟩ := h
  obtain ⟨u, p', q'⟩ := k
  refine ⟨_, pw_or p p', fun io H S e σ Q so re h => ?_⟩
  refine q io H S e σ _ so re (h.bind.imp (fun _ _ _ _ z => z) fun c S1 i1 H1 g1 s1 k1 => ?_)
  cases c with
  | false => exact q' i1 H1 S1 e σ Q s1 (re.mono g1) k1
  | true => exact k1 i1 H1 Grow.refl s1
theorem dt_w {e : Expr} {m : Env → Store → R Bool} (h : DW G X W e m) : DT G X W e m := let ⟨_, p, q⟩ := h; ⟨_, p.pt, q⟩
theorem dt_not (h : DT G X W a ma) : DT G X W (.UnaryOp .Not a pos) (mNotT ma) := by
  obtain ⟨t, p, q⟩ := h
  refine ⟨_, pt_not p, fun io H S e σ Q so re h => ?_⟩
  exact q io H S e σ _ so re (h.bind.imp (fun _ _ _ _ z => z) fun c S1 i1 H1 g1 s1 k1 => k1 i1 H1 Grow.refl s1)
/-! ### a < b < c -/
def mChain (m m' : Dt → Dt → Store → R Dt) (ma mb mc : Env → Store → R Dt) : Env → Store → R Dt := fun e S => (ma e S).bind fun x S1 => (mb e S1).bind fun y S2 => (m x y S2).bind fun z S3 => match z with
  | .bl true => (mc e S3).bind fun w S4 => m' y w S4
  | .bl false => .ok (.bl false) S3
  | _ => .stuck
theorem simE_chain {r r' : R2} {ta tb tc : TE} {m m' : Dt → Dt → Store → R Dt} {ma mb mc : Env → Store → R Dt} (ho : SimO G r m) (hn : ∀ x y S, NoErr (m x y S)) (ho' : SimO G r' m') (hn' : ∀ x y S, NoErr (m' x y S))
    (ha : SimE G W ta ma) (hb : SimE G W tb mb) (hc : SimE G W tc mc) : SimE G W (tChain r r' ta tb tc) (mChain m m' ma mb mc) := by
  intro io H S e σ Q so re h
  refine ha io H S e σ _ so re (h.bind.imp (fun _ _ _ _ z => z) fun d S1 i1 H1 g1 s1 k1 v r1 => ?_)
  refine hb i1 H1 S1 e σ _ s1 (re.mono g1) (k1.bind.imp (fun _ _ _ _ z => z) fun d' S2 i2 H2 g2 s2 k2 v' r2 => ?_)
  refine ho i2 H2 S2 v v' d d' _ s2 (r1.mono g2) r2 ((k2.bind.noErr (hn _ _ _)).imp (fun _ _ _ _ z => z) fun z S3 i3 H3 g3 s3 k3 vz rz => ?_)
  split at k3
  · refine ⟨true, rel_bl rz, ?_⟩
    rw [if_pos rfl]
    refine hc i3 H3 S3 e σ _ s3 ((re.mono (g1.trans g2)).mono g3) (k3.bind.imp (fun _ _ _ _ z => z) fun w S4 i4 H4 g4 s4 k4 vw rw' => ?_)
    exact ho' i4 H4 S4 v' vw d' w Q s4 ((r2.mono g3).mono g4) rw' (k4.noErr (hn' _ _ _))
  · refine ⟨false, rel_bl rz, ?_⟩
    rw [if_neg Bool.false_ne_true]
    exact k3 i3 H3 Grow.refl s3 _ (.bl _)
  · exact k3.elim
theorem de_chain {op op' : CmpOp} {m m' : Dt → Dt → Store → R Dt} {ma mb mc : Env → Store → R Dt} {c : Expr} (ho : DO G X (compareOp op) m) (ho' : DO G X (compareOp op') m') (ha : DE G X W a ma) (hb : DE G X W b mb) (hc : DE G X W c mc)
    (hm : lastMarks [op, op'] [b, c] = false := by with_unfolding_all rfl) : DE G X W (.Compare a [op, op'] [b, c] pos) (mChain m m' ma mb mc) := by
  obtain ⟨r, p, q, n⟩ := ho
  obtain ⟨r', p', q', n'⟩ := ho'
  obtain ⟨ta, pa, qa⟩ := ha
  obtain ⟨tb, pb, qb⟩ := hb
  obtain ⟨tc, pc, qc⟩ := hc
  exact ⟨_, pe_chain p p' pa pb pc hm, simE_chain q n q' n' qa qb qc⟩
theorem dt_chain {op op' : CmpOp} {m m' : Dt → Dt → Store → R Dt} {ma mb mc : Env → Store → R Dt} {c : Expr} (ho : DO G X (compareOp op) m) (ho' : DO G X (compareOp op') m') (ha : DE G X W a ma) (hb : DE G X W b mb) (hc : DE G X W c mc)
    (hm : lastMarks [op, op'] [b, c] = false := by with_unfolding_all rfl) : DT G X W (.Compare a [op, op'] [b, c] pos) (mB (mChain m m' ma mb mc)) := by
  obtain ⟨r, p, q, n⟩ := ho
  obtain ⟨r', p', q', n'⟩ := ho'
  obtain ⟨ta, pa, qa⟩ := ha
  obtain ⟨tb, pb, qb⟩ := hb
  obtain ⟨tc, pc, qc⟩ := hc
  exact ⟨_, pt_chain p p' pa pb pc hm, simT_b (simE_chain q n q' n' qa qb qc)⟩
end

/-! ### and, or, not, if as values -/
section
variable {G : Gv} {X : Cx} {W : WX} {a b : Expr} {rest : List Expr} {pos : Pos} {ma mb : Env → Store → R Dt}
def mAndV (a b : Env → Store → R Dt) : Env → Store → R Dt := fun e S => (a e S).bind fun d S1 => match tru S1 d with
  | some true => b e S1
  | some false => .ok d S1
  | none => .stuck
def mOrV (a b : Env → Store → R Dt) : Env → Store → R Dt := fun e S => (a e S).bind fun d S1 => match tru S1 d with
  | some true => .ok d S1
  | some false => b e S1
  | none => .stuck
def mNotV (a : Env → Store → R Dt) : Env → Store → R Dt := fun e S => (a e S).bind fun d S1 => match tru S1 d with
  | some b => .ok (.bl (!b)) S1
  | none => .stuck
theorem de_one {op} (h : DE G X W a ma) : DE G X W (.BoolOp op [a] pos) ma := let ⟨_, p, q⟩ := h; ⟨_, pe_one p, q⟩
theorem de_and (h : DE G X W a ma) (k : DE G X W (.BoolOp .And (b :: rest) pos) mb) (hK : X.K = G.K := by rfl) : DE G X W (.BoolOp .And (a :: b :: rest) pos) (mAndV ma mb) := by
  obtain ⟨t, p, q⟩ := h
  obtain ⟨u, p', q'⟩ := k
  refine ⟨_, pe_andT p p', fun io H S e σ Q so re h => ?_⟩
  refine q io H S e σ _ so re (h.bind.imp (fun _ _ _ _ z => z) fun d S1 i1 H1 g1 s1 k1 v r => ?_)
  split at k1
  · rename_i hb
    refine ⟨true, by rw [hK]; exact tru_of s1 r hb, ?_⟩
    rw [if_pos rfl]
    exact q' i1 H1 S1 e σ Q s1 (re.mono g1) k1
  · rename_i hb
    refine ⟨false, by rw [hK]; exact tru_of s1 r hb, ?_⟩
    rw [if_neg Bool.false_ne_true]
    exact k1 i1 H1 Grow.refl s1 _ r
  · exact k1.elim
theorem de_or (h : DE G X W a ma) (k : DE G X W (.BoolOp .Or (b :: rest) pos) mb) (hK : X.K = G.K := by rfl) : DE G X W (.BoolOp .Or (a :: b :: rest) pos) (mOrV ma mb) := by
  obtain ⟨t, p, q⟩ := h
  obtain ⟨u, p', q'⟩ := k
  refine ⟨_, pe_orT p p', fun io H S e σ Q so re h => ?_⟩
  refine q io H S e σ _ so re (h.bind.imp (fun _ _ _ _ z => z) fun d S1 i1 H1 g1 s1 k1 v r => ?_)
  split at k1
  · rename_i hb
    refine ⟨true, by rw [hK]; exact tru_of s1 r hb, ?_⟩
    rw [if_pos rfl]
    exact k1 i1 H1 Grow.refl s1 _ r
  · rename_i hb
    refine ⟨false, by rw [hK]; exact tru_of s1 r hb, ?_⟩
    rw [if_neg Bool.false_ne_true]
    exact q' i1 H1 S1 e σ Q s1 (re.mono g1) k1
  · exact k1.elim
theorem de_not (h : DE G X W a ma) (hK : X.K = G.K := by rfl) : DE G X W (.UnaryOp .Not a pos) (mNotV ma) := by
  obtain ⟨t, p, q⟩ := h
  refine ⟨_, pe_notT p, fun io H S e σ Q so re h => ?_⟩
  refine q io H S e σ _ so re (h.bind.imp (fun _ _ _ _ z => z) fun d S1 i1 H1 g1 s1 k1 v r => ?_)
  split at k1
  · rename_i c hb
    exact ⟨c, by rw [hK]; exact tru_of s1 r hb, k1 i1 H1 Grow.refl s1 _ (.bl _)⟩
  · exact k1.elim
def mIf (c : Env → Store → R Bool) (a b : Env → Store → R Dt) : Env → Store → R Dt := fun e S => (c e S).bind fun k S1 => if k = true then a e S1 else b e S1
theorem de_if {c : Expr} {mc : Env → Store → R Bool} (hc : DT G X W c mc) (ha : DE G X W a ma) (hb : DE G X W b mb) : DE G X W (.IfExp c a b pos) (mIf mc ma mb) := by
  obtain ⟨t, p, q⟩ := hc
  obtain ⟨ta, pa, qa⟩ := ha
  obtain ⟨tb, pb, qb⟩ := hb
  refine ⟨_, pe_ifExp p pa pb, fun io H S e σ Q so re h => ?_⟩
  refine q io H S e σ _ so re (h.bind.imp (fun _ _ _ _ z => z) fun c S1 i1 H1 g1 s1 k1 => ?_)
  cases c with
  | true => exact qa i1 H1 S1 e σ Q s1 (re.mono g1) k1
  | false => exact qb i1 H1 S1 e σ Q s1 (re.mono g1) k1
/-- -a -/
def mNeg (a : Env → Store → R Dt) : Env → Store → R Dt := fun e S => (a e S).bind fun d S1 => match d with
  | .int i => .ok (.int (-i)) S1
  | _ => .stuck
theorem de_neg (h : DE G X W a ma) : DE G X W (.UnaryOp .USub a pos) (mNeg ma) := by
  obtain ⟨t, p, q⟩ := h
  refine ⟨_, pe_un un_neg p, fun io H S e σ Q so re h => ?_⟩
  refine q io H S e σ _ so re (h.bind.imp (fun _ _ _ _ z => z) fun d S1 i1 H1 g1 s1 k1 v r => ?_)
  cases r with
  | int i => exact ⟨i, rfl, k1 i1 H1 Grow.refl s1 _ (.int _)⟩
  | _ => exact k1.elim
end

/-! ### displays -/
section
variable {G : Gv} {X : Cx} {W : WX} {es : List Expr} {pos : Pos} {ms : Env → Store → R (List Dt)}
def mTup (m : Env → Store → R (List Dt)) : Env → Store → R Dt := fun e S => (m e S).bind fun ds S1 => if ds.length ≤ 1000 then .ok (.tup ds) S1 else .stuck
def mLst (m : Env → Store → R (List Dt)) : Env → Store → R Dt := fun e S => (m e S).bind fun ds S1 => if ds.length ≤ 1000 then .ok (.lst ds) S1 else .stuck
/-- a list that will change: an object of the store -/
def mLstR (m : Env → Store → R (List Dt)) : Env → Store → R Dt := fun e S => (m e S).bind fun ds S1 => if ds.length ≤ 1000 then .ok (.ref S1.length) (S1 ++ [.lst ds]) else .stuck
theorem de_tup {x1} (h : DA G X W es ms) : DE G X W (.Tuple es x1 pos) (mTup ms) := by
  obtain ⟨t, p, q⟩ := h
  refine ⟨_, pe_tup p, fun io H S e σ Q so re h => ?_⟩
  refine q io H S e σ _ so re (h.bind.imp (fun _ _ _ _ z => z) fun ds S1 i1 H1 g1 s1 k1 vs r => ?_)
  split at k1
  · rename_i hl
    exact ⟨by rw [← r.length]; exact Nat.le_trans hl (by decide), fun p hp => out_tup s1 r k1 hp⟩
  · exact k1.elim
theorem de_lst (h : DA G X W es ms) : DE G X W (.List es pos) (mLst ms) := by
  obtain ⟨t, p, q⟩ := h
  refine ⟨_, pe_lst p, fun io H S e σ Q so re h => ?_⟩
  refine q io H S e σ _ so re (h.bind.imp (fun _ _ _ _ z => z) fun ds S1 i1 H1 g1 s1 k1 vs r => ?_)
  split at k1
  · rename_i hl
    exact ⟨by rw [← r.length]; exact Nat.le_trans hl (by decide), fun p hp => out_lst s1 r k1 hp⟩
  · exact k1.elim
theorem de_lstR (h : DA G X W es ms) : DE G X W (.List es pos) (mLstR ms) := by
  obtain ⟨t, p, q⟩ := h
  refine ⟨_, pe_lst p, fun io H S e σ Q so re h => ?_⟩
  refine q io H S e σ _ so re (h.bind.imp (fun _ _ _ _ z => z) fun ds S1 i1 H1 g1 s1 k1 vs r => ?_)
  split at k1
  · rename_i hl
    exact ⟨by rw [← r.length]; exact Nat.le_trans hl (by decide), fun p hp => out_ref s1 r k1 hp⟩
  · exact k1.elim
end

/-! ### subscripts -/
theorem rel_at {G : Gv} {io : Io} {H : Hp} {ds : List Dt} {vs : List V} {i : Int} {d : Dt} (r : RelDs G io H ds vs) (h : atI ds i = some d) : ∃ v, atI vs i = some v ∧ RelD G io H d v := by
  unfold atI at h ⊢
  rw [← r.length]
  cases e : ixN ds.length i with
  | none => rw [e] at h; cases h
  | some j =>
    rw [e] at h
    exact r.get h
def ixD (S : Store) (x : Dt) (i : Int) : Option Dt := match x with
  | .tup ds => atI ds i
  | .str s => if s.length ≤ 100000 then (atI s.cps.toList i).map fun c => .str ⟨#[c]⟩ else none
  | x => (asL S x).bind fun ds => atI ds i
def mIx (x y : Dt) (S : Store) : R Dt := match y with
  | .int i => match ixD S x i with
    | some d => .ok d S
    | none => .stuck
  | _ => .stuck
section
variable {G : Gv} {X : Cx} {W : WX} {a b : Expr} {pos : Pos} {ma mb : Env → Store → R Dt}
theorem sim_ix (hK : X.K = G.K) : SimO G (rIx X.K) mIx := by
  intro io H S x y dx dy Q so rx ry h
  unfold mIx at h
  split at h
  · rename_i i
    split at h
    · rename_i d hd
      cases ry
      have ls : ∀ {dx : Dt}, RelD G io H dx x → (asL S dx).bind (fun ds => atI ds i) = some d → rIx X.K x (.int i) H Q := fun {dx} r h' => by
        cases e : asL S dx with
        | none => rw [e] at h'; cases h'
        | some ds =>
          rw [e] at h'
          obtain ⟨p, vs, rfl, h1, h2⟩ := asL_ok so r e
          obtain ⟨v, e1, e2⟩ := rel_at h2 h'
          exact .inl ⟨p, vs, i, v, rfl, rfl, by rw [hK]; exact h1, e1, h io H Grow.refl so v e2⟩
      unfold ixD at hd
      split at hd
      · obtain ⟨p, vs, rfl, h1, h2⟩ := asT_ok rx rfl
        obtain ⟨v, e1, e2⟩ := rel_at h2 hd
        exact .inr (.inl ⟨p, vs, i, v, rfl, rfl, by rw [hK]; exact h1, e1, h io H Grow.refl so v e2⟩)
      · split at hd
        · rename_i s hl
          cases rx
          cases e : atI s.cps.toList i with
          | none => rw [e] at hd; cases hd
          | some c =>
            rw [e] at hd
            cases hd
            exact .inr (.inr ⟨s, i, c, rfl, rfl, Nat.le_trans hl (by decide), e, h io H Grow.refl so _ (.str _)⟩)
        · cases hd
      · exact ls rx hd
    · exact h.elim
  · exact h.elim
theorem noErr_ix (x y : Dt) (S : Store) : NoErr (mIx x y S) := by
  unfold mIx
  repeat' split
  all_goals trivial
theorem de_ix (ha : DE G X W a ma) (hb : DE G X W b mb) (hK : X.K = G.K := by rfl) (hs : PlainIx b := by exact fun _ _ => rfl) : DE G X W (.Subscript a b pos) (mOp mIx ma mb) := by
  obtain ⟨ta, pa, qa⟩ := ha
  obtain ⟨tb, pb, qb⟩ := hb
  exact ⟨_, pe_ix ix_seq pa pb hs, simE_op (sim_ix hK) noErr_ix qa qb⟩
/-- a slice's parts -/
def DP (G : Gv) (X : Cx) (W : WX) (e : Option Expr) (m : Env → Store → R (Option Int)) : Prop := ∃ t, PO X e t ∧ ∀ io H S e σ Q, StoreOk G io S H → RelEnv G io H e σ → Out G io H (wxE G W σ) (fun o _ _ H' => Q o H') (m e S) → t σ H Q
def mNoPart : Env → Store → R (Option Int) := fun _ S => .ok none S
def mPart (m : Env → Store → R Dt) : Env → Store → R (Option Int) := fun e S => (m e S).bind fun d S1 => match d with
  | .int i => .ok (some i) S1
  | _ => .stuck
theorem dp_none : DP G X W none mNoPart := ⟨_, po_none, fun io H S e σ Q so re h => h io H Grow.refl so⟩
theorem dp_some (ha : DE G X W a ma) : DP G X W (some a) (mPart ma) := by
  obtain ⟨t, p, q⟩ := ha
  refine ⟨_, po_some p, fun io H S e σ Q so re h => ?_⟩
  refine q io H S e σ _ so re (h.bind.imp (fun _ _ _ _ z => z) fun d S1 i1 H1 g1 s1 k1 v r => ?_)
  cases r with
  | int i => exact ⟨i, rfl, k1 i1 H1 Grow.refl s1⟩
  | _ => exact k1.elim
/-- the items of xs[lo:hi] -/
def cutA {α : Type} (xs : List α) (lo hi : Option Int) : List α := (xs.drop (HT.sIx xs.length 0 lo)).take (HT.sIx xs.length xs.length hi - HT.sIx xs.length 0 lo)
theorem rel_cut {G : Gv} {io : Io} {H : Hp} {ds : List Dt} {vs : List V} {lo hi : Option Int} (r : RelDs G io H ds vs) : RelDs G io H (cutA ds lo hi) (cutV vs lo hi) := by
  unfold cutA cutV
  rw [← r.length]
  exact (r.drop _).take _
def slD (S : Store) (x : Dt) (lo hi : Option Int) : Option Dt := match x with
  | .tup ds => some (.tup (cutA ds lo hi))
  | x => (asL S x).map fun ds => .lst (cutA ds lo hi)
def mSl (m : Env → Store → R Dt) (ml mh : Env → Store → R (Option Int)) : Env → Store → R Dt := fun e S => (m e S).bind fun x S1 => (ml e S1).bind fun l S2 => (mh e S2).bind fun h S3 => match slD S3 x l h with
  | some d => .ok d S3
  | none => .stuck
theorem cut_whole {α : Type} {xs : List α} {lo hi : Option Int} (h : HT.sIx xs.length 0 lo = 0 ∧ HT.sIx xs.length xs.length hi = xs.length) : cutA xs lo hi = xs := by
  unfold cutA
  rw [h.1, h.2]
  simp
theorem de_sl {lo hi : Option Expr} {p2 : Pos} {ml mh : Env → Store → R (Option Int)} (ha : DE G X W a ma) (hl : DP G X W lo ml) (hh : DP G X W hi mh) (hK : X.K = G.K := by rfl) : DE G X W (.Subscript a (.Slice lo hi none p2) pos) (mSl ma ml mh) := by
  obtain ⟨ta, pa, qa⟩ := ha
  obtain ⟨tl, pl, ql⟩ := hl
  obtain ⟨th, ph, qh⟩ := hh
  refine ⟨_, pe_slice (sl_list.or sl_tupA) pa pl ph, fun io H S e σ Q so re h => ?_⟩
  refine qa io H S e σ _ so re (h.bind.imp (fun _ _ _ _ z => z) fun x S1 i1 H1 g1 s1 k1 v rx => ?_)
  refine ql i1 H1 S1 e σ _ s1 (re.mono g1) (k1.bind.imp (fun _ _ _ _ z => z) fun l S2 i2 H2 g2 s2 k2 => ?_)
  refine qh i2 H2 S2 e σ _ s2 ((re.mono g1).mono g2) (k2.bind.imp (fun _ _ _ _ z => z) fun u S3 i3 H3 g3 s3 k3 => ?_)
  have rx3 := (rx.mono g2).mono g3
  split at k3
  · rename_i d hd
    unfold slD at hd
    split at hd
    · rename_i ds
      cases hd
      obtain ⟨p, vs, rfl, h1, h2⟩ := asT_ok rx3 rfl
      refine .inr ⟨p, vs, rfl, by rw [hK]; exact h1, fun hw => ?_, fun _ q hq => out_tup s3 (rel_cut h2) k3 hq⟩
      rw [← h2.length] at hw
      rw [cut_whole hw] at k3
      exact k3 i3 H3 Grow.refl s3 _ rx3
    · rename_i x' hne
      cases el : asL S3 x with
      | none => rw [el] at hd; cases hd
      | some ds =>
        rw [el] at hd
        cases hd
        obtain ⟨p, vs, rfl, h1, h2⟩ := asL_ok s3 rx3 el
        exact .inl ⟨p, vs, rfl, by rw [hK]; exact h1, fun q hq => out_lst s3 (rel_cut h2) k3 hq⟩
  · exact k3.elim
end

/-! ### built-in functions -/
def SimC (G : Gv) (r : List V → Hp → VK → Prop) (m : List Dt → Store → R Dt) : Prop := ∀ io H S ds vs Q, StoreOk G io S H → RelDs G io H ds vs → Out G io H (fun _ _ _ => False) (poE G Q) (m ds S) → r vs H Q
def DC (G : Gv) (X : Cx) (f : Value) (m : List Dt → Store → R Dt) : Prop := ∃ r, CallR X f r ∧ SimC G r m ∧ ∀ ds S, NoErr (m ds S)
def mCB (m : List Dt → Store → R Dt) (ma : Env → Store → R (List Dt)) : Env → Store → R Dt := fun e S => (ma e S).bind m
section
variable {G : Gv} {X : Cx} {W : WX} {e : Expr} {es : List Expr} {x : Str} {p pos : Pos} {ms : Env → Store → R (List Dt)} {id T : String} {m : List Dt → Store → R Dt}
theorem de_callB (hc : DC G X (.builtin id) m) (hg : Gl X x) (hm : X.mg x = none) (hv : bootBuiltins x = some (.builtin id)) (ha : DA G X W (e :: es) ms) (hn : x ≠ "__name__" := by decide) (hdb : (x == ("__debug__" : Str)) = false := by decide)
    (he : starEach (e :: es) X.env = (false, eval e X.env) :: starEach es X.env := by rfl) (hpl : (backTo pos (starEach es X.env)).any (·.1) = false := by rfl) : DE G X W (.Call (.Name x p) (e :: es) [] pos) (mCB m ms) := by
  obtain ⟨r, p1, q1, n1⟩ := hc
  obtain ⟨t, p2, q2⟩ := ha
  refine ⟨_, pe_callB p1 hg hm hv p2 hn hdb he hpl, fun io H S e σ Q so re h => ?_⟩
  exact q2 io H S e σ _ so re (h.bind.imp (fun _ _ _ _ z => z) fun ds S1 i1 H1 g1 s1 k1 vs r => q1 i1 H1 S1 ds vs Q s1 r (k1.noErr (n1 _ _)))
theorem de_callTy (hc : DC G X (.type T) m) (hg : Gl X x) (hm : X.mg x = none) (hv : bootBuiltins x = some (.type T)) (ha : DA G X W (e :: es) ms) (hn : x ≠ "__name__" := by decide) (hdb : (x == ("__debug__" : Str)) = false := by decide)
    (he : starEach (e :: es) X.env = (false, eval e X.env) :: starEach es X.env := by rfl) (hpl : (backTo pos (starEach es X.env)).any (·.1) = false := by rfl) : DE G X W (.Call (.Name x p) (e :: es) [] pos) (mCB m ms) := by
  obtain ⟨r, p1, q1, n1⟩ := hc
  obtain ⟨t, p2, q2⟩ := ha
  refine ⟨_, pe_callTy p1 hg hm hv p2 hn hdb he hpl, fun io H S e σ Q so re h => ?_⟩
  exact q2 io H S e σ _ so re (h.bind.imp (fun _ _ _ _ z => z) fun ds S1 i1 H1 g1 s1 k1 vs r => q1 i1 H1 S1 ds vs Q s1 r (k1.noErr (n1 _ _)))

def mAbs (ds : List Dt) (S : Store) : R Dt := match ds with
  | [.int i] => .ok (.int (if i < 0 then -i else i)) S
  | _ => .stuck
theorem dc_abs : DC G X (.builtin "abs") mAbs := by
  refine ⟨_, call_abs, ?_, ?_⟩
  · intro io H S ds vs Q so r h
    unfold mAbs at h
    split at h
    · cases r with
      | cons r1 r2 =>
        cases r1
        cases r2
        exact ⟨_, rfl, h io H Grow.refl so _ (.int _)⟩
    · exact h.elim
  · intro ds S
    unfold mAbs
    split <;> trivial
def lenD (S : Store) (d : Dt) : Option Nat := match d with
  | .tup ds => some ds.length
  | .str s => if s.length ≤ 100000 then some s.length else none
  | d => (asL S d).map List.length
def mLen (ds : List Dt) (S : Store) : R Dt := match ds with
  | [d] => match lenD S d with
    | some n => .ok (.int n) S
    | none => .stuck
  | _ => .stuck
theorem dc_len (hK : X.K = G.K := by rfl) : DC G X (.builtin "len") mLen := by
  refine ⟨_, (call_len_seq (X := X)).or call_len_str, ?_, ?_⟩
  · intro io H S ds vs Q so r h
    unfold mLen at h
    split at h
    · rename_i d
      cases r with
      | cons r1 r2 =>
        cases r2
        split at h
        · rename_i n hn
          unfold lenD at hn
          split at hn
          · cases hn
            obtain ⟨p, us, rfl, h1, h2⟩ := asT_ok r1 rfl
            refine .inl ⟨p, us, rfl, .inr (by rw [hK]; exact h1), ?_⟩
            rw [← h2.length]
            exact h io H Grow.refl so _ (.int _)
          · split at hn
            · rename_i hl
              cases hn
              cases r1
              exact .inr ⟨_, rfl, Nat.le_trans hl (by decide), h io H Grow.refl so _ (.int _)⟩
            · cases hn
          · cases el : asL S d with
            | none => rw [el] at hn; cases hn
            | some ds =>
              rw [el] at hn
              cases hn
              obtain ⟨p, us, rfl, h1, h2⟩ := asL_ok so r1 el
              refine .inl ⟨p, us, rfl, .inl (by rw [hK]; exact h1), ?_⟩
              rw [← h2.length]
              exact h io H Grow.refl so _ (.int _)
        · exact h.elim
    · exact h.elim
  · intro ds S
    unfold mLen
    repeat' split
    all_goals trivial
def asS (S : Store) (d : Dt) : Option (List Dt) := match d with
  | .tup ds => some ds
  | d => asL S d
theorem asS_ok {io : Io} {H : Hp} {S : Store} {d : Dt} {ds : List Dt} {v : V} (so : StoreOk G io S H) (r : RelD G io H d v) (h : asS S d = some ds) : ∃ a vs, v = .ref a ∧ (SqL G.K H a vs ∨ SqT G.K H a vs) ∧ RelDs G io H ds vs := by
  unfold asS at h
  split at h
  · obtain ⟨a, vs, h1, h2, h3⟩ := asT_ok r h
    exact ⟨a, vs, h1, .inr h2, h3⟩
  · obtain ⟨a, vs, h1, h2, h3⟩ := asL_ok so r h
    exact ⟨a, vs, h1, .inl h2, h3⟩
/-- list(xs): by value; an object of the store -/
def mList (ds : List Dt) (S : Store) : R Dt := match ds with
  | [d] => match asS S d with
    | some ds => .ok (.lst ds) S
    | none => .stuck
  | _ => .stuck
def mListR (ds : List Dt) (S : Store) : R Dt := match ds with
  | [d] => match asS S d with
    | some ds => .ok (.ref S.length) (S ++ [.lst ds])
    | none => .stuck
  | _ => .stuck
theorem dc_list (hK : X.K = G.K := by rfl) : DC G X (.type "list") mList := by
  refine ⟨_, call_list_of, ?_, ?_⟩
  · intro io H S ds vs Q so r h
    unfold mList at h
    split at h
    · cases r with
      | cons r1 r2 =>
        cases r2
        split at h
        · rename_i es he
          obtain ⟨a, us, rfl, h1, h2⟩ := asS_ok so r1 he
          exact ⟨a, us, rfl, by rw [hK]; exact h1, fun l hl => out_lst so h2 h hl⟩
        · exact h.elim
    · exact h.elim
  · intro ds S
    unfold mList
    repeat' split
    all_goals trivial
theorem dc_listR (hK : X.K = G.K := by rfl) : DC G X (.type "list") mListR := by
  refine ⟨_, call_list_of, ?_, ?_⟩
  · intro io H S ds vs Q so r h
    unfold mListR at h
    split at h
    · cases r with
      | cons r1 r2 =>
        cases r2
        split at h
        · rename_i es he
          obtain ⟨a, us, rfl, h1, h2⟩ := asS_ok so r1 he
          exact ⟨a, us, rfl, by rw [hK]; exact h1, fun l hl => out_ref so h2 h hl⟩
        · exact h.elim
    · exact h.elim
  · intro ds S
    unfold mListR
    repeat' split
    all_goals trivial
def mTuple (ds : List Dt) (S : Store) : R Dt := match ds with
  | [d] => match asS S d with
    | some ds => .ok (.tup ds) S
    | none => .stuck
  | _ => .stuck
theorem dc_tuple (hK : X.K = G.K := by rfl) : DC G X (.type "tuple") mTuple := by
  refine ⟨_, call_tuple_of, ?_, ?_⟩
  · intro io H S ds vs Q so r h
    unfold mTuple at h
    split at h
    · rename_i d
      cases r with
      | cons r1 r2 =>
        cases r2
        split at h
        · rename_i es he
          unfold asS at he
          split at he
          · cases he
            obtain ⟨a, us, rfl, h1, h2⟩ := asT_ok r1 rfl
            exact ⟨a, us, rfl, .inr ⟨by rw [hK]; exact h1, h io H Grow.refl so _ r1⟩⟩
          · obtain ⟨a, us, rfl, h1, h2⟩ := asL_ok so r1 he
            exact ⟨a, us, rfl, .inl ⟨by rw [hK]; exact h1, fun l hl => out_tup so h2 h hl⟩⟩
        · exact h.elim
    · exact h.elim
  · intro ds S
    unfold mTuple
    repeat' split
    all_goals trivial
/-- all, any, sum of a list -/
def bools : List Dt → Option (List Bool)
  | [] => some []
  | .bl b :: r => (bools r).map (b :: ·)
  | _ => none
theorem bools_ok {io : Io} {H : Hp} : ∀ {ds : List Dt} {vs : List V} {bs : List Bool}, RelDs G io H ds vs → bools ds = some bs → vs = bs.map V.bl
  | [], _, _, r, h => by cases r; cases h; rfl
  | d :: ds, _, bs, r, h => by
    cases r with
    | cons r1 r2 =>
      cases r1 with
      | bl b =>
        simp only [bools] at h
        cases e : bools ds with
        | none => rw [e] at h; cases h
        | some cs =>
          rw [e] at h
          cases h
          rw [bools_ok r2 e]
          rfl
      | _ => cases h
def mAll (ds : List Dt) (S : Store) : R Dt := match ds with
  | [d] => match (asL S d).bind bools with
    | some bs => .ok (.bl (bs.all fun b => b)) S
    | none => .stuck
  | _ => .stuck
theorem dc_all (hc : X.calm = true := by rfl) (hK : X.K = G.K := by rfl) : DC G X (.builtin "all") mAll := by
  refine ⟨_, cr_all hc, ?_, ?_⟩
  · intro io H S ds vs Q so r h
    unfold mAll at h
    split at h
    · rename_i d
      cases r with
      | cons r1 r2 =>
        cases r2
        split at h
        · rename_i bs hb
          cases el : asL S d with
          | none => rw [el] at hb; cases hb
          | some es =>
            rw [el] at hb
            obtain ⟨a, us, rfl, h1, h2⟩ := asL_ok so r1 el
            have e := bools_ok h2 hb
            subst e
            refine ⟨a, bs, rfl, by rw [hK]; exact h1, ?_⟩
            have e2 : bs.all (fun b => b) = bs.all id := rfl
            rw [e2] at h
            exact h io H Grow.refl so _ (.bl _)
        · exact h.elim
    · exact h.elim
  · intro ds S
    unfold mAll
    repeat' split
    all_goals trivial

end
end Dv

set_option Elab.async false
set_option linter.all false
set_option maxRecDepth 100000
set_option maxHeartbeats 4000000
set_option autoImplicit false
namespace Dv
open PySem PySem.Spec PyProof.Rows L2

/-! ### isinstance -/
abbrev tys : List String := ["NoneType", "bool", "int", "str", "tuple", "list", "dict"]
abbrev clss : List String := ["bool", "int", "str", "tuple", "list", "dict"]
/-- what isinstance asks of the text's own classes -/
structure ClsOk (G : Gv) : Prop where
  cls : ∀ c C, G.cl c = some C → Cls G.K C
  ha : ∀ c C, G.cl c = some C → PySem.W.findIn G.K (.ref C) "__class__" = some (some (.builtin "object.__class__"))
  hn : PySem.W.specialIn G.K (.builtin "object.__class__") "__get__" = some (some (.builtin "getset_descriptor.__get__")) ∨ ∀ c, G.cl c = none
  htk : PySem.W.takesIn G.K (.builtin "object.__class__") = some true ∨ ∀ c, G.cl c = none
  hm : ∀ c C, G.cl c = some C → PySem.W.mroIn G.K C (.type "object") = some true
  tyOwn : ∀ c C, G.cl c = some C → ∀ t ∈ tys, PySem.W.kitOne G.K (.type t) (.ref C) = some false
  ownTy : ∀ c C, G.cl c = some C → ∀ t ∈ clss, PySem.W.kitOne G.K (.ref C) (.type t) = some false
  ownOwn : ∀ c C d D, G.cl c = some C → G.cl d = some D → PySem.W.kitOne G.K (.ref C) (.ref D) = some (c == d)
theorem ClsOk.none {G : Gv} (h : ∀ c, G.cl c = none) : ClsOk G := by
  have z : ∀ {P : Prop} {c : String} {C : Addr}, G.cl c = some C → P := fun {P c C} e => by
    rw [h] at e
    cases e
  exact ⟨fun _ _ e => z e, fun _ _ e => z e, .inr h, .inr h, fun _ _ e => z e, fun _ _ e => z e, fun _ _ e => z e, fun _ _ _ _ e => z e⟩
theorem ClsOk.tyOf {G : Gv} (o : ClsOk G) {H : Hp} {a C dx : Addr} {fs : List (Str × V)} {c : String} (h : G.cl c = some C) (e : H a = some (.ins C dx fs)) : TyOf G.K H (.ref a) (.ref C) := by
  have n1 := o.hn.resolve_right fun z => by rw [z] at h; cases h
  have n2 := o.htk.resolve_right fun z => by rw [z] at h; cases h
  exact .ins e (o.cls c C h) (o.ha c C h) n1 n2 (o.hm c C h)
/-- the type of a value: a built-in one, or an own class -/
def tyS (S : Store) (d : Dt) : Option (String ⊕ String) := match d with
  | .non => some (.inl "NoneType")
  | .bl _ => some (.inl "bool")
  | .int _ => some (.inl "int")
  | .str _ => some (.inl "str")
  | .tup _ => some (.inl "tuple")
  | .lst _ => some (.inl "list")
  | .dct _ _ => some (.inl "dict")
  | .ins c _ _ => some (.inr c)
  | .ref i => match S[i]? with
    | some (.lst _) => some (.inl "list")
    | some (.dct _ _) => some (.inl "dict")
    | some (.ins c _ _) => some (.inr c)
    | none => none
  | _ => none
def isiB (t c : String) : Bool := t == c || t == "bool" && c == "int"
theorem kit_isiB {K : PySem.W.Frag} {t c : String} (ht : t ∈ tys) (hc : c ∈ clss) : PySem.W.kitOne K (.type t) (.type c) = some (isiB t c) := by
  have all : (tys.all fun t => clss.all fun c => decide (kitB t c = some (isiB t c))) = true := by decide +kernel
  rw [List.all_eq_true] at all
  have z := List.all_eq_true.mp (all t ht) c hc
  exact kit_ty (of_decide_eq_true z)
def isiT (t : String ⊕ String) (c : Dt) : Option Bool := match t, c with
  | .inl t, .ty n => if n ∈ clss then some (isiB t n) else none
  | .inl _, .cls _ => some false
  | .inr _, .ty n => if n ∈ clss then some false else none
  | .inr c, .cls d => some (c == d)
  | _, _ => none
def isiAny (t : String ⊕ String) : List Dt → Option Bool
  | [] => some false
  | c :: r => match isiT t c with
    | some true => (isiAny t r).map fun _ => true
    | some false => isiAny t r
    | none => none
def mIsi (ds : List Dt) (S : Store) : R Dt := match ds with
  | [x, .tup cs] => match (tyS S x).bind fun t => isiAny t cs with
    | some b => .ok (.bl b) S
    | none => .stuck
  | [x, c] => match (tyS S x).bind fun t => isiT t c with
    | some b => .ok (.bl b) S
    | none => .stuck
  | _ => .stuck
/-- a type as a value of the model -/
inductive TyV (G : Gv) : String ⊕ String → Value → Prop
  | b {t : String} : t ∈ tys → TyV G (.inl t) (.type t)
  | own {c : String} {C : Addr} : G.cl c = some C → TyV G (.inr c) (.ref C)
section
variable {G : Gv} {X : Cx} {W : WX} {io : Io} {H : Hp} {S : Store}
theorem tyS_ok (o : ClsOk G) {d : Dt} {v : V} {t : String ⊕ String} (so : StoreOk G io S H) (r : RelD G io H d v) (h : tyS S d = some t) : ∃ u, TyV G t u ∧ TyX G.K H v u := by
  cases r with
  | non => cases h; exact ⟨_, .b (by decide), .base .non⟩
  | bl b => cases h; exact ⟨_, .b (by decide), .base (.bl b)⟩
  | int i => cases h; exact ⟨_, .b (by decide), .base (.int i)⟩
  | str s => cases h; exact ⟨_, .b (by decide), .base (.str s)⟩
  | tup e _ =>
    cases h
    rcases e with ⟨e, _⟩ | ⟨o, its, n, h1, h2, _⟩
    · exact ⟨_, .b (by decide), .base (.tup e)⟩
    · exact ⟨_, .b (by decide), .kTuple h1 h2⟩
  | lst e _ _ => cases h; exact ⟨_, .b (by decide), .base (.lst e)⟩
  | dct e _ _ _ => cases h; exact ⟨_, .b (by decide), .base (.dK e)⟩
  | ins e n c l k => cases h; exact ⟨_, .own c, .base (o.tyOf c e)⟩
  | @ref a i e =>
    unfold tyS at h
    dsimp only at h
    split at h
    · rename_i hs
      obtain ⟨a', h1, h2⟩ := so.at_ hs
      rw [e] at h1
      cases h1
      cases h
      cases h2 with
      | lst e1 _ => exact ⟨_, .b (by decide), .base (.lst e1)⟩
    · rename_i hs
      obtain ⟨a', h1, h2⟩ := so.at_ hs
      rw [e] at h1
      cases h1
      cases h
      cases h2 with
      | dct e1 _ _ => exact ⟨_, .b (by decide), .base (.dK e1)⟩
    · rename_i hs
      obtain ⟨a', h1, h2⟩ := so.at_ hs
      rw [e] at h1
      cases h1
      cases h
      cases h2 with
      | ins e1 c _ _ => exact ⟨_, .own c, .base (o.tyOf c e1)⟩
    · cases h
  | _ => cases h
theorem isiT_ok (o : ClsOk G) {t : String ⊕ String} {u : Value} {c : Dt} {vc : V} {b : Bool} (ht : TyV G t u) (r : RelD G io H c vc) (h : isiT t c = some b) : ∃ uc, ClsV vc uc ∧ PySem.W.kitOne G.K u uc = some b := by
  cases r with
  | ty n =>
    refine ⟨_, .ty n, ?_⟩
    cases ht with
    | b ht =>
      unfold isiT at h
      dsimp only at h
      split at h
      · rename_i hc
        cases h
        exact kit_isiB ht hc
      · cases h
    | own hc =>
      unfold isiT at h
      dsimp only at h
      split at h
      · rename_i hn
        cases h
        exact o.ownTy _ _ hc _ hn
      · cases h
  | @cls c C hC =>
    refine ⟨_, .own C, ?_⟩
    cases ht with
    | b ht =>
      cases h
      exact o.tyOwn _ _ hC _ ht
    | own hc =>
      cases h
      exact o.ownOwn _ _ _ _ hc hC
  | _ => cases ht <;> cases h
theorem isiAny_ok (o : ClsOk G) {t : String ⊕ String} {u : Value} (ht : TyV G t u) : ∀ {cs : List Dt} {vs : List V} {b : Bool}, RelDs G io H cs vs → isiAny t cs = some b → ∃ us, Paired ClsV vs us ∧ PySem.W.kitAny G.K u us = some b
  | [], _, b, r, h => by
    cases r
    cases h
    exact ⟨[], .nil, rfl⟩
  | c :: cs, _, b, r, h => by
    cases r with
    | cons r1 r2 =>
      unfold isiAny at h
      split at h
      · rename_i e1
        cases e : isiAny t cs with
        | none => rw [e] at h; cases h
        | some b' =>
          rw [e] at h
          cases h
          obtain ⟨uc, h1, h2⟩ := isiT_ok o ht r1 e1
          obtain ⟨us, h3, _⟩ := isiAny_ok o ht r2 e
          exact ⟨uc :: us, .cons h1 h3, kitAny_cons h2 (fun z => by cases z) fun _ => rfl⟩
      · rename_i e1
        obtain ⟨uc, h1, h2⟩ := isiT_ok o ht r1 e1
        obtain ⟨us, h3, h4⟩ := isiAny_ok o ht r2 h
        exact ⟨uc :: us, .cons h1 h3, kitAny_cons h2 (fun _ => h4) fun z => by cases z⟩
      · cases h
theorem dc_isi (o : ClsOk G) (hK : X.K = G.K := by rfl) : DC G X (.builtin "isinstance") mIsi := by
  refine ⟨_, ((call_isi (X := X)).or call_isiT).or call_isiK, ?_, ?_⟩
  · intro io H S ds vs Q so r h
    rw [hK]
    unfold mIsi at h
    split at h
    · rename_i x cs
      cases r with
      | cons r1 r2 =>
        cases r2 with
        | cons r2 r3 =>
          cases r3
          split at h
          · rename_i b hb
            cases et : tyS S x with
            | none => rw [et] at hb; cases hb
            | some t =>
              rw [et] at hb
              obtain ⟨u, h1, h2⟩ := tyS_ok o so r1 et
              cases r2 with
              | @tup a _ us e rs =>
                obtain ⟨ws, h3, h4⟩ := isiAny_ok o h1 rs hb
                have q := h io H Grow.refl so _ (.bl b)
                rcases e with ⟨e, _⟩ | ⟨ob, its, n, k1, k2, k3, k4, k5⟩
                · exact .inl (.inr ⟨_, _, _, _, _, b, rfl, e, h3, h2, h4, q⟩)
                · obtain ⟨oc, od, dt, sl⟩ := ob
                  simp only at k2 k3
                  subst k2 k3
                  have e3 := ClsV.all h3 k5
                  subst e3
                  exact .inr ⟨_, _, od, its.toList, n, sl, _, b, rfl, by simpa using k1, h2, h4, q⟩
          · exact h.elim
    · rename_i x c hne
      cases r with
      | cons r1 r2 =>
        cases r2 with
        | cons r2 r3 =>
          cases r3
          split at h
          · rename_i b hb
            cases et : tyS S x with
            | none => rw [et] at hb; cases hb
            | some t =>
              rw [et] at hb
              obtain ⟨u, h1, h2⟩ := tyS_ok o so r1 et
              obtain ⟨uc, h3, h4⟩ := isiT_ok o h1 r2 hb
              exact .inl (.inl ⟨_, _, _, _, b, rfl, h3, h2, h4, h io H Grow.refl so _ (.bl b)⟩)
          · exact h.elim
    · exact h.elim
  · intro ds S
    unfold mIsi
    repeat' split
    all_goals trivial
end

/-! ### statements -/
def R.toS {α : Type} (r : R α) (e : Env) (f : α → Store → RS) : RS := match r with
  | .ok a S => f a S
  | .err x S => .err x e S
  | .stuck => .stuck
theorem OutS.bind {G : Gv} {io : Io} {H : Hp} {α : Type} {wx : Ex → Env → Io → Hp → Prop} {post : Fl → Env → Store → Io → Hp → Prop} {r : R α} {e : Env} {f : α → Store → RS} (h : OutS G io H wx post (r.toS e f)) :
    Out G io H (fun x io' H' => wx x e io' H') (fun a S io' H' => OutS G io' H' wx post (f a S)) r := by
  cases r with
  | ok a S => exact fun io' H' g s => OutS.from g h
  | err x S => exact h
  | stuck => exact h
section
variable {G : Gv} {X : Cx} {W : WX} {e : Expr} {me : Env → Store → R Dt} {pos : Pos}
/-- a wish at the statement's slots -/
theorem wx_of {io : Io} {H : Hp} {en : Env} {σ : L2.St} (re : RelEnv G io H en σ) : ∀ x io' H', Grow io H io' H' → wxS G W x en io' H' → wxE G W σ x io' H' := fun x io' H' g z cls dx rx => z σ cls dx (re.mono g) rx

/-- targets -/
def DG (G : Gv) (X : Cx) (tg : Expr) (m : Dt → Env → Store → Option (Env × Store)) : Prop := ∃ g, PG X tg g ∧ ∀ io H S en σ d v (Q : L2.St → Hp → Prop), StoreOk G io S H → RelEnv G io H en σ → RelD G io H d v →
  (match m d en S with
    | some (e', S') => ∀ io' H', Grow io H io' H' → StoreOk G io' S' H' → ∀ σ', RelEnv G io' H' e' σ' → Q σ' H'
    | none => False) → g v σ H Q
def gNm (i : Nat) : Dt → Env → Store → Option (Env × Store) := fun d e S => some (e.set i (some d), S)
theorem dg_name {i : Nat} {x : Str} (hN : X.N.Nodup) (hi : X.N[i]? = some x) (hx : Loc X.env.scope x) (hf : X.fn x = true ∨ X.env.scope.names.lookup x = some .local := by first | exact .inl rfl | exact .inr rfl | assumption) : DG G X (.Name x pos) (gNm i) :=
  ⟨_, pg_name hN hi hx hf, fun io H S en σ d v Q so re r h => h io H Grow.refl so _ (re.set r)⟩
def DGs (G : Gv) (X : Cx) (tgs : List Expr) (m : List Dt → Env → Store → Option (Env × Store)) : Prop := ∃ g, PGs X tgs g ∧ ∀ io H S en σ ds vs (Q : L2.St → Hp → Prop), StoreOk G io S H → RelEnv G io H en σ → RelDs G io H ds vs →
  (match m ds en S with
    | some (e', S') => ∀ io' H', Grow io H io' H' → StoreOk G io' S' H' → ∀ σ', RelEnv G io' H' e' σ' → Q σ' H'
    | none => False) → g vs σ H Q
def gNil' : List Dt → Env → Store → Option (Env × Store) := fun ds e S => match ds with
  | [] => some (e, S)
  | _ => none
def gCons' (m : Dt → Env → Store → Option (Env × Store)) (ms : List Dt → Env → Store → Option (Env × Store)) : List Dt → Env → Store → Option (Env × Store) := fun ds e S => match ds with
  | d :: r => match m d e S with
    | some (e1, S1) => ms r e1 S1
    | none => none
  | [] => none
theorem dgs_nil : DGs G X [] gNil' := ⟨_, pgs_nil, fun io H S en σ ds vs Q so re r h => by
  cases r with
  | nil => exact ⟨rfl, h io H Grow.refl so _ re⟩
  | cons _ _ => exact h.elim⟩
theorem dgs_cons {tg : Expr} {tgs : List Expr} {m : Dt → Env → Store → Option (Env × Store)} {ms : List Dt → Env → Store → Option (Env × Store)} (h1 : DG G X tg m) (h2 : DGs G X tgs ms)
    (hs : (assignEach (tg :: tgs) X.env).map (·.2) = assign tg X.env :: (assignEach tgs X.env).map (·.2) := by rfl) : DGs G X (tg :: tgs) (gCons' m ms) := by
  obtain ⟨g, p, q⟩ := h1
  obtain ⟨g', p', q'⟩ := h2
  refine ⟨_, pgs_cons p p' hs, fun io H S en σ ds vs Q so re r h => ?_⟩
  cases r with
  | nil => exact h.elim
  | cons r1 r2 =>
    refine ⟨_, _, rfl, q io H S en σ _ _ _ so re r1 ?_⟩
    unfold gCons' at h
    dsimp only at h
    split
    · rename_i e1 S1 em
      rw [em] at h
      intro i1 H1 g1 s1 σ1 re1
      refine q' i1 H1 S1 e1 σ1 _ _ Q s1 re1 (r2.mono g1) ?_
      dsimp only at h
      split
      · rename_i e2 S2 em2
        rw [em2] at h
        exact fun i2 H2 g2 s2 σ2 re2 => h i2 H2 (g1.trans g2) s2 σ2 re2
      · rename_i em2
        rw [em2] at h
        exact h
    · rename_i em
      rw [em] at h
      exact h
def gTp (n : Nat) (m : List Dt → Env → Store → Option (Env × Store)) : Dt → Env → Store → Option (Env × Store) := fun d e S => match d with
  | .tup ds => if ds.length = n then m ds e S else none
  | _ => none
theorem dg_tup {es : List Expr} {k n : Nat} {m : List Dt → Env → Store → Option (Env × Store)} (h : DGs G X es m) (hc : X.calm = true := by rfl) (hn : (assignEach es X.env).length = n := by rfl) (hst : (assignEach es X.env).findIdx? (·.1) = none := by rfl)
    (hK : X.K = G.K := by rfl) : DG G X (.Tuple es k pos) (gTp n m) := by
  obtain ⟨g, p, q⟩ := h
  refine ⟨_, pg_tup hc p hn hst, fun io H S en σ d v Q so re r h => ?_⟩
  unfold gTp at h
  split at h
  · rename_i e' S' em
    split at em
    · rename_i ds
      split at em
      · rename_i hl
        obtain ⟨a, vs, rfl, h1, h2⟩ := asT_ok r rfl
        refine ⟨a, vs, rfl, by rw [hK]; exact h1, by rw [← h2.length]; exact hl, q io H S en σ _ _ Q so re h2 ?_⟩
        rw [em]
        exact h
      · cases em
    · cases em
  · exact h.elim

def mSet (i : Nat) (m : Env → Store → R Dt) : Env → Store → RS := fun en S => (m en S).toS en fun d S1 => .ok .nx (en.set i (some d)) S1
theorem ds_set {i : Nat} {x : Str} {pos' : Pos} (hN : X.N.Nodup) (he : DE G X W e me) (hi : X.N[i]? = some x := by rfl) (hx : Loc X.env.scope x := by first | exact Or.inl rfl | exact Or.inr rfl) (hs : swapsWith e (some (.Name x pos')) pos.line X.env = pure false := by rfl) (hf : X.fn x = true ∨ X.env.scope.names.lookup x = some .local := by first | exact .inl rfl | exact .inr rfl | assumption) :
    DS G X W (.Assign [.Name x pos'] e pos) (mSet i me) := by
  obtain ⟨t, p, q⟩ := he
  refine ⟨_, ps_set hN hi hx p hs hf, fun io H S en σ D so re h => ?_⟩
  refine q io H S en σ _ so re (h.bind.imp (wx_of re) fun d S1 i1 H1 g1 s1 k1 v r => ?_)
  exact k1 i1 H1 Grow.refl s1 _ ((re.mono g1).set r)
/-- target = value -/
def mAsg (g : Dt → Env → Store → Option (Env × Store)) (m : Env → Store → R Dt) : Env → Store → RS := fun en S => (m en S).toS en fun d S1 => match g d en S1 with
  | some (e', S') => .ok .nx e' S'
  | none => .stuck
theorem ds_asg {tg : Expr} {g : Dt → Env → Store → Option (Env × Store)} (he : DE G X W e me) (hg : DG G X tg g) (hs : swapsWithSole [tg] e pos.line X.env = pure false := by rfl) (hw : swappedStores [tg] e X.env = pure none := by rfl)
    (h1 : (assignEach [tg] X.env).map (·.2) = [assign tg X.env] := by rfl) : DS G X W (.Assign [tg] e pos) (mAsg g me) := by
  obtain ⟨t, p, q⟩ := he
  obtain ⟨g', p', q'⟩ := hg
  refine ⟨_, ps_asg p p' hs hw h1, fun io H S en σ D so re h => ?_⟩
  refine q io H S en σ _ so re (h.bind.imp (wx_of re) fun d S1 i1 H1 g1 s1 k1 v r => ?_)
  refine q' i1 H1 S1 en σ d v _ s1 (re.mono g1) r ?_
  split
  · rename_i e' S' em
    rw [em] at k1
    exact fun io' H' g s σ' re' => k1 io' H' g s σ' re'
  · rename_i em
    rw [em] at k1
    exact k1.elim
/-- a, b = x, y: plain names -/
def mPar (i j : Nat) (m : Env → Store → R (List Dt)) : Env → Store → RS := fun en S => (m en S).toS en fun ds S1 => match ds with
  | [d, d'] => .ok .nx ((en.set i (some d)).set j (some d')) S1
  | _ => .stuck
theorem ds_par {i j : Nat} {x y : Str} {a b : Expr} {ma : Env → Store → R (List Dt)} {px py pt : Pos} {kt k2 pt2} (hN : X.N.Nodup) (ha : DA G X W [a, b] ma) (hc : X.calm = true := by rfl) (hi : X.N[i]? = some x := by rfl) (hj : X.N[j]? = some y := by rfl) (hij : i ≠ j := by decide)
    (hx : X.env.scope.names.lookup x = some .local := by rfl) (hy : X.env.scope.names.lookup y = some .local := by rfl)
    (hw : swappedStores [.Tuple [.Name x px, .Name y py] kt pt] (.Tuple [a, b] k2 pt2) X.env = pure (some [x, y]) := by rfl)
    (hs : swapsWithSole [.Tuple [.Name x px, .Name y py] kt pt] (.Tuple [a, b] k2 pt2) pos.line X.env = pure false := by rfl) :
    DS G X W (.Assign [.Tuple [.Name x px, .Name y py] kt pt] (.Tuple [a, b] k2 pt2) pos) (mPar i j ma) := by
  obtain ⟨t, p, q⟩ := ha
  refine ⟨_, ps_par hc hN hi hj hij hx hy p hw hs, fun io H S en σ D so re h => ?_⟩
  refine q io H S en σ _ so re (h.bind.imp (wx_of re) fun ds S1 i1 H1 g1 s1 k1 vs r => ?_)
  cases r with
  | nil => exact k1.elim
  | cons r1 r2 =>
    cases r2 with
    | nil => exact k1.elim
    | cons r2 r3 =>
      cases r3 with
      | cons _ _ => exact k1.elim
      | nil => exact ⟨_, _, rfl, k1 i1 H1 Grow.refl s1 _ (((re.mono g1).set r1).set r2)⟩
/-- an expression alone -/
def mDrop (m : Env → Store → R Dt) : Env → Store → RS := fun en S => (m en S).toS en fun _ S1 => .ok .nx en S1
theorem ds_expr (he : DE G X W e me) (hs : swapsWith e none pos.line X.env = pure false := by rfl) : DS G X W (.Expr e pos) (mDrop me) := by
  obtain ⟨t, p, q⟩ := he
  refine ⟨_, ps_expr p hs, fun io H S en σ D so re h => ?_⟩
  exact q io H S en σ _ so re (h.bind.imp (wx_of re) fun d S1 i1 H1 g1 s1 k1 v r => k1 i1 H1 Grow.refl s1 _ (re.mono g1))
def mRet (m : Env → Store → R Dt) : Env → Store → RS := fun en S => (m en S).toS en fun d S1 => .ok (.rt d) en S1
theorem ds_ret (he : DE G X W e me) : DS G X W (.Return (some e) pos) (mRet me) := by
  obtain ⟨t, p, q⟩ := he
  refine ⟨_, ps_ret p, fun io H S en σ D so re h => ?_⟩
  exact q io H S en σ _ so re (h.bind.imp (wx_of re) fun d S1 i1 H1 g1 s1 k1 v r => k1 i1 H1 Grow.refl s1 _ r)
def mRetN : Env → Store → RS := fun en S => .ok (.rt .non) en S
theorem ds_retN : DS G X W (.Return none pos) mRetN := ⟨_, ps_retN, fun io H S en σ D so re h => h io H Grow.refl so _ .non⟩
def mNx : Env → Store → RS := fun en S => .ok .nx en S
def mBk : Env → Store → RS := fun en S => .ok .bk en S
def mCt : Env → Store → RS := fun en S => .ok .ct en S
theorem ds_pass : DS G X W (.Pass pos) mNx := ⟨_, ps_pass, fun io H S en σ D so re h => h io H Grow.refl so _ re⟩
theorem ds_doc {x j pos'} : DS G X W (.Expr (.Constant (.str x) j pos) pos') mNx := ⟨_, ps_doc, fun io H S en σ D so re h => h io H Grow.refl so _ re⟩
theorem ds_break : DS G X W (.Break pos) mBk := ⟨_, ps_break, fun io H S en σ D so re h => h io H Grow.refl so _ re⟩
theorem ds_continue : DS G X W (.Continue pos) mCt := ⟨_, ps_continue, fun io H S en σ D so re h => h io H Grow.refl so _ re⟩
/-- code that is never reached -/
def mNever : Env → Store → RS := fun _ _ => .stuck
theorem ds_never {st : Stmt} : DS G X W st mNever := ⟨_, ps_never, fun io H S en σ D so re h => h.elim⟩
theorem db_never {sts : List Stmt} : DB G X W sts mNever := ⟨_, pss_never, fun io H S en σ D so re h => h.elim⟩

/-- blocks -/
def mSeq (m k : Env → Store → RS) : Env → Store → RS := fun en S => match m en S with
  | .ok .nx e1 S1 => k e1 S1
  | r => r
variable {st : Stmt} {sts : List Stmt} {m k : Env → Store → RS}
theorem db_nil : DB G X W [] mNx := ⟨_, pss_nil, fun io H S en σ D so re h => h io H Grow.refl so _ re⟩
theorem db_one (h : DS G X W st m) : DB G X W [st] m := let ⟨_, p, q⟩ := h; ⟨_, pss_one p, q⟩
theorem db_cons (h : DS G X W st m) (h2 : DB G X W sts k) : DB G X W (st :: sts) (mSeq m k) := by
  obtain ⟨t, p, q⟩ := h
  obtain ⟨u, p', q'⟩ := h2
  refine ⟨_, pss_cons p p', fun io H S en σ D so re h => ?_⟩
  refine q io H S en σ _ so re ?_
  unfold mSeq at h
  cases em : m en S with
  | stuck => rw [em] at h; exact h
  | err x e1 S1 => rw [em] at h; exact h
  | ok f e1 S1 =>
    rw [em] at h
    cases f with
    | nx => exact fun i1 H1 g1 s1 σ1 re1 => q' i1 H1 S1 e1 σ1 D s1 re1 (OutS.from g1 h)
    | bk => exact h
    | ct => exact h
    | rt d => exact h
def mIfS (c : Env → Store → R Bool) (a b : Env → Store → RS) : Env → Store → RS := fun en S => (c en S).toS en fun t S1 => if t = true then a en S1 else b en S1
theorem ds_if {c : Expr} {a b : List Stmt} {mc : Env → Store → R Bool} {ma mb : Env → Store → RS} (hc : DT G X W c mc) (ha : DB G X W a ma) (hb : DB G X W b mb) : DS G X W (.If c a b pos) (mIfS mc ma mb) := by
  obtain ⟨t, p, q⟩ := hc
  obtain ⟨ta, pa, qa⟩ := ha
  obtain ⟨tb, pb, qb⟩ := hb
  refine ⟨_, ps_if p pa pb, fun io H S en σ D so re h => ?_⟩
  refine q io H S en σ _ so re (h.bind.imp (wx_of re) fun c S1 i1 H1 g1 s1 k1 => ?_)
  cases c with
  | true => exact qa i1 H1 S1 en σ D s1 (re.mono g1) k1
  | false => exact qb i1 H1 S1 en σ D s1 (re.mono g1) k1

/-! ### while -/
def wLoop (c : Env → Store → R Bool) (b : Env → Store → RS) : Nat → Env → Store → RS
  | 0, _, _ => .stuck
  | n + 1, en, S => (c en S).toS en fun t S1 => if t = true then (match b en S1 with
    | .ok .nx e2 S2 => wLoop c b n e2 S2
    | .ok .ct e2 S2 => wLoop c b n e2 S2
    | .ok .bk e2 S2 => .ok .nx e2 S2
    | r => r) else .ok .nx en S1
def mWhile (f : Env → Store → Nat) (c : Env → Store → R Bool) (b : Env → Store → RS) : Env → Store → RS := fun en S => wLoop c b (f en S) en S
theorem ds_while (f : Env → Store → Nat) {c : Expr} {body : List Stmt} {mc : Env → Store → R Bool} {mb : Env → Store → RS} (hp : PassesOwn (model X.prog X.w) X.A X.env X.xe) (hc : DT G X W c mc) (hb : DB G X W body mb) : DS G X W (.While c body [] pos) (mWhile f mc mb) := by
  obtain ⟨t, p, q⟩ := hc
  obtain ⟨tb, pb, qb⟩ := hb
  refine ⟨_, ps_while hp p pb, fun io H S en σ D so re h => ?_⟩
  refine ⟨fun n σ H => ∃ io en S, StoreOk G io S H ∧ RelEnv G io H en σ ∧ OutS G io H (wxS G W) (poF G D) (wLoop mc mb n en S), ⟨f en S, io, en, S, so, re, h⟩, ?_⟩
  rintro n σ H ⟨io, en, S, so, re, h⟩
  cases n with
  | zero => exact h.elim
  | succ n =>
    unfold wLoop at h
    refine q io H S en σ _ so re (h.bind.imp (wx_of re) fun c S1 i1 H1 g1 s1 k1 => ?_)
    cases c with
    | false => exact k1 i1 H1 Grow.refl s1 _ (re.mono g1)
    | true =>
      rw [if_pos rfl] at k1
      refine iteT (B := D.nx σ H1) ⟨fun σ' H' => ∃ m', m' < n + 1 ∧ ∃ io en S, StoreOk G io S H' ∧ RelEnv G io H' en σ' ∧ OutS G io H' (wxS G W) (poF G D) (wLoop mc mb m' en S), fun σ' H' z => z, qb i1 H1 S1 en σ _ s1 (re.mono g1) ?_⟩
      cases em : mb en S1 with
      | stuck => rw [em] at k1; exact k1
      | err x e2 S2 => rw [em] at k1; exact k1
      | ok fl e2 S2 =>
        rw [em] at k1
        cases fl with
        | nx => exact fun i2 H2 g2 s2 σ2 re2 => ⟨n, Nat.lt_succ_self _, i2, e2, S2, s2, re2, OutS.from g2 k1⟩
        | ct => exact fun i2 H2 g2 s2 σ2 re2 => ⟨n, Nat.lt_succ_self _, i2, e2, S2, s2, re2, OutS.from g2 k1⟩
        | bk => exact k1
        | rt d => exact k1

/-! ### for -/
/-- an iterator over these items -/
structure JOk (G : Gv) (io0 : Io) (H0 : Hp) (J : It) (items : List Dt) : Prop where
  go : ∀ i io H, Base io0 H0 io H → i < items.length → J.go i H
  stop : ∀ i io H, Base io0 H0 io H → items.length ≤ i → J.stop i H
  yld : ∀ i io H x H', Base io0 H0 io H → i < items.length → J.yld i H x H' → ExtH H H' ∧ ∃ d, items[i]? = some d ∧ RelD G io H' d x
def DI (G : Gv) (X : Cx) (W : WX) (tg it : Expr) (m : Env → Store → R (List Dt)) : Prop := ∃ wi, PI X tg it wi ∧ ∀ io H S en σ (Q : It → Hp → Prop), StoreOk G io S H → RelEnv G io H en σ →
  Out G io H (wxE G W σ) (fun items _ io' H' => ∀ J, JOk G io' H' J items → Q J H') (m en S) → wi σ H Q
def fLoop (tg : Dt → Env → Store → Option (Env × Store)) (b : Env → Store → RS) : List Dt → Env → Store → RS
  | [], en, S => .ok .nx en S
  | d :: ds, en, S => match tg d en S with
    | none => .stuck
    | some (e1, S1) => match b e1 S1 with
      | .ok .nx e2 S2 => fLoop tg b ds e2 S2
      | .ok .ct e2 S2 => fLoop tg b ds e2 S2
      | .ok .bk e2 S2 => .ok .nx e2 S2
      | r => r
def mFor (mi : Env → Store → R (List Dt)) (tg : Dt → Env → Store → Option (Env × Store)) (b : Env → Store → RS) : Env → Store → RS := fun en S => (mi en S).toS en fun items S1 => fLoop tg b items en S1
theorem ds_for {tg it : Expr} {body : List Stmt} {mi : Env → Store → R (List Dt)} {g : Dt → Env → Store → Option (Env × Store)} {mb : Env → Store → RS} (hp : PassesOwn (model X.prog X.w) X.A X.env X.xe) (hi : DI G X W tg it mi) (hg : DG G X tg g) (hb : DB G X W body mb)
    (hc : X.calm = true := by rfl) (hs : ∀ x, foldedSetIterable it X.env x = pure x := by intro _; rfl) : DS G X W (.For tg it body [] pos) (mFor mi g mb) := by
  obtain ⟨wi, pi, qi⟩ := hi
  obtain ⟨g', pg, qg⟩ := hg
  obtain ⟨tb, pb, qb⟩ := hb
  refine ⟨_, ps_for hp hc pi pg pb hs, fun io H S en σ D so re h => ?_⟩
  refine qi io H S en σ _ so re (h.bind.imp (wx_of re) fun items S1 i1 H1 g1 s1 k1 J jo => ?_)
  refine ⟨fun i m σ H => m = items.length - i ∧ i ≤ items.length ∧ ∃ io en S, Grow i1 H1 io H ∧ StoreOk G io S H ∧ RelEnv G io H en σ ∧ OutS G io H (wxS G W) (poF G D) (fLoop g mb (items.drop i) en S),
    ⟨_, rfl, Nat.zero_le _, i1, en, S1, Grow.refl, s1, re.mono g1, by simpa using k1⟩, ?_⟩
  rintro i m σ2 H2 ⟨rfl, hle, i2, e2, S2, g2, s2, re2, h2⟩
  by_cases hlt : i < items.length
  · refine .inr ⟨jo.go i i2 H2 g2.base hlt, fun σ' H' => ∃ m', m' < items.length - i ∧ m' = items.length - (i + 1) ∧ i + 1 ≤ items.length ∧ ∃ io en S, Grow i1 H1 io H' ∧ StoreOk G io S H' ∧ RelEnv G io H' en σ' ∧ OutS G io H' (wxS G W) (poF G D) (fLoop g mb (items.drop (i + 1)) en S),
      fun σ' H' z => z, fun x H3 hy => ?_⟩
    obtain ⟨ex, d, hd, rd⟩ := jo.yld i i2 H2 x H3 g2.base hlt hy
    have g3 : Grow i2 H2 i2 H3 := ex.grow
    have s3 := s2.ext ex
    have edr : items.drop i = d :: items.drop (i + 1) := by
      rw [List.drop_eq_getElem_cons hlt]
      have := (List.getElem?_eq_some_iff.mp hd).2
      rw [this]
    rw [edr] at h2
    unfold fLoop at h2
    refine qg i2 H3 S2 e2 σ2 d x _ s3 (re2.mono g3) rd ?_
    split
    · rename_i e4 S4 em
      rw [em] at h2
      dsimp only at h2
      intro i4 H4 g4 s4 σ4 re4
      refine qb i4 H4 S4 e4 σ4 _ s4 re4 ?_
      have h4 := OutS.from (g3.trans g4) h2
      have gg := g2.trans (g3.trans g4)
      cases eb : mb e4 S4 with
      | stuck => rw [eb] at h4; exact h4
      | err x e2 S2 => rw [eb] at h4; exact h4
      | ok fl e5 S5 =>
        rw [eb] at h4
        cases fl with
        | nx => exact fun i5 H5 g5 s5 σ5 re5 => ⟨_, by omega, rfl, hlt, i5, e5, S5, gg.trans g5, s5, re5, OutS.from g5 h4⟩
        | ct => exact fun i5 H5 g5 s5 σ5 re5 => ⟨_, by omega, rfl, hlt, i5, e5, S5, gg.trans g5, s5, re5, OutS.from g5 h4⟩
        | bk => exact h4
        | rt d => exact h4
    · rename_i em
      rw [em] at h2
      exact h2.elim
  · have e : i = items.length := by omega
    subst e
    rw [List.drop_length] at h2
    exact .inl ⟨jo.stop _ i2 H2 g2.base (Nat.le_refl _), h2 i2 H2 Grow.refl s2 _ re2⟩
end
end Dv

set_option Elab.async false
set_option linter.all false
set_option maxRecDepth 100000
set_option maxHeartbeats 4000000
set_option autoImplicit false
namespace Dv
open PySem PySem.Spec PyProof.Rows L2

/-! ### leaving a def: what it made is by value from there on -/
def noRef : Nat → Dt → Bool
  | _, .non => true
  | _, .bl _ => true
  | _, .int _ => true
  | _, .str _ => true
  | _, .ty _ => true
  | _, .cls _ => true
  | k + 1, .tup ds => ds.all (noRef k)
  | k + 1, .lst ds => ds.all (noRef k)
  | k + 1, .fz ds => ds.all (noRef k)
  | k + 1, .ins _ _ ds => ds.all (noRef k)
  | k + 1, .dct _ ds => ds.all (noRef k)
  | _, _ => false
def mapO {α β : Type} (f : α → Option β) : List α → Option (List β)
  | [] => some []
  | d :: ds => match f d with
    | some x => (mapO f ds).map (x :: ·)
    | none => none
/-- the first n objects of the store stay; the others become values -/
def frz (n : Nat) (S : Store) : Nat → Dt → Option Dt
  | 0, d => if noRef 0 d = true then some d else none
  | k + 1, d => if noRef (k + 1) d = true then some d else match d with
    | .ref i => if i < n then some (.ref i) else match S[i]? with
      | some (.lst ds) => (mapO (frz n S k) ds).map .lst
      | some (.ins c ns ds) => (mapO (frz n S k) ds).map (.ins c ns)
      | some (.dct ks ds) => (mapO (frz n S k) ds).map (.dct ks)
      | none => none
    | .tup ds => (mapO (frz n S k) ds).map .tup
    | .lst ds => (mapO (frz n S k) ds).map .lst
    | .ins c ns ds => (mapO (frz n S k) ds).map (.ins c ns)
    | .dct ks ds => (mapO (frz n S k) ds).map (.dct ks)
    | _ => none
theorem frz_pure {n : Nat} {S : Store} {k : Nat} {d : Dt} (h : noRef k d = true) : frz n S k d = some d := by
  cases k with
  | zero => exact if_pos h
  | succ k => exact if_pos h
def frzO (n : Nat) (S : Store) (k : Nat) : Ob → Option Ob
  | .lst ds => (mapO (frz n S k) ds).map .lst
  | .ins c ns ds => (mapO (frz n S k) ds).map (.ins c ns)
  | .dct ks ds => (mapO (frz n S k) ds).map (.dct ks)
section
variable {G : Gv} {io : Io} {H : Hp} {S : Store}
theorem notin_take {n : Nat} {a : Addr} (h : a ∉ io) : a ∉ io.take n := fun z => h (z.imp List.mem_of_mem_take id)
theorem mapO_len {α β : Type} {f : α → Option β} : ∀ {ds : List α} {es : List β}, mapO f ds = some es → ds.length = es.length
  | [], _, h => by cases h; rfl
  | d :: ds, es, h => by
    unfold mapO at h
    split at h
    · cases e : mapO f ds with
      | none => rw [e] at h; cases h
      | some l =>
        rw [e] at h
        cases h
        rw [List.length_cons, List.length_cons, mapO_len e]
    · cases h
theorem noRef_rel {n : Nat} : ∀ (k : Nat) {d : Dt} {v : V}, noRef k d = true → RelD G io H d v → RelD G (io.take n) H d v := by
  intro k
  induction k with
  | zero =>
    intro d v h r
    cases r with
    | non => exact .non
    | bl b => exact .bl b
    | int i => exact .int i
    | str s => exact .str s
    | ty n => exact .ty n
    | cls hc => exact .cls hc
    | _ => simp [noRef] at h
  | succ k ih =>
    have all : ∀ {ds : List Dt} {vs : List V}, ds.all (noRef k) = true → RelDs G io H ds vs → RelDs G (io.take n) H ds vs := by
      intro ds
      induction ds with
      | nil =>
        intro vs _ r
        cases r
        exact .nil
      | cons d ds ih2 =>
        intro vs h r
        rw [List.all_cons, Bool.and_eq_true] at h
        cases r with
        | cons r1 r2 => exact .cons (ih h.1 r1) (ih2 h.2 r2)
    intro d v h r
    cases r with
    | non => exact .non
    | bl b => exact .bl b
    | int i => exact .int i
    | str s => exact .str s
    | ty n => exact .ty n
    | cls hc => exact .cls hc
    | tup e rs => exact .tup (e.imp (fun z => ⟨z.1, notin_take z.2⟩) id) (all (by simpa [noRef] using h) rs)
    | lst e n rs => exact .lst e (notin_take n) (all (by simpa [noRef] using h) rs)
    | fz e rs => exact .fz (e.imp (fun z => ⟨z.1, notin_take z.2⟩) id) (all (by simpa [noRef] using h) rs)
    | ins e n c l rs => exact .ins e (notin_take n) c l (all (by simpa [noRef] using h) rs)
    | dct e n l rs => exact .dct e (notin_take n) l (all (by simpa [noRef] using h) rs)
    | ref e => simp [noRef] at h
theorem mapO_rel {n : Nat} {f : Dt → Option Dt} (hf : ∀ {d d' : Dt} {v : V}, f d = some d' → RelD G io H d v → RelD G (io.take n) H d' v) : ∀ {ds es : List Dt} {vs : List V}, mapO f ds = some es → RelDs G io H ds vs → RelDs G (io.take n) H es vs
  | [], _, _, h, r => by
    cases h
    cases r
    exact .nil
  | d :: ds, es, _, h, r => by
    unfold mapO at h
    cases r with
    | cons r1 r2 =>
      split at h
      · rename_i x ex
        cases e : mapO f ds with
        | none => rw [e] at h; cases h
        | some l =>
          rw [e] at h
          cases h
          exact .cons (hf ex r1) (mapO_rel hf e r2)
      · cases h
theorem take_at {n i : Nat} {a : Addr} (h : io.l[i]? = some a) (hi : i < n) : (io.take n).l[i]? = some a := by
  show (io.l.take n)[i]? = some a
  rw [List.getElem?_take_of_lt hi]
  exact h
theorem take_not {n i : Nat} {a : Addr} (so : StoreOk G io S H) (h : io.l[i]? = some a) (hi : ¬ i < n) : a ∉ io.take n := fun z => by
  rcases z with z | z
  · obtain ⟨j, hj, e⟩ := List.getElem_of_mem z
    rw [List.length_take] at hj
    rw [List.getElem_take] at e
    obtain ⟨l1, e1⟩ := List.getElem?_eq_some_iff.mp h
    have := (List.getElem_inj so.nd).mp (e.trans e1.symm)
    omega
  · exact so.dis a (List.mem_of_getElem? h) z
theorem map_some {α β : Type} {f : α → β} {o : Option α} {b : β} (h : o.map f = some b) : ∃ a, o = some a ∧ b = f a := by
  cases o with
  | none => cases h
  | some a => cases h; exact ⟨a, rfl, rfl⟩
theorem frz_rel {n : Nat} (so : StoreOk G io S H) : ∀ (k : Nat) {d d' : Dt} {v : V}, frz n S k d = some d' → RelD G io H d v → RelD G (io.take n) H d' v := by
  intro k
  induction k with
  | zero =>
    intro d d' v h r
    unfold frz at h
    split at h
    · rename_i hn
      cases h
      exact noRef_rel 0 hn r
    · cases h
  | succ k ih =>
    intro d d' v h r
    unfold frz at h
    split at h
    · rename_i hn
      cases h
      exact noRef_rel (k + 1) hn r
    · split at h
      · cases r with
        | @ref a i e =>
          split at h
          · rename_i hi
            cases h
            exact .ref (take_at e hi)
          · rename_i hi
            have na := take_not so e hi
            split at h
            · rename_i ds hs
              obtain ⟨es, e1, rfl⟩ := map_some h
              have q := so.ob _ _ _ hs e
              cases q with
              | lst h1 h2 => exact .lst h1 na (mapO_rel ih e1 h2)
            · rename_i c ns ds hs
              obtain ⟨es, e1, rfl⟩ := map_some h
              have q := so.ob _ _ _ hs e
              cases q with
              | ins h1 h2 h3 h4 => exact .ins h1 na h2 (by rw [h3, mapO_len e1]) (mapO_rel ih e1 h4)
            · rename_i ks ds hs
              obtain ⟨es, e1, rfl⟩ := map_some h
              have q := so.ob _ _ _ hs e
              cases q with
              | dct h1 h2 h3 => exact .dct h1 na (by rw [h2, mapO_len e1]) (mapO_rel ih e1 h3)
            · cases h
      · obtain ⟨es, e1, rfl⟩ := map_some h
        cases r with
        | tup e rs => exact .tup (e.imp (fun z => ⟨z.1, notin_take z.2⟩) id) (mapO_rel ih e1 rs)
      · obtain ⟨es, e1, rfl⟩ := map_some h
        cases r with
        | lst e n rs => exact .lst e (notin_take n) (mapO_rel ih e1 rs)
      · obtain ⟨es, e1, rfl⟩ := map_some h
        cases r with
        | ins e n c l rs => exact .ins e (notin_take n) c (by rw [l, mapO_len e1]) (mapO_rel ih e1 rs)
      · obtain ⟨es, e1, rfl⟩ := map_some h
        cases r with
        | dct e n l rs => exact .dct e (notin_take n) (by rw [l, mapO_len e1]) (mapO_rel ih e1 rs)
      · cases h
theorem mapOb_at {f : Ob → Option Ob} : ∀ {S S' : Store} {i : Nat} {o : Ob}, mapO f S = some S' → S'[i]? = some o → ∃ o0, S[i]? = some o0 ∧ f o0 = some o
  | [], _, i, o, h, e => by
    cases h
    simp at e
  | x :: xs, S', i, o, h, e => by
    unfold mapO at h
    split at h
    · rename_i y ey
      cases em : mapO f xs with
      | none => rw [em] at h; cases h
      | some l =>
        rw [em] at h
        cases h
        cases i with
        | zero =>
          cases e
          exact ⟨x, rfl, ey⟩
        | succ i =>
          obtain ⟨o0, h1, h2⟩ := mapOb_at em (i := i) (by simpa using e)
          exact ⟨o0, by simpa using h1, h2⟩
    · cases h
def deepF : Nat := 12
def exitS (n : Nat) (S : Store) : Option Store := mapO (frzO n S deepF) (S.take n)
theorem exitS_ok {n : Nat} {S2 : Store} (so : StoreOk G io S H) (h : exitS n S = some S2) (hn : n ≤ S.length) : StoreOk G (io.take n) S2 H := by
  refine ⟨so.nd.sublist (List.take_sublist _ _), ?_, fun a ha => so.dis a (List.mem_of_mem_take ha), so.hid, fun i o a h1 h2 => ?_⟩
  · rw [← mapO_len h, List.length_take, List.length_take, so.len]
  · obtain ⟨o0, e0, e1⟩ := mapOb_at h h1
    rw [List.getElem?_take] at e0 h2
    split at e0
    · rename_i hi
      rw [if_pos hi] at h2
      have q := so.ob i o0 a e0 h2
      cases o0 with
      | lst ds =>
        obtain ⟨es, m1, rfl⟩ := map_some e1
        cases q with
        | lst k1 k2 => exact .lst k1 (mapO_rel (frz_rel so deepF) m1 k2)
      | ins c ns ds =>
        obtain ⟨es, m1, rfl⟩ := map_some e1
        cases q with
        | ins k1 k2 k3 k4 => exact .ins k1 k2 (by rw [k3, mapO_len m1]) (mapO_rel (frz_rel so deepF) m1 k4)
      | dct ks ds =>
        obtain ⟨es, m1, rfl⟩ := map_some e1
        cases q with
        | dct k1 k2 k3 => exact .dct k1 (by rw [k2, mapO_len m1]) (mapO_rel (frz_rel so deepF) m1 k3)
    · cases e0
end

/-! ### defs -/
abbrev Fn := List Dt → Store → R Dt
def fin (keep : Bool) (n : Nat) (d : Dt) (S : Store) : R Dt := if keep = true ∨ S.length = n then .ok d S else match frz n S deepF d, exitS n S with
  | some d', some S' => .ok d' S'
  | _, _ => .stuck
def finX (keep : Bool) (n : Nat) (x : Ex) (S : Store) : R Dt := if keep = true ∨ S.length = n then .err x S else match mapO (frz n S deepF) x.ds, exitS n S with
  | some ds, some S' => .err ⟨x.c, x.ns, ds⟩ S'
  | _, _ => .stuck
/-- a def by its body: keep says that what it made stays an object -/
def fnRun (nl : Nat) (keep : Bool) (body : Env → Store → RS) : Fn := fun ds S => match body (ds.map some ++ List.replicate (nl - ds.length) none) S with
  | .ok (.rt d) _ S' => fin keep S.length d S'
  | .ok .nx _ S' => fin keep S.length .non S'
  | .ok _ _ _ => .stuck
  | .err x _ S' => finX keep S.length x S'
  | .stuck => .stuck
def spF (G : Gv) (np : Nat) (m : Fn) : Sp := fun vs H Q E => ∃ io S ds, StoreOk G io S H ∧ RelDs G io H ds vs ∧ ds.length = np ∧ Out G io H (fun x io' H' => ∀ cls dx, RelX G io' H' x cls dx → E cls dx H') (poE G Q) (m ds S)
theorem grow_take {io io' : Io} {H H' : Hp} (g : Grow io H io' H') : io'.take io.l.length = io ∧ Grow io H io H' := by
  obtain ⟨t, rfl⟩ := g.pre
  exact ⟨by cases io; simp [Io.take], ⟨⟨[], by simp⟩, g.keep, fun a h n => absurd h n⟩⟩
theorem fin_ok {G : Gv} {io io' : Io} {H H' : Hp} {S S' : Store} {keep : Bool} {d : Dt} {v : V} {wx : Ex → Io → Hp → Prop} {Q : VK} (so : StoreOk G io S H) (g : Grow io H io' H') (so' : StoreOk G io' S' H') (r : RelD G io' H' d v)
    (h : Out G io H wx (poE G Q) (fin keep S.length d S')) : Q v H' := by
  unfold fin at h
  split at h
  · exact h io' H' g so' v r
  · split at h
    · rename_i d' S2 e1 e2
      obtain ⟨t1, t2⟩ := grow_take g
      have hn : S.length ≤ S'.length := by
        obtain ⟨t, rfl⟩ := g.pre
        rw [so.len, so'.len, List.length_append]
        omega
      have q1 := frz_rel so' deepF e1 r
      have q2 := exitS_ok so' e2 hn
      rw [so.len, t1] at q1 q2
      exact h io H' t2 q2 v q1
    · exact h.elim
theorem finX_ok {G : Gv} {io io' : Io} {H H' : Hp} {S S' : Store} {keep : Bool} {x : Ex} {cls : Value} {dx : Option Addr} {Q : VK} {E : XK} (so : StoreOk G io S H) (g : Grow io H io' H') (so' : StoreOk G io' S' H') (r : RelX G io' H' x cls dx)
    (h : Out G io H (fun x io' H' => ∀ cls dx, RelX G io' H' x cls dx → E cls dx H') (poE G Q) (finX keep S.length x S')) : E cls dx H' := by
  unfold finX at h
  split at h
  · exact h io' H' g so' cls dx r
  · split at h
    · rename_i ds S2 e1 e2
      obtain ⟨t1, t2⟩ := grow_take g
      have hn : S.length ≤ S'.length := by
        obtain ⟨t, rfl⟩ := g.pre
        rw [so.len, so'.len, List.length_append]
        omega
      have q2 := exitS_ok so' e2 hn
      rw [so.len, t1] at q2
      refine h io H' t2 q2 cls dx ?_
      obtain ⟨C, a, vs, h1, h2, h3, h4, h5, h6, h7⟩ := r
      refine ⟨C, a, vs, h1, h2, h3, h4, ?_, by rw [h6, mapO_len e1], ?_⟩
      · rw [← t1]
        exact notin_take h5
      · have q := mapO_rel (n := S.length) (frz_rel so' deepF) e1 h7
        rw [so.len, t1] at q
        exact q
    · exact h.elim
section
variable {P : Program} {w : World} {K : PySem.W.Frag} {mg : Str → Option Value} {base : Heap} {G : Gv}
theorem rel_start {io : Io} {H : Hp} {N : List Str} {ds : List Dt} {vs : List V} (r : RelDs G io H ds vs) (hl : vs.length ≤ N.length) : RelEnv G io H (ds.map some ++ List.replicate (N.length - ds.length) none) (L2.start N vs) := by
  have l := r.length
  refine ⟨by unfold L2.start; simp [l], fun i d h => ?_⟩
  unfold L2.start
  by_cases hi : i < ds.length
  · rw [List.getElem?_append_left (by simpa using hi), List.getElem?_map] at h
    cases e : ds[i]? with
    | none => rw [e] at h; cases h
    | some x =>
      rw [e] at h
      cases h
      obtain ⟨v, h1, h2⟩ := r.get e
      refine ⟨v, ?_, h2⟩
      rw [List.getElem?_append_left (by rw [List.length_map, ← l]; exact hi), List.getElem?_map, h1]
      rfl
  · rw [List.getElem?_append_right (by simpa using hi), List.getElem?_replicate] at h
    split at h <;> cases h
/-- THE RULE for a def -/
theorem fn_ok {x qual : Str} {st : Stmt} {f : Addr} {fd : FuncData} {N ps : List Str} {k : Nat} {m : Env → Store → RS} (keep : Bool) (F : Fun K x qual st f fd) (S : FnScope N ps (defScope st))
    (hbody : ∀ (cdv : Value) (A : Around) (outer : List PySem.Env) (s : Shared) (H : Hp) (E : XK), Room k (A.deeper (envOfC qual (defScope st) s.heap.objs.size f cdv)) →
      DB G (cxOf (L2.CX P w) P w K mg base N qual (defScope st) f cdv A outer s H E) (fun cls d _ H => E cls d H) (defBody st) m) : FnOk P w K mg base (L2.CX P w) (k + 1) f fd ps (spF G ps.length (fnRun N.length keep m)) := by
  refine F.okX S (fun vs H Q E h => ?_) (fun cdv A outer s H vs Q E hr h => ?_)
  · obtain ⟨io, St, ds, so, r, hl, _⟩ := h
    rw [← r.length]
    exact hl
  · obtain ⟨io, St, ds, so, r, hl, ho⟩ := h
    obtain ⟨t, p, q⟩ := hbody cdv A outer s H E hr
    refine ⟨t, p, ?_⟩
    have hpl : ps.length ≤ N.length := by have := congrArg List.length S.pre; rw [List.length_take] at this; omega
    have lv := r.length
    refine q io H St _ _ _ so (rel_start r (by omega)) ?_
    unfold fnRun at ho
    cases em : m (ds.map some ++ List.replicate (N.length - ds.length) none) St with
    | stuck => rw [em] at ho; exact ho
    | err x e1 S1 =>
      rw [em] at ho
      exact fun io' H' g so' σ cls dx re rx => finX_ok so g so' rx ho
    | ok fl e1 S1 =>
      rw [em] at ho
      cases fl with
      | nx => exact fun io' H' g so' σ re => fin_ok so g so' .non ho
      | bk => exact ho.elim
      | ct => exact ho.elim
      | rt d => exact fun io' H' g so' v r => fin_ok so g so' r ho
/-- no def is called deeper than its level -/
theorem fn_tk {qual : Str} {st : Stmt} {f : Addr} {N : List Str} {cdv : Value} {A : Around} {outer : List PySem.Env} {s : Shared} {H : Hp} {E : XK} : Takes (cxOf (L2.CX P w) P w K mg base N qual (defScope st) f cdv A outer s H E) (fun cls d _ H => E cls d H) := takes_of rfl rfl rfl rfl
theorem fn_po {qual : Str} {st : Stmt} {f : Addr} {N : List Str} {cdv : Value} {A : Around} {outer : List PySem.Env} {s : Shared} {H : Hp} {E : XK} : PassesOwn (model P w) (cxOf (L2.CX P w) P w K mg base N qual (defScope st) f cdv A outer s H E).A (cxOf (L2.CX P w) P w K mg base N qual (defScope st) f cdv A outer s H E).env (cxOf (L2.CX P w) P w K mg base N qual (defScope st) f cdv A outer s H E).xe := passes_of (X := cxOf (L2.CX P w) P w K mg base N qual (defScope st) f cdv A outer s H E) rfl
end
/-- f(e, ..) -/
def mCall (np : Nat) (m : Fn) (ma : Env → Store → R (List Dt)) : Env → Store → R Dt := fun en S => (ma en S).bind fun ds S1 => if ds.length = np then m ds S1 else .stuck
section
variable {G : Gv} {X : Cx} {W : WX} {k np : Nat} {f : Addr} {fd : FuncData} {ps : List Str} {x : Str} {p pos : Pos} {e : Expr} {es : List Expr} {ma : Env → Store → R (List Dt)} {m : Fn}
theorem de_call (F : FnOk X.prog X.w X.K X.mg X.base (L2.CX X.prog X.w) k f fd ps (spF G np m)) (hr : Room k X.A) (hm : X.mg x = some (.ref f)) (hk : PySem.W.keepIn X.K (.ref f) = true) (hb : Binds X.K fd ps []) (tk : Takes X W)
    (ha : DA G X W (e :: es) ma) (hg : Gl X x := by rfl) (hdb : (x == ("__debug__" : Str)) = false := by decide) (he : starEach (e :: es) X.env = (false, eval e X.env) :: starEach es X.env := by rfl) (hpl : (backTo pos (starEach es X.env)).any (·.1) = false := by rfl) :
    DE G X W (.Call (.Name x p) (e :: es) [] pos) (mCall np m ma) := by
  obtain ⟨t, pa, qa⟩ := ha
  refine ⟨_, pe_callS (E := WE W) F hr hg hm hk hb (fun σ => passAt tk σ) pa hdb he hpl, fun io H S en σ Q so re h => ?_⟩
  refine qa io H S en σ _ so re (h.bind.imp (fun _ _ _ _ z => z) fun ds S1 i1 H1 g1 s1 k1 vs r => ?_)
  split at k1
  · rename_i hl
    exact ⟨i1, S1, ds, s1, r, hl, k1⟩
  · exact k1.elim
end
end Dv

set_option Elab.async false
set_option linter.all false
set_option maxRecDepth 100000
set_option maxHeartbeats 4000000
set_option autoImplicit false
namespace Dv
open PySem PySem.Spec PyProof.Rows L2

/-! ### what is walked -/
theorem rel_sqL {G : Gv} {io i1 : Io} {H H1 : Hp} (g : Base io H i1 H1) {a : Addr} {vs : List V} (h : (Rd H a (.lst vs) ∧ a ∉ io) ∨ KLst G.K a vs) : SqL G.K H1 a vs := by
  rcases h with ⟨h, n⟩ | h
  · exact .inl (g.rd h n).1
  · exact .inr h
theorem jok_list {G : Gv} {io : Io} {H : Hp} {a : Addr} {ds : List Dt} {vs : List V} (h : (Rd H a (.lst vs) ∧ a ∉ io) ∨ KLst G.K a vs) (r : RelDs G io H ds vs) : JOk G io H (Itl G.K a) ds := by
  have l := r.length
  refine ⟨fun i i1 H1 g hi => ?_, fun i i1 H1 g hi => ?_, fun i i1 H1 x H' g hi hy => ?_⟩
  · exact ⟨vs, vs[i]'(by omega), rel_sqL g h, by simp [l ▸ hi]⟩
  · exact ⟨vs, rel_sqL g h, by omega⟩
  · obtain ⟨rfl, hx⟩ := hy
    have e := hx vs (rel_sqL g h)
    obtain ⟨v, e1, e2⟩ := r.get (i := i) (d := ds[i]'hi) (by simp [hi])
    rw [e] at e1
    cases e1
    exact ⟨fun _ _ z => z, _, by simp [hi], e2.monoB g⟩
theorem jok_tup {G : Gv} {io : Io} {H : Hp} {a : Addr} {ds : List Dt} {vs : List V} (h : (H a = some (.tup vs) ∧ a ∉ io) ∨ KTup G.K a vs) (r : RelDs G io H ds vs) : JOk G io H (Itt G.K a) ds := by
  have l := r.length
  have sq : ∀ {i1 : Io} {H1 : Hp}, Base io H i1 H1 → SqT G.K H1 a vs := fun g => by
    rcases h with ⟨h, n⟩ | h
    · exact .inl (.inl (g.keep _ _ h n).1)
    · exact .inr h
  refine ⟨fun i i1 H1 g hi => ?_, fun i i1 H1 g hi => ?_, fun i i1 H1 x H' g hi hy => ?_⟩
  · exact ⟨vs, vs[i]'(by omega), sq g, by simp [l ▸ hi]⟩
  · exact ⟨vs, sq g, by omega⟩
  · obtain ⟨rfl, hx⟩ := hy
    have e := hx vs (sq g)
    obtain ⟨v, e1, e2⟩ := r.get (i := i) (d := ds[i]'hi) (by simp [hi])
    rw [e] at e1
    cases e1
    exact ⟨fun _ _ z => z, _, by simp [hi], e2.monoB g⟩
theorem pi_or {X : Cx} {tg it : Expr} {w1 w2 : TI} (h1 : PI X tg it w1) (h2 : PI X tg it w2) : PI X tg it (fun σ H R => w1 σ H R ∨ w2 σ H R) :=
  ⟨fun pins s σ H R I h => h.elim (h1.run pins s σ H R I) (h2.run pins s σ H R I)⟩
def strs1 (s : Str) : List Dt := s.cps.toList.map fun c => .str ⟨#[c]⟩
/-- the items of a value that is walked -/
def itemsD (d : Dt) : Option (List Dt) := match d with
  | .lst ds => some ds
  | .fz ds => some ds
  | .tup ds => some ds
  | _ => none
def mIt (m : Env → Store → R Dt) : Env → Store → R (List Dt) := fun en S => (m en S).bind fun d S1 => match itemsD d with
  | some ds => .ok ds S1
  | none => .stuck
section
variable {G : Gv} {X : Cx} {W : WX} {tg e : Expr} {m : Env → Store → R Dt}
theorem di_seq (he : DE G X W e m) (hK : X.K = G.K := by rfl) : DI G X W tg e (mIt m) := by
  obtain ⟨t, p, q⟩ := he
  refine ⟨_, pi_or (pi_list p) (pi_tup p), fun io H S en σ Q so re h => ?_⟩
  cases em : m en S with
  | stuck =>
    unfold mIt at h
    rw [em] at h
    exact h.elim
  | err x S1 =>
    unfold mIt at h
    rw [em] at h
    exact .inl (q io H S en σ _ so re (by rw [em]; exact h))
  | ok d S1 =>
    unfold mIt at h
    rw [em] at h
    dsimp only [R.bind] at h
    split at h
    · rename_i ds hd
      unfold itemsD at hd
      split at hd
      · cases hd
        refine .inl (q io H S en σ _ so re ?_)
        rw [em]
        intro i1 H1 g1 s1 v r
        cases r with
        | lst e n rs =>
          refine ⟨_, rfl, ⟨_, .inl (.inl e)⟩, ?_⟩
          rw [hK]
          exact h i1 H1 g1 s1 _ (jok_list (.inl ⟨.inl e, n⟩) rs)
      · cases hd
        refine .inl (q io H S en σ _ so re ?_)
        rw [em]
        intro i1 H1 g1 s1 v r
        cases r with
        | fz e rs =>
          refine ⟨_, rfl, ⟨_, by rw [hK]; exact rel_sqL Grow.refl.base e⟩, ?_⟩
          rw [hK]
          exact h i1 H1 g1 s1 _ (jok_list e rs)
      · cases hd
        refine .inr (q io H S en σ _ so re ?_)
        rw [em]
        intro i1 H1 g1 s1 v r
        cases r with
        | @tup a _ vs e rs =>
          refine ⟨_, rfl, ⟨vs, ?_⟩, ?_⟩
          · rw [hK]
            rcases e with ⟨e, _⟩ | e
            · exact .inl (.inl e)
            · exact .inr e
          · rw [hK]
            exact h i1 H1 g1 s1 _ (jok_tup e rs)
      · cases hd
    · exact h.elim
/-- the signs of a text -/
def mItS (m : Env → Store → R Dt) : Env → Store → R (List Dt) := fun en S => (m en S).bind fun d S1 => match d with
  | .str s => .ok (strs1 s) S1
  | _ => .stuck
theorem di_str (he : DE G X W e m) : DI G X W tg e (mItS m) := by
  obtain ⟨t, p, q⟩ := he
  refine ⟨_, pi_str p, fun io H S en σ Q so re h => ?_⟩
  refine q io H S en σ _ so re (h.bind.imp (fun _ _ _ _ z => z) fun d S1 i1 H1 g1 s1 k1 v r => ?_)
  cases r with
  | str s =>
    refine ⟨s, rfl, k1 i1 H1 Grow.refl s1 _ ⟨fun i io H g hi => ?_, fun i io H g hi => ?_, fun i io H x H' g hi hy => ?_⟩⟩
    · simpa [Its, strs1] using hi
    · simpa [Its, strs1] using hi
    · obtain ⟨rfl, c, hc, rfl⟩ := hy
      refine ⟨fun _ _ z => z, .str ⟨#[c]⟩, ?_, .str _⟩
      unfold strs1
      rw [List.getElem?_map, Array.getElem?_toList, hc]
      rfl
  | _ => exact k1.elim
@[irreducible] def rngOk (i : Int) : Bool := decide (-(2 ^ 62) ≤ i ∧ i < 2 ^ 62)
theorem rng_iff {i : Int} : rngOk i = true ↔ -(2 ^ 62) ≤ i ∧ i < 2 ^ 62 := by
  unfold rngOk
  exact decide_eq_true_iff
theorem rng_ok {i : Int} (h0 : -4611686018427387904 ≤ i) (h1 : i < 4611686018427387904) : rngOk i = true := rng_iff.mpr ⟨by omega, by omega⟩
def rangeD (lo : Int) (n : Nat) : List Dt := (List.range n).map fun (k : Nat) => Dt.int (lo + (k : Int))
theorem jok_range {io : Io} {H : Hp} {lo : Int} {n : Nat} : JOk G io H (Itr lo n) (rangeD lo n) := by
  refine ⟨fun i io H g hi => ?_, fun i io H g hi => ?_, fun i io H x H' g hi hy => ?_⟩
  · simpa [Itr, rangeD] using hi
  · simpa [Itr, rangeD] using hi
  · obtain ⟨rfl, rfl⟩ := hy
    have hi' : i < n := by simpa [rangeD] using hi
    exact ⟨fun _ _ z => z, .int (lo + i), by simp [rangeD, hi'], .int _⟩
def mRng1 (m : Env → Store → R (List Dt)) : Env → Store → R (List Dt) := fun en S => (m en S).bind fun ds S1 => match ds with
  | [.int j] => if rngOk j = true then .ok (rangeD 0 j.toNat) S1 else .stuck
  | _ => .stuck
def mRng2 (m : Env → Store → R (List Dt)) : Env → Store → R (List Dt) := fun en S => (m en S).bind fun ds S1 => match ds with
  | [.int i, .int j] => if rngOk i = true ∧ rngOk j = true then .ok (rangeD i (j - i).toNat) S1 else .stuck
  | _ => .stuck
variable {a b : Expr} {ma : Env → Store → R (List Dt)} {p pos : Pos}
theorem di_range1 (hm : X.mg "range" = none) (ha : DA G X W [a] ma) (hg : Gl X "range" := by rfl) (hs : starEach [a] X.env = [(false, eval a X.env)] := by rfl) : DI G X W tg (.Call (.Name "range" p) [a] [] pos) (mRng1 ma) := by
  obtain ⟨t, pa, qa⟩ := ha
  refine ⟨_, pi_range1 hg hm pa hs, fun io H S en σ Q so re h => ?_⟩
  refine qa io H S en σ _ so re (h.bind.imp (fun _ _ _ _ z => z) fun ds S1 i1 H1 g1 s1 k1 vs r => ?_)
  split at k1
  · rename_i j
    split at k1
    · rename_i hj
      obtain ⟨h1, h2⟩ := rng_iff.mp hj
      cases r with
      | cons r1 r2 =>
        cases r1
        cases r2
        exact ⟨j, rfl, h1, h2, k1 i1 H1 Grow.refl s1 _ jok_range⟩
    · exact k1.elim
  · exact k1.elim
theorem di_range2 (hm : X.mg "range" = none) (ha : DA G X W [a, b] ma) (hg : Gl X "range" := by rfl) (hs : starEach [a, b] X.env = [(false, eval a X.env), (false, eval b X.env)] := by rfl) (hs2 : starEach [b] X.env = [(false, eval b X.env)] := by rfl) :
    DI G X W tg (.Call (.Name "range" p) [a, b] [] pos) (mRng2 ma) := by
  obtain ⟨t, pa, qa⟩ := ha
  refine ⟨_, pi_range2 hg hm pa hs hs2, fun io H S en σ Q so re h => ?_⟩
  refine qa io H S en σ _ so re (h.bind.imp (fun _ _ _ _ z => z) fun ds S1 i1 H1 g1 s1 k1 vs r => ?_)
  split at k1
  · rename_i i j
    split at k1
    · rename_i hj
      obtain ⟨h1, h2⟩ := rng_iff.mp hj.1
      obtain ⟨h3, h4⟩ := rng_iff.mp hj.2
      cases r with
      | cons r1 r2 =>
        cases r1
        cases r2 with
        | cons r2 r3 =>
          cases r2
          cases r3
          exact ⟨i, j, rfl, ⟨h1, h2, h3, h4⟩, k1 i1 H1 Grow.refl s1 _ jok_range⟩
    · exact k1.elim
  · exact k1.elim
end

/-! ### comprehensions -/
def wipeE (e : Env) : List Nat → Env
  | [] => e
  | v :: vs => (wipeE e vs).set v none
theorem wipe_get (σ : L2.St) (vs : List Nat) (j : Nat) : (wipe σ vs)[j]? = if j ∈ vs then (if j < σ.length then some none else none) else σ[j]? := by
  induction vs with
  | nil => simp [wipe]
  | cons v vs ih =>
    unfold wipe
    by_cases hv : v = j
    · subst hv
      rw [if_pos (List.mem_cons_self)]
      by_cases hl : v < σ.length
      · rw [List.getElem?_set_self (by rw [wipe_length]; exact hl), if_pos hl]
      · rw [if_neg hl]
        apply List.getElem?_eq_none
        rw [List.length_set, wipe_length]
        omega
    · rw [List.getElem?_set_ne hv, ih]
      have : (j ∈ v :: vs) ↔ j ∈ vs := by
        rw [List.mem_cons]
        exact ⟨fun z => z.resolve_left (fun q => hv q.symm), .inr⟩
      simp only [this]
theorem wipeE_get (σ : Env) (vs : List Nat) (j : Nat) : (wipeE σ vs)[j]? = if j ∈ vs then (if j < σ.length then some none else none) else σ[j]? := by
  have len : ∀ vs : List Nat, (wipeE σ vs).length = σ.length := fun vs => by
    induction vs with
    | nil => rfl
    | cons v vs ih =>
      unfold wipeE
      rw [List.length_set, ih]
  induction vs with
  | nil => simp [wipeE]
  | cons v vs ih =>
    unfold wipeE
    by_cases hv : v = j
    · subst hv
      rw [if_pos (List.mem_cons_self)]
      by_cases hl : v < σ.length
      · rw [List.getElem?_set_self (by rw [len]; exact hl), if_pos hl]
      · rw [if_neg hl]
        apply List.getElem?_eq_none
        rw [List.length_set, len]
        omega
    · rw [List.getElem?_set_ne hv, ih]
      have : (j ∈ v :: vs) ↔ j ∈ vs := by
        rw [List.mem_cons]
        exact ⟨fun z => z.resolve_left (fun q => hv q.symm), .inr⟩
      simp only [this]
theorem rel_wipe {G : Gv} {io : Io} {H : Hp} {e : Env} {σ : L2.St} (r : RelEnv G io H e σ) (vs : List Nat) : RelEnv G io H (wipeE e vs) (wipe σ vs) := by
  have len : ∀ vs : List Nat, (wipeE e vs).length = e.length := fun vs => by
    induction vs with
    | nil => rfl
    | cons v vs ih =>
      unfold wipeE
      rw [List.length_set, ih]
  refine ⟨by rw [len, wipe_length]; exact r.len, fun i d h => ?_⟩
  rw [wipeE_get] at h
  rw [wipe_get]
  split at h
  · split at h <;> cases h
  · rename_i hi
    rw [if_neg hi]
    exact r.at_ i d h
/-- a target of names alone that sets these slots -/
def DGw (G : Gv) (X : Cx) (tg : Expr) (sl : List Nat) (m : Dt → Env → Option Env) : Prop := ∃ g, PG X tg g ∧ ∀ io H en σ d v (Q : L2.St → Hp → Prop), RelEnv G io H en σ → RelD G io H d v →
  (match m d en with
    | some e' => ∀ σ', RelEnv G io H e' σ' → σ'.length = σ.length → (∀ j : Nat, j ∉ sl → σ'[j]? = σ[j]?) → Q σ' H
    | none => False) → g v σ H Q
def wNm (i : Nat) : Dt → Env → Option Env := fun d e => some (e.set i (some d))
def wNil : List Dt → Env → Option Env := fun ds e => match ds with
  | [] => some e
  | _ => none
def wCons (m : Dt → Env → Option Env) (ms : List Dt → Env → Option Env) : List Dt → Env → Option Env := fun ds e => match ds with
  | d :: r => (m d e).bind (ms r)
  | [] => none
def wTp (n : Nat) (m : List Dt → Env → Option Env) : Dt → Env → Option Env := fun d e => match d with
  | .tup ds => if ds.length = n then m ds e else none
  | _ => none
section
variable {G : Gv} {X : Cx} {pos : Pos}
theorem dgw_name {i : Nat} {x : Str} (hN : X.N.Nodup) (hi : X.N[i]? = some x) (hx : Loc X.env.scope x) (hf : X.fn x = true ∨ X.env.scope.names.lookup x = some .local := by first | exact .inl rfl | exact .inr rfl | assumption) : DGw G X (.Name x pos) [i] (wNm i) :=
  ⟨_, pg_name hN hi hx hf, fun io H en σ d v Q re r h => h _ (re.set r) (by simp) fun j hj => List.getElem?_set_ne (by simpa [eq_comm] using hj)⟩
def DGws (G : Gv) (X : Cx) (tgs : List Expr) (sl : List Nat) (m : List Dt → Env → Option Env) : Prop := ∃ g, PGs X tgs g ∧ ∀ io H en σ ds vs (Q : L2.St → Hp → Prop), RelEnv G io H en σ → RelDs G io H ds vs →
  (match m ds en with
    | some e' => ∀ σ', RelEnv G io H e' σ' → σ'.length = σ.length → (∀ j : Nat, j ∉ sl → σ'[j]? = σ[j]?) → Q σ' H
    | none => False) → g vs σ H Q
theorem dgws_nil : DGws G X [] [] wNil := ⟨_, pgs_nil, fun io H en σ ds vs Q re r h => by
  cases r with
  | nil => exact ⟨rfl, h _ re rfl fun _ _ => rfl⟩
  | cons _ _ => exact h.elim⟩
theorem dgws_cons {tg : Expr} {tgs : List Expr} {s1 s2 : List Nat} {m : Dt → Env → Option Env} {ms : List Dt → Env → Option Env} (h1 : DGw G X tg s1 m) (h2 : DGws G X tgs s2 ms)
    (hs : (assignEach (tg :: tgs) X.env).map (·.2) = assign tg X.env :: (assignEach tgs X.env).map (·.2) := by rfl) : DGws G X (tg :: tgs) (s1 ++ s2) (wCons m ms) := by
  obtain ⟨g, p, q⟩ := h1
  obtain ⟨g', p', q'⟩ := h2
  refine ⟨_, pgs_cons p p' hs, fun io H en σ ds vs Q re r h => ?_⟩
  cases r with
  | nil => exact h.elim
  | cons r1 r2 =>
    rename_i d v ds vs
    refine ⟨_, _, rfl, q io H en σ _ _ _ re r1 ?_⟩
    unfold wCons at h
    cases em : m d en with
    | none =>
      dsimp only at h
      rw [em] at h
      exact h
    | some e1 =>
      dsimp only at h
      rw [em] at h
      intro σ1 re1 l1 u1
      refine q' io H e1 σ1 _ _ Q re1 r2 ?_
      simp only [Option.bind_some] at h
      cases em2 : ms ds e1 with
      | none =>
        rw [em2] at h
        exact h
      | some e2 =>
        rw [em2] at h
        exact fun σ2 re2 l2 u2 => h σ2 re2 (l2.trans l1) fun j hj => (u2 j fun z => hj (List.mem_append_right _ z)).trans (u1 j fun z => hj (List.mem_append_left _ z))
theorem dgw_tup {es : List Expr} {k n : Nat} {sl : List Nat} {m : List Dt → Env → Option Env} (h : DGws G X es sl m) (hc : X.calm = true := by rfl) (hn : (assignEach es X.env).length = n := by rfl) (hst : (assignEach es X.env).findIdx? (·.1) = none := by rfl)
    (hK : X.K = G.K := by rfl) : DGw G X (.Tuple es k pos) sl (wTp n m) := by
  obtain ⟨g, p, q⟩ := h
  refine ⟨_, pg_tup hc p hn hst, fun io H en σ d v Q re r h => ?_⟩
  unfold wTp at h
  cases d with
  | tup ds =>
    obtain ⟨a, vs, rfl, h1, h2⟩ := asT_ok r rfl
    dsimp only at h
    by_cases hl : ds.length = n
    · rw [if_pos hl] at h
      exact ⟨a, vs, rfl, by rw [hK]; exact h1, by rw [← h2.length]; exact hl, q io H en σ _ _ Q re h2 h⟩
    · rw [if_neg hl] at h
      exact h.elim
  | _ => exact h.elim
end
/-- no error leaves a comprehension -/
def R.nx {α : Type} (r : R α) : R α := match r with
  | .ok a S => .ok a S
  | _ => .stuck
abbrev W0 : WX := fun _ _ _ _ => False
def cLoop (tg : Dt → Env → Option Env) (t : Env → Store → R Bool) (m : Env → Store → R Dt) (en : Env) : List Dt → List Dt → Store → R (List Dt)
  | [], acc, S => .ok acc S
  | d :: ds, acc, S => match tg d en with
    | none => .stuck
    | some e1 => (t e1 S).nx.bind fun b S1 => if b = true then (m e1 S1).nx.bind fun x S2 => if acc.length < 1000000 then cLoop tg t m en ds (acc ++ [x]) S2 else .stuck else cLoop tg t m en ds acc S1
def mYes : Env → Store → R Bool := fun _ S => .ok true S
/-- tests of a comprehension -/
def DTs (G : Gv) (X : Cx) (W : WX) (ts : List Expr) (m : Env → Store → R Bool) : Prop := ∃ t, PTs X ts t ∧ SimT G W t m
def mLc (sl : List Nat) (mi : Env → Store → R (List Dt)) (tg : Dt → Env → Option Env) (t : Env → Store → R Bool) (m : Env → Store → R Dt) : Env → Store → R Dt := fun en S => (mi en S).bind fun items S1 => (cLoop tg t m (wipeE en sl) items [] S1).bind fun ds S2 => .ok (.lst ds) S2
/-- the list stays an object -/
def mLcR (sl : List Nat) (mi : Env → Store → R (List Dt)) (tg : Dt → Env → Option Env) (t : Env → Store → R Bool) (m : Env → Store → R Dt) : Env → Store → R Dt := fun en S => (mi en S).bind fun items S1 => (cLoop tg t m (wipeE en sl) items [] S1).bind fun ds S2 => .ok (.ref S2.length) (S2 ++ [.lst ds])
section
variable {G : Gv} {X : Cx} {W : WX}
theorem dts_nil : DTs G X W [] mYes := ⟨_, pts_nil, fun io H S e σ Q so re h => h io H Grow.refl so⟩
theorem dts_one {c : Expr} {m : Env → Store → R Bool} (h : DT G X W c m) : DTs G X W [c] m := let ⟨_, p, q⟩ := h; ⟨_, pts_one p, q⟩
theorem Out.nx {io : Io} {H : Hp} {α : Type} {wx wx' : Ex → Io → Hp → Prop} {post : α → Store → Io → Hp → Prop} {r : R α} (h : Out G io H wx post r.nx) : Out G io H wx' post r := by
  cases r with
  | ok a S => exact h
  | err x S => exact h.elim
  | stuck => exact h
/-- the base stays -/
theorem Out.bind0 {io : Io} {H : Hp} {α β : Type} {wx : Ex → Io → Hp → Prop} {post : β → Store → Io → Hp → Prop} {r : R α} {f : α → Store → R β} (h : Out G io H wx post (r.bind f)) :
    Out G io H wx (fun a S _ _ => Out G io H wx post (f a S)) r := by
  cases r with
  | ok a S => exact fun io' H' g s => h
  | err x S => exact h
  | stuck => exact h
theorem Out.nx0 {io : Io} {H : Hp} {α : Type} {wx : Ex → Io → Hp → Prop} {post : α → Store → Io → Hp → Prop} {r : R α} (h : Out G io H wx post r.nx) : Out G io H (fun _ _ _ => False) post r := h.nx
theorem wipe_eq {σ σ' : L2.St} {sl own : List Nat} (hs : ∀ j ∈ sl, j ∈ own) (l : σ'.length = (wipe σ own).length) (u : ∀ j : Nat, j ∉ sl → σ'[j]? = (wipe σ own)[j]?) : wipe σ' own = wipe σ own := by
  apply List.ext_getElem?
  intro j
  rw [wipe_get, wipe_get]
  rw [wipe_length] at l
  by_cases hj : j ∈ own
  · rw [if_pos hj, if_pos hj, l]
  · rw [if_neg hj, if_neg hj, u j fun z => hj (hs j z), wipe_get, if_neg hj]
/-- one address more is let change -/
abbrev Io.hide (io : Io) (D : Addr) : Io := ⟨io.l, D :: io.h⟩
section
variable {io i1 : Io} {H H1 : Hp} {D : Addr}
theorem hide_mem {a : Addr} : a ∈ io.hide D ↔ a = D ∨ a ∈ io := by
  constructor
  · rintro (h | h)
    · exact .inr (.inl h)
    · rcases List.mem_cons.mp h with h | h
      · exact .inl h
      · exact .inr (.inr h)
  · rintro (h | h)
    · exact .inr (List.mem_cons.mpr (.inl h))
    · rcases h with h | h
      · exact .inl h
      · exact .inr (List.mem_cons.mpr (.inr h))
mutual
theorem RelD.unhide : ∀ {d : Dt} {v : V}, RelD G (io.hide D) H d v → RelD G io H d v
  | _, _, .non => .non
  | _, _, .bl b => .bl b
  | _, _, .int i => .int i
  | _, _, .str s => .str s
  | _, _, .ty n => .ty n
  | _, _, .cls h => .cls h
  | _, _, .tup h r => .tup (h.imp (fun z => ⟨z.1, fun q => z.2 (hide_mem.mpr (.inr q))⟩) id) (RelDs.unhide r)
  | _, _, .lst h n r => .lst h (fun q => n (hide_mem.mpr (.inr q))) (RelDs.unhide r)
  | _, _, .fz h r => .fz (h.imp (fun z => ⟨z.1, fun q => z.2 (hide_mem.mpr (.inr q))⟩) id) (RelDs.unhide r)
  | _, _, .ins h n c l r => .ins h (fun q => n (hide_mem.mpr (.inr q))) c l (RelDs.unhide r)
  | _, _, .dct h n l r => .dct h (fun q => n (hide_mem.mpr (.inr q))) l (RelDs.unhide r)
  | _, _, .ref h => .ref h
theorem RelDs.unhide : ∀ {ds : List Dt} {vs : List V}, RelDs G (io.hide D) H ds vs → RelDs G io H ds vs
  | _, _, .nil => .nil
  | _, _, .cons h r => .cons (RelD.unhide h) (RelDs.unhide r)
end
theorem base_hid {o : HO} : Base (io.hide D) H (io.hide D) (upd H D o) := by
  refine ⟨fun _ _ h => h, fun b u h n => ⟨?_, n⟩⟩
  rw [upd_ne fun z => n (hide_mem.mpr (.inl z))]
  exact h
mutual
theorem RelD.hide (hD : H D = none) : ∀ {d : Dt} {v : V}, RelD G io H d v → RelD G (io.hide D) H d v
  | _, _, .non => .non
  | _, _, .bl b => .bl b
  | _, _, .int i => .int i
  | _, _, .str s => .str s
  | _, _, .ty n => .ty n
  | _, _, .cls h => .cls h
  | _, _, .tup h r => .tup (h.imp (fun z => ⟨z.1, fun q => (hide_mem.mp q).elim (fun e => ne_of_none z.1 hD e) z.2⟩) id) (RelDs.hide hD r)
  | _, _, .lst h n r => .lst h (fun q => (hide_mem.mp q).elim (fun e => ne_of_none h hD e) n) (RelDs.hide hD r)
  | _, _, .fz h r => .fz (h.imp (fun z => ⟨z.1, fun q => (hide_mem.mp q).elim (fun e => z.1.elim (fun k => ne_of_none k hD e) fun ⟨_, k⟩ => ne_of_none k hD e) z.2⟩) id) (RelDs.hide hD r)
  | _, _, .ins h n c l r => .ins h (fun q => (hide_mem.mp q).elim (fun e => ne_of_none h hD e) n) c l (RelDs.hide hD r)
  | _, _, .dct h n l r => .dct h (fun q => (hide_mem.mp q).elim (fun e => ne_of_none h hD e) n) l (RelDs.hide hD r)
  | _, _, .ref h => .ref h
theorem RelDs.hide (hD : H D = none) : ∀ {ds : List Dt} {vs : List V}, RelDs G io H ds vs → RelDs G (io.hide D) H ds vs
  | _, _, .nil => .nil
  | _, _, .cons h r => .cons (RelD.hide hD h) (RelDs.hide hD r)
end
theorem RelO.hide (hD : H D = none) {o : Ob} {a : Addr} (r : RelO G io H o a) : RelO G (io.hide D) H o a := by
  cases r with
  | lst h k => exact .lst h (k.hide hD)
  | ins h c l k => exact .ins h c l (k.hide hD)
  | dct h l k => exact .dct h l (k.hide hD)
theorem RelO.unhide {o : Ob} {a : Addr} (r : RelO G (io.hide D) H o a) : RelO G io H o a := by
  cases r with
  | lst h k => exact .lst h k.unhide
  | ins h c l k => exact .ins h c l k.unhide
  | dct h l k => exact .dct h l k.unhide
/-- a new list that is being made -/
theorem so_hide {S : Store} (so : StoreOk G io S H) (hD : H D = none) {o : HO} : StoreOk G (io.hide D) S (upd H D o) := by
  have e := ExtH.new (o := o) hD
  refine ⟨so.nd, so.len, fun a ha hh => ?_, fun a ha => ?_, fun i ob a h1 h2 => ((so.ob i ob a h1 h2).hide hD).ext e⟩
  · rcases List.mem_cons.mp hh with z | z
    · rw [z] at ha
      exact so.fresh hD (.inl ha)
    · exact so.dis a ha z
  · rcases List.mem_cons.mp ha with z | z
    · rw [z]
      exact ⟨o, upd_same⟩
    · obtain ⟨u, q⟩ := so.hid a z
      exact ⟨u, e _ _ q⟩
theorem so_unhide {S : Store} (so : StoreOk G (io.hide D) S H) : StoreOk G io S H :=
  ⟨so.nd, so.len, fun a ha hh => so.dis a ha (List.mem_cons_of_mem _ hh), fun a ha => so.hid a (List.mem_cons_of_mem _ ha), fun i ob a h1 h2 => (so.ob i ob a h1 h2).unhide⟩
/-- the hidden list grows -/
theorem so_hid {S : Store} (so : StoreOk G (io.hide D) S H) {o : HO} : StoreOk G (io.hide D) S (upd H D o) := by
  refine ⟨so.nd, so.len, so.dis, fun a ha => ?_, fun i ob a h1 h2 => ?_⟩
  · by_cases z : a = D
    · rw [z]
      exact ⟨o, upd_same⟩
    · rw [upd_ne z]
      exact so.hid a ha
  · have na : a ≠ D := fun z => so.dis a (List.mem_of_getElem? h2) (by rw [z]; exact List.mem_cons_self)
    have q := so.ob i ob a h1 h2
    cases q with
    | lst k1 k2 => exact .lst (by rw [upd_ne na]; exact k1) (k2.monoB base_hid)
    | ins k1 c l k2 => exact .ins (by rw [upd_ne na]; exact k1) c l (k2.monoB base_hid)
    | dct k1 l k2 => exact .dct (by rw [upd_ne na]; exact k1) l (k2.monoB base_hid)
theorem grow_un (g : Grow (io.hide D) H (i1.hide D) H1) : Grow io H i1 H1 := by
  obtain ⟨t, e⟩ := g.pre
  have e1 : i1.l = io.l ++ t := congrArg Io.l e
  have e2 : i1.h = io.h := (List.cons.inj (congrArg Io.h e)).2
  exact ⟨⟨t, by cases i1; simp only at e1 e2; subst e1 e2; rfl⟩, g.keep, g.new⟩
end
/-- a state with a hidden list D is one of io.hide D: how the two ends fit -/
theorem io_hide {io i1 : Io} {H H1 : Hp} {D : Addr} (g : Grow (io.hide D) H i1 H1) : ∃ i2 : Io, i1 = i2.hide D := by
  obtain ⟨t, e⟩ := g.pre
  exact ⟨⟨io.l ++ t, io.h⟩, e⟩
/-- the reading of a comprehension, from the iterator on -/
theorem lc_sim {J : It} {g : TG} {tt : TT} {te : TE} {own sl : List Nat} {io : Io} {H : Hp} {S : Store} {en : Env} {σ : L2.St} {items : List Dt} {mg : Dt → Env → Option Env} {mt : Env → Store → R Bool} {m : Env → Store → R Dt} {wx : Ex → Io → Hp → Prop} {post : List Dt → Store → Io → Hp → Prop} {D : Addr}
    (hs : ∀ j ∈ sl, j ∈ own) (jo : JOk G io H J items) (so : StoreOk G io S H) (re : RelEnv G io H en σ)
    (hg : ∀ io H en σ d v (Q : L2.St → Hp → Prop), RelEnv G io H en σ → RelD G io H d v → (match mg d en with
      | some e' => ∀ σ', RelEnv G io H e' σ' → σ'.length = σ.length → (∀ j : Nat, j ∉ sl → σ'[j]? = σ[j]?) → Q σ' H
      | none => False) → g v σ H Q) (ht : SimT G W0 tt mt) (hm : SimE G W0 te m) (hD : H D = none)
    (h : Out G io H wx post (cLoop mg mt m (wipeE en own) items [] S)) (Rf : V → Hp → Prop)
    (hq : ∀ ds acc S' (io' : Io) H', Grow io H io' H' → StoreOk G (io'.hide D) S' H' → H' D = some (.lst acc) → RelDs G (io'.hide D) H' ds acc → post ds S' io' H' → Rf (.ref D) H') :
    ∃ W : Nat → Nat → Hp → Prop, (∃ m, W 0 m (upd H D (.lst []))) ∧ ∀ i m H, W i m H →
      (J.stop i H ∧ Rf (.ref D) H) ∨ (J.go i H ∧ ∃ Nx : Hp → Prop, (∀ H', Nx H' → ∃ m', m' < m ∧ W (i + 1) m' H') ∧ ∀ x H', J.yld i H x H' → g x (wipe σ own) H' fun σ2 H2 => wipe σ2 own = wipe σ own ∧ tt σ2 H2 fun b H3 =>
        if b = true then te σ2 H3 fun y H4 => ∃ acc, H4 D = some (.lst acc) ∧ acc.length < sizeLine ∧ Nx (upd H4 D (.lst (acc ++ [y]))) else Nx H3) := by
  let Wp : Nat → Nat → Hp → Prop := fun i n H' => n = items.length - i ∧ i ≤ items.length ∧ ∃ (io' : Io) (S' : Store) (dacc : List Dt) (acc : List V), Grow io H io' H' ∧ StoreOk G (io'.hide D) S' H' ∧ H' D = some (.lst acc) ∧ RelDs G (io'.hide D) H' dacc acc ∧ Out G io H wx post (cLoop mg mt m (wipeE en own) (items.drop i) dacc S')
  have gup : ∀ {i1 : Io} {H1 : Hp} {o : HO}, Grow io H i1 H1 → Grow io H i1 (upd H1 D o) := fun {i1 H1 o} g => ⟨g.pre, fun b u hb nb => by
    rw [upd_ne (ne_of_none hb hD)]
    exact g.keep b u hb nb, g.new⟩
  have base : ∀ {i1 : Io} {H1 : Hp}, Grow io H i1 H1 → Base io H (i1.hide D) H1 := fun {i1 H1} g => ⟨fun j a e => g.at e, fun b o hb nb => ⟨g.kp hb nb, fun z => (hide_mem.mp z).elim (ne_of_none hb hD) (g.notin hb nb)⟩⟩
  refine ⟨Wp, ⟨items.length, rfl, Nat.zero_le _, io, S, [], [], gup Grow.refl, so_hide so hD, upd_same, .nil, by simpa using h⟩, ?_⟩
  rintro i n H2 ⟨rfl, hle, i2, S2, dacc, acc, gu, s2, hD2, ra, h2⟩
  by_cases hlt : i < items.length
  · refine .inr ⟨jo.go i _ H2 (base gu) hlt, fun H' => Wp (i + 1) (items.length - (i + 1)) H', fun H' z => ⟨_, by omega, z⟩, fun x H3 hy => ?_⟩
    obtain ⟨ex, d, hd, rd⟩ := jo.yld i _ H2 x H3 (base gu) hlt hy
    have g3 : Grow (i2.hide D) H2 (i2.hide D) H3 := ex.grow
    have s3 := s2.ext ex
    have edr : items.drop i = d :: items.drop (i + 1) := by
      rw [List.drop_eq_getElem_cons hlt]
      have := (List.getElem?_eq_some_iff.mp hd).2
      rw [this]
    rw [edr] at h2
    unfold cLoop at h2
    have gu3 : Grow io H i2 H3 := gu.trans (grow_un g3)
    have re3 : RelEnv G (i2.hide D) H3 en σ := ⟨re.len, fun j d e => let ⟨v, h1, h2⟩ := re.at_ j d e; ⟨v, h1, h2.monoB (base gu3)⟩⟩
    refine hg _ H3 (wipeE en own) (wipe σ own) d x _ (rel_wipe re3 own) rd ?_
    cases em : mg d (wipeE en own) with
    | none =>
      rw [em] at h2
      exact h2
    | some e1 =>
      rw [em] at h2
      intro σ2 rσ l2 u2
      refine ⟨wipe_eq hs l2 u2, ?_⟩
      -- an end wished at the base, asked with D hidden
      have lift : ∀ {α : Type} {wx : Ex → Io → Hp → Prop} {post : α → Store → Io → Hp → Prop} {r : R α} {i4 : Io} {H4 : Hp}, Grow io H i4 H4 → Out G io H wx post r.nx → Out G (i4.hide D) H4 (fun _ _ _ => False) (fun a S i5' H5 => ∀ i5 : Io, i5' = i5.hide D → Grow i4 H4 i5 H5 → post a S i5 H5) r := by
        intro α wx post r i4 H4 g4 h
        cases r with
        | ok a S =>
          intro i5' H5 g5 s5 i5 e g5'
          subst e
          exact h i5 H5 (g4.trans g5') (so_unhide s5)
        | err x S => exact h.elim
        | stuck => exact h
      refine ht _ H3 S2 e1 σ2 _ s3 rσ ((lift gu3 h2.bind0).imp (fun _ _ _ _ z => z.elim) fun b S4 i4' H4 g4 s4 k4 => ?_)
      obtain ⟨i4, rfl⟩ := io_hide g4
      have g4' := grow_un g4
      have k4 := k4 i4 rfl g4'
      have hD4 : H4 D = some (.lst acc) := g4.keep _ _ (ex _ _ hD2) fun z => s2.dis D z List.mem_cons_self
      cases b with
      | false => exact ⟨rfl, hlt, i4, S4, dacc, acc, gu3.trans g4', s4, hD4, (ra.mono g3).mono g4, k4⟩
      | true =>
        rw [if_pos rfl] at k4
        refine iteT (B := Wp (i + 1) (items.length - (i + 1)) H4) ?_
        refine hm _ H4 S4 e1 σ2 _ s4 (rσ.mono g4) ((lift (gu3.trans g4') k4.bind0).imp (fun _ _ _ _ z => z.elim) fun y S5 i5' H5 g5 s5 k5 v rv => ?_)
        obtain ⟨i5, rfl⟩ := io_hide g5
        have g5' := grow_un g5
        have k5 := k5 i5 rfl g5'
        have hD5 : H5 D = some (.lst acc) := g5.keep _ _ hD4 fun z => s4.dis D z List.mem_cons_self
        have ra5 := ((ra.mono g3).mono g4).mono g5
        split at k5
        · rename_i hl
          have la := ra.length
          exact ⟨acc, hD5, Nat.lt_of_lt_of_le (by rw [← la]; exact hl) (by decide), rfl, hlt, i5, S5, dacc ++ [y], acc ++ [v], gup ((gu3.trans g4').trans g5'), so_hid s5, upd_same, (ra5.append (.cons rv .nil)).monoB base_hid, k5⟩
        · exact k5.elim
  · have e : i = items.length := by omega
    subst e
    rw [List.drop_length] at h2
    exact .inl ⟨jo.stop _ _ H2 (base gu) (Nat.le_refl _), hq dacc acc S2 i2 H2 gu s2 hD2 ra (h2 i2 H2 gu (so_unhide s2))⟩
variable {elt tg iter : Expr} {ifs : List Expr} {scope : Scope} {own : List (Str × Nat)} {sl : List Nat} {pos : Pos} {mi : Env → Store → R (List Dt)} {mg : Dt → Env → Option Env} {mt : Env → Store → R Bool} {m : Env → Store → R Dt}
/-! the readings that a function's result gives -/
def cE (G : Gv) (W : WX) (m : Env → Store → R Dt) : TE := fun σ H Q => ∃ io S en, StoreOk G io S H ∧ RelEnv G io H en σ ∧ Out G io H (wxE G W σ) (poE G Q) (m en S)
def cT (G : Gv) (W : WX) (m : Env → Store → R Bool) : TT := fun σ H Q => ∃ io S en, StoreOk G io S H ∧ RelEnv G io H en σ ∧ Out G io H (wxE G W σ) (poT Q) (m en S)
def cGw (G : Gv) (sl : List Nat) (m : Dt → Env → Option Env) : TG := fun v σ H Q => ∃ io en d, RelEnv G io H en σ ∧ RelD G io H d v ∧ (match m d en with
    | some e' => ∀ σ', RelEnv G io H e' σ' → σ'.length = σ.length → (∀ j : Nat, j ∉ sl → σ'[j]? = σ[j]?) → Q σ' H
    | none => False)
theorem can_e {e : Expr} (h : DE G X W e m) : PE X e (cE G W m) := by
  obtain ⟨t, p, q⟩ := h
  exact ⟨fun pins s σ H Q I ⟨io, S, en, so, re, h⟩ => p.run pins s σ H Q I (q io H S en σ Q so re h)⟩
theorem can_t {ts : List Expr} (h : DTs G X W ts mt) : PTs X ts (cT G W mt) := by
  obtain ⟨t, p, q⟩ := h
  exact ⟨fun pins s σ H Q I ⟨io, S, en, so, re, h⟩ => p.run pins s σ H Q I (q io H S en σ Q so re h)⟩
theorem can_g (h : DGw G X tg sl mg) : PG X tg (cGw G sl mg) := by
  obtain ⟨t, p, q⟩ := h
  exact ⟨fun pins s σ H v u Q I r ⟨io, en, d, re, rd, h⟩ => p.run pins s σ H v u Q I r (q io H en σ d v Q re rd h)⟩
/-- [e for x in xs if t], by value -/
theorem de_lc (own : List (Str × Nat)) (hN : X.N.Nodup) (hi : DI G X W tg iter mi) (ok : BlkOk X.N X.env.scope scope own)
    (hg : ∀ (s : Shared) (H : Hp) (C : Addr) (cl : List (Str × Addr)) (fp : List Addr), DGw G (X.blk s H scope (compEnvC scope cl C X.env) fp) tg sl mg)
    (ht : ∀ (s : Shared) (H : Hp) (C : Addr) (cl : List (Str × Addr)) (fp : List Addr), DTs G (X.blk s H scope (compEnvC scope cl C X.env) fp) W0 ifs mt)
    (he : ∀ (s : Shared) (H : Hp) (C : Addr) (cl : List (Str × Addr)) (fp : List Addr), DE G (X.blk s H scope (compEnvC scope cl C X.env) fp) W0 elt m)
    (hsl : ∀ j ∈ sl, j ∈ own.map (·.2) := by decide) (hc : X.calm = true := by rfl) (hs : ∀ x, foldedSetIterable iter X.env x = pure x := by intro _; rfl) :
    DE G X W (.ListComp elt [⟨tg, iter, ifs, 0⟩] scope pos) (mLc (own.map (·.2)) mi mg mt m) := by
  obtain ⟨wi, pi, qi⟩ := hi
  refine ⟨_, pe_lc hc hN pi ok (fun s H C cl fp => can_g (hg s H C cl fp)) (fun s H C cl fp => can_t (ht s H C cl fp)) (fun s H C cl fp => can_e (he s H C cl fp)) hs, fun io H S en σ Q so re h => ?_⟩
  refine qi io H S en σ _ so re (h.bind.imp (fun _ _ _ _ z => z) fun items S1 i1 H1 g1 s1 k1 J jo => ?_)
  intro D hD
  refine lc_sim hsl jo s1 (re.mono g1) (fun io H en σ d v Q re rd h => ⟨io, en, d, re, rd, h⟩) (fun io H S e σ Q so re h => ⟨io, S, e, so, re, h⟩) (fun io H S e σ Q so re h => ⟨io, S, e, so, re, h⟩) hD k1.bind (fun v H => Q v H) ?_
  intro ds acc S' io' H' g' s' hD' rs post
  refine post io' H' Grow.refl (so_unhide s') (.ref D) (.lst hD' (fun z => ?_) rs.unhide)
  rcases z with z | z
  · exact s'.dis D z List.mem_cons_self
  · obtain ⟨t, rfl⟩ := g'.pre
    obtain ⟨u, e⟩ := s1.hid D z
    rw [hD] at e
    cases e
/-- y = [..] on one line, y a local -/
theorem ds_setLc (own : List (Str × Nat)) {i : Nat} {y : Str} {py spos : Pos} (hN : X.N.Nodup) (hi : DI G X W tg iter mi) (ok : BlkOk X.N X.env.scope scope own)
    (hg : ∀ (s : Shared) (H : Hp) (C : Addr) (cl : List (Str × Addr)) (fp : List Addr), DGw G (X.blk s H scope (compEnvC scope cl C X.env) fp) tg sl mg)
    (ht : ∀ (s : Shared) (H : Hp) (C : Addr) (cl : List (Str × Addr)) (fp : List Addr), DTs G (X.blk s H scope (compEnvC scope cl C X.env) fp) W0 ifs mt)
    (he : ∀ (s : Shared) (H : Hp) (C : Addr) (cl : List (Str × Addr)) (fp : List Addr), DE G (X.blk s H scope (compEnvC scope cl C X.env) fp) W0 elt m)
    (hsl : ∀ j ∈ sl, j ∈ own.map (·.2) := by decide) (hy : X.N[i]? = some y := by rfl) (hyl : X.env.scope.names.lookup y = some .local := by rfl)
    (hsw : swapsWith (.ListComp elt [⟨tg, iter, ifs, 0⟩] scope pos) (some (.Name y py)) spos.line X.env = pure true := by exact sw_true rfl rfl rfl (by decide +kernel)) (hc : X.calm = true := by rfl) (hs : ∀ x, foldedSetIterable iter X.env x = pure x := by intro _; rfl) :
    DS G X W (.Assign [.Name y py] (.ListComp elt [⟨tg, iter, ifs, 0⟩] scope pos) spos) (mSet i (mLc (own.map (·.2)) mi mg mt m)) := by
  obtain ⟨wi, pi, qi⟩ := hi
  refine ⟨_, ps_setLc hc hN hy hyl hsw pi ok (fun s H C cl fp => can_g (hg s H C cl fp)) (fun s H C cl fp => can_t (ht s H C cl fp)) (fun s H C cl fp => can_e (he s H C cl fp)) hs, fun io H S en σ Q so re h => ?_⟩
  refine qi io H S en σ _ so re ((h.bind.bind).imp (wx_of re) fun items S1 i1 H1 g1 s1 k1 J jo => ?_)
  intro D hD
  refine lc_sim hsl jo s1 (re.mono g1) (fun io H en σ d v Q re rd h => ⟨io, en, d, re, rd, h⟩) (fun io H S e σ Q so re h => ⟨io, S, e, so, re, h⟩) (fun io H S e σ Q so re h => ⟨io, S, e, so, re, h⟩) hD k1.bind (fun v H1 => gName i v σ H1 Q.nx) ?_
  intro ds acc S' io' H' g' s' hD' rs post
  refine post io' H' Grow.refl (so_unhide s') io' H' Grow.refl (so_unhide s') _ ((re.mono (g1.trans g')).set (.lst hD' (fun z => ?_) rs.unhide))
  rcases z with z | z
  · exact s'.dis D z List.mem_cons_self
  · obtain ⟨t, rfl⟩ := g'.pre
    obtain ⟨u, e⟩ := s1.hid D z
    rw [hD] at e
    cases e
end
end Dv

set_option Elab.async false
set_option linter.all false
set_option maxRecDepth 100000
set_option maxHeartbeats 4000000
set_option autoImplicit false
namespace Dv
open PySem PySem.Spec PyProof.Rows L2

/-! ### o[i] = v of a list of the store -/
def setIx (S : Store) (x y v : Dt) : Option Store := match x, y with
  | .ref k, .int j => match S[k]? with
    | some (.lst ds) => (ixN ds.length j).map fun n => S.set k (.lst (ds.set n v))
    | _ => none
  | _, _ => none
def gSubD (mo mi : Env → Store → R Dt) : Dt → Env → Store → Option (Env × Store) := fun d en S => match mo en S with
  | .ok x S1 => match mi en S1 with
    | .ok y S2 => (setIx S2 x y d).map fun S3 => (en, S3)
    | _ => none
  | _ => none
section
variable {G : Gv} {X : Cx} {W : WX}
theorem setIx_ok {io : Io} {H : Hp} {S S' : Store} {x y d : Dt} {vx vy v : V} (so : StoreOk G io S H) (rx : RelD G io H x vx) (ry : RelD G io H y vy) (rd : RelD G io H d v) (h : setIx S x y d = some S') :
    ∃ p xs k j, vx = .ref p ∧ vy = .int k ∧ H p = some (.lst xs) ∧ ixN xs.length k = some j ∧ Grow io H io (upd H p (.lst (xs.set j v))) ∧ StoreOk G io S' (upd H p (.lst (xs.set j v))) := by
  unfold setIx at h
  split at h
  · rename_i k j
    split at h
    · rename_i ds hs
      obtain ⟨n, hn, rfl⟩ := map_some h
      cases rx with
      | ref e =>
        cases ry
        obtain ⟨a, h1, h2⟩ := so.at_ hs
        rw [e] at h1
        cases h1
        cases h2 with
        | lst h3 h4 =>
          have l := h4.length
          have g0 := (so.write (u := .lst (List.set _ n v)) e (.lst upd_same ((RelDs.set n rd h4).monoB ⟨fun _ _ z => z, fun b o hb nb => ⟨by
            rw [upd_ne fun z => nb (by rw [z]; exact .inl (List.mem_of_getElem? e))]
            exact hb, nb⟩⟩)))
          exact ⟨_, _, j, n, rfl, rfl, h3, by rw [← l]; exact hn, g0.1, g0.2⟩
    · cases h
  · cases h
theorem dg_sub {o i : Expr} {mo mi : Env → Store → R Dt} {pos : Pos} (ho : DE G X W0 o mo) (hi : DE G X W0 i mi)
    (ha : ∀ v, assign (.Subscript o i pos) X.env v = (do
      let ov ← holding [v] (eval o X.env)
      let iv ← holding [v, ov] (eval i X.env)
      standAt pos
      holding [v, ov, iv] (setItem ov iv v)
      release [v, ov, iv] []) := by intro _; rfl) : DG G X (.Subscript o i pos) (gSubD mo mi) := by
  obtain ⟨t, p, q⟩ := ho
  obtain ⟨t', p', q'⟩ := hi
  refine ⟨_, pg_sub p p' set_list ha, fun io H S en σ d v Q so re r h => ?_⟩
  unfold gSubD at h
  refine q io H S en σ _ so re ?_
  cases eo : mo en S with
  | stuck => simp [eo] at h
  | err x S1 => simp [eo] at h
  | ok x S1 =>
    simp only [eo] at h
    intro i1 H1 g1 s1 vx rx
    refine q' i1 H1 S1 en σ _ s1 (re.mono g1) ?_
    cases ei : mi en S1 with
    | stuck => simp [ei] at h
    | err x S1 => simp [ei] at h
    | ok y S2 =>
      simp only [ei] at h
      intro i2 H2 g2 s2 vy ry
      cases es : setIx S2 x y d with
      | none => simp [es] at h
      | some S3 =>
        simp only [es, Option.map_some] at h
        obtain ⟨p, xs, k, j, h1, h2, h3, h4, g3, s3⟩ := setIx_ok s2 (rx.mono g2) ry (r.mono (g1.trans g2)) es
        exact ⟨p, xs, k, j, h1, h2, h3, h4, h i2 _ ((g1.trans g2).trans g3) s3 σ (re.mono ((g1.trans g2).trans g3))⟩

/-! ### methods of a list of the store -/
def mApp (S : Store) (x d : Dt) : R Dt := match x with
  | .ref k => match S[k]? with
    | some (.lst ds) => if ds.length < 1000000 then .ok .non (S.set k (.lst (ds ++ [d]))) else .stuck
    | _ => .stuck
  | _ => .stuck
def isLstR (S : Store) (x : Dt) : Bool := match x with
  | .ref k => match S[k]? with
    | some (.lst _) => true
    | _ => false
  | _ => false
def mApp1 (mo me : Env → Store → R Dt) : Env → Store → R Dt := fun en S => (mo en S).bind fun x S1 => if isLstR S1 x = true then (me en S1).bind fun d S2 => mApp S2 x d else .stuck
variable {o e : Expr} {mo me : Env → Store → R Dt} {apos cpos : Pos}
theorem isLstR_ok {io : Io} {H : Hp} {S : Store} {x : Dt} {v : V} (so : StoreOk G io S H) (r : RelD G io H x v) (h : isLstR S x = true) : ∃ k ds p xs, x = .ref k ∧ S[k]? = some (.lst ds) ∧ io.l[k]? = some p ∧ v = .ref p ∧ H p = some (.lst xs) ∧ RelDs G io H ds xs := by
  unfold isLstR at h
  split at h
  · rename_i k
    split at h
    · rename_i ds hs
      cases r with
      | ref e =>
        obtain ⟨a, h1, h2⟩ := so.at_ hs
        rw [e] at h1
        cases h1
        cases h2 with
        | lst h3 h4 => exact ⟨k, ds, _, _, rfl, hs, e, rfl, h3, h4⟩
    · cases h
  · cases h
theorem so_wr {io : Io} {H : Hp} {S : Store} {k : Nat} {p : Addr} {ds : List Dt} {xs : List V} (so : StoreOk G io S H) (hp : io.l[k]? = some p) (r : RelDs G io H ds xs) :
    Grow io H io (upd H p (.lst xs)) ∧ StoreOk G io (S.set k (.lst ds)) (upd H p (.lst xs)) :=
  so.write (u := .lst xs) hp (.lst upd_same (r.monoB ⟨fun _ _ z => z, fun b o hb nb => ⟨by
    rw [upd_ne fun z => nb (by rw [z]; exact .inl (List.mem_of_getElem? hp))]
    exact hb, nb⟩⟩))
/-- xs.append(e); the receiver is looked at ahead of the argument -/
theorem de_append (ho : DE G X W o mo) (he : DE G X W e me) (hK : X.K = G.K := by rfl)
    (hbase : attributeBase o "append" X.env (eval o X.env) = eval o X.env := by rfl)
    (hfew : ((backTo cpos (starEach [e] X.env)).all (fun x => !x.1) && (backToKw cpos (keywordEach [] X.env)).all (fun x => x.1.isSome)
      && decide ([e].length + ([] : List Keyword).length + (if ([] : List Keyword).isEmpty then 0 else 1) < 30)) = true := by rfl)
    (hline : (apos.endLine == cpos.line) = true := by rfl) (hs : starEach [e] X.env = (false, eval e X.env) :: starEach [] X.env := by rfl) :
    DE G X W (.Call (.Attribute o "append" apos) [e] [] cpos) (mApp1 mo me) := by
  obtain ⟨t, p, q⟩ := ho
  obtain ⟨t', p', q'⟩ := he
  refine ⟨_, pe_bm PySem.F.plainAttrs_list PySem.F.slot_list_append PySem.F.type_list_append mt_append p (pa_cons p' pa_nil hs) hbase hfew hline hs rfl, fun io H S en σ Q so re h => ?_⟩
  refine q io H S en σ _ so re (h.bind.imp (fun _ _ _ _ z => z) fun x S1 i1 H1 g1 s1 k1 v r => ?_)
  split at k1
  · rename_i hl
    obtain ⟨k, ds, a, xs, rfl, hS, ha, rfl, hH, rs⟩ := isLstR_ok s1 r hl
    refine ⟨.inl ⟨rfl, xs, .inl (.inl hH)⟩, ?_⟩
    refine q' i1 H1 S1 en σ _ s1 (re.mono g1) (k1.bind.imp (fun _ _ _ _ z => z) fun d S2 i2 H2 g2 s2 k2 vd rd => ?_)
    unfold mApp at k2
    dsimp only at k2
    split at k2
    · rename_i ds2 hS2
      split at k2
      · rename_i hlen
        have e2 := g2.at ha
        obtain ⟨a', h1, h2⟩ := s2.at_ hS2
        rw [e2] at h1
        cases h1
        cases h2 with
        | lst h3 h4 =>
          have l := h4.length
          obtain ⟨g3, s3⟩ := so_wr (ds := ds2 ++ [d]) s2 e2 (h4.append (.cons rd .nil))
          exact ⟨a, _, vd, rfl, rfl, h3, Nat.lt_of_lt_of_le (by rw [← l]; exact hlen) (by decide), k2 i2 _ g3 s3 _ .non⟩
      · exact k2.elim
    · exact k2.elim
  · exact k1.elim
/-- xs.pop() -/
def mPop (mo : Env → Store → R Dt) : Env → Store → R Dt := fun en S => (mo en S).bind fun x S1 => match x with
  | .ref k => match S1[k]? with
    | some (.lst ds) => match ds.getLast? with
      | some d => .ok d (S1.set k (.lst ds.dropLast))
      | none => .stuck
    | _ => .stuck
  | _ => .stuck
theorem rel_dropLast {io : Io} {H : Hp} {ds : List Dt} {vs : List V} (r : RelDs G io H ds vs) : RelDs G io H ds.dropLast vs.dropLast := by
  rw [List.dropLast_eq_take, List.dropLast_eq_take, ← r.length]
  exact r.take _
theorem de_pop (ho : DE G X W o mo) (hK : X.K = G.K := by rfl)
    (hbase : attributeBase o "pop" X.env (eval o X.env) = eval o X.env := by rfl) (hline : (apos.endLine == cpos.line) = true := by rfl) :
    DE G X W (.Call (.Attribute o "pop" apos) [] [] cpos) (mPop mo) := by
  obtain ⟨t, p, q⟩ := ho
  refine ⟨_, pe_bm0 PySem.F.plainAttrs_list PySem.F.slot_list_pop PySem.F.type_list_pop mt_pop p hbase hline, fun io H S en σ Q so re h => ?_⟩
  refine q io H S en σ _ so re (h.bind.imp (fun _ _ _ _ z => z) fun x S1 i1 H1 g1 s1 k1 v r => ?_)
  split at k1
  · rename_i k
    split at k1
    · rename_i ds hS
      split at k1
      · rename_i d hd
        obtain ⟨k', ds', a, xs, e0, hS', ha, rfl, hH, rs⟩ := isLstR_ok s1 r (by unfold isLstR; simp only [hS])
        cases e0
        rw [hS] at hS'
        cases hS'
        obtain ⟨g3, s3⟩ := so_wr s1 ha (rel_dropLast rs)
        have l := rs.length
        rw [List.getLast?_eq_getElem?] at hd
        obtain ⟨y, h1, h2⟩ := rs.get hd
        exact ⟨.inl ⟨rfl, xs, .inl (.inl hH)⟩, a, xs, y, rfl, rfl, hH, by rw [← l]; exact h1, k1 i1 _ g3 s3 _ (h2.mono g3)⟩
      · exact k1.elim
    · exact k1.elim
  · exact k1.elim
/-- x += e, x -= e: ints, texts -/
def mAug (i : Nat) (m : Dt → Dt → Store → R Dt) (me : Env → Store → R Dt) : Env → Store → RS := fun en S => match en[i]? with
  | some (some x) => (me en S).toS en fun y S1 => (m x y S1).toS en fun z S2 => .ok .nx (en.set i (some z)) S2
  | _ => .stuck
def mIAdd (x y : Dt) (S : Store) : R Dt := match x, y with
  | .int i, .int j => .ok (.int (i + j)) S
  | .str a, .str b => if a.length + b.length ≤ 100000 then .ok (.str (a ++ b)) S else .stuck
  | _, _ => .stuck
theorem do_iadd : DO G X (inplaceOp .Add) mIAdd := by
  refine ⟨_, (iop_add (X := X)).or iop_add_str, ?_, ?_⟩
  · intro io H S x y dx dy Q so rx ry h
    unfold mIAdd at h
    split at h
    · cases rx
      cases ry
      exact .inl ⟨_, _, rfl, rfl, h io H Grow.refl so _ (.int _)⟩
    · rename_i a b
      cases rx
      cases ry
      by_cases hl : a.length + b.length ≤ 100000
      · rw [if_pos hl] at h
        exact .inr ⟨_, _, rfl, rfl, small6 (by omega), h io H Grow.refl so _ (.str _)⟩
      · rw [if_neg hl] at h
        exact h.elim
    · exact h.elim
  · intro x y S
    unfold mIAdd
    repeat' split
    all_goals trivial
theorem do_isub : DO G X (inplaceOp .Sub) mSub := by
  refine ⟨_, iop_sub, ?_, ?_⟩
  · intro io H S x y dx dy Q so rx ry h
    unfold mSub at h
    split at h
    · cases rx
      cases ry
      exact ⟨_, _, rfl, rfl, h io H Grow.refl so _ (.int _)⟩
    · exact h.elim
  · intro x y S
    unfold mSub
    split <;> trivial
theorem ds_aug {i : Nat} {x : Str} {op : Operator} {m : Dt → Dt → Store → R Dt} {pos pos' : Pos} (hN : X.N.Nodup) (hop : DO G X (inplaceOp op) m) (he : DE G X W e me) (hi : X.N[i]? = some x := by rfl) (hx : Loc X.env.scope x := by first | exact Or.inl rfl | exact Or.inr rfl) (hf : X.fn x = true ∨ X.env.scope.names.lookup x = some .local := by first | exact .inl rfl | exact .inr rfl | assumption) :
    DS G X W (.AugAssign (.Name x pos') op e pos) (mAug i m me) := by
  obtain ⟨r, po, qo, no⟩ := hop
  obtain ⟨t, p, q⟩ := he
  refine ⟨_, ps_aug hN hi hx p (ti := fun x y H Q => r x y H Q) (fun pins s σ H x y v u Q I rx ry h => po pins s σ H x y v u Q I rx ry h) hf, fun io H S en σ D so re h => ?_⟩
  unfold mAug at h
  split at h
  · rename_i d hd
    obtain ⟨v, h1, h2⟩ := re.at_ i d hd
    refine ⟨v, h1, q io H S en σ _ so re (h.bind.imp (wx_of re) fun y S1 i1 H1 g1 s1 k1 vy ry => ?_)⟩
    refine qo i1 H1 S1 v vy d y _ s1 (h2.mono g1) ry ((k1.bind.noErr (no _ _ _)).imp (fun _ _ _ _ z => z) fun z S2 i2 H2 g2 s2 k2 vz rz => ?_)
    exact k2 i2 H2 Grow.refl s2 _ ((re.mono (g1.trans g2)).set rz)
  · exact h.elim
end
end Dv

set_option Elab.async false
set_option linter.all false
set_option maxRecDepth 100000
set_option maxHeartbeats 4000000
set_option autoImplicit false
namespace Dv
open PySem PySem.Spec PyProof.Rows L2

section
variable {G : Gv} {X : Cx} {W : WX}
theorem de_gintE {x : Str} {i : Int} {pos : Pos} (hg : Gl X x) (hm : ∃ t, X.mg x = some (.int i t)) (hd : (x == ("__debug__" : Str)) = false := by decide) : DE G X W (.Name x pos) (mC (.int i)) := by
  obtain ⟨t, hm⟩ := hm
  exact de_gint hg hm hd
theorem de_gstrE {x : Str} {i : Str} {pos : Pos} (hg : Gl X x) (hm : ∃ t, X.mg x = some (.str i t)) (hd : (x == ("__debug__" : Str)) = false := by decide) : DE G X W (.Name x pos) (mC (.str i)) := by
  obtain ⟨t, hm⟩ := hm
  exact de_gstr hg hm hd
end
section
variable {P : Program} {w : World} {K : PySem.W.Frag} {mg : Str → Option Value} {base : Heap} {G : Gv}
theorem fn_stuck {k np : Nat} {f : Addr} {fd : FuncData} {ps : List Str} : FnOk P w K mg base (L2.CX P w) k f fd ps (spF G np fun _ _ => .stuck) :=
  ⟨fun vs H Q E ⟨_, _, _, _, _, _, h⟩ => h.elim, fun A outer s H args us vs Q E hr e0 hb rv ⟨_, _, _, _, _, _, h⟩ => h.elim⟩
def spLaw (K : PySem.W.Frag) : Sp := fun vs H Q _ => ∃ (a : Addr) (ns : List Int), vs = [.ref a] ∧ SqL K H a (ns.map V.int) ∧ ns.length ≤ 63 ∧ ∀ H', Q (.bl true) H'
theorem rel_ints {io : Io} {H : Hp} : ∀ ns : List Int, RelDs G io H (ns.map Dt.int) (ns.map V.int)
  | [] => .nil
  | n :: ns => .cons (.int n) (rel_ints ns)
/-- the law's promise from what its function gives -/
theorem law_sp {k : Nat} {f : Addr} {fd : FuncData} {ps : List Str} {m : Fn} (hG : G.K = K) (F : FnOk P w K mg base (L2.CX P w) k f fd ps (spF G 1 m)) (h : ∀ ns : List Int, ns.length ≤ 63 → ∃ S, m [.fz (ns.map Dt.int)] [] = .ok (.bl true) S) :
    FnOk P w K mg base (L2.CX P w) k f fd ps (spLaw K) := F.imp fun vs H Q E ⟨a, ns, e, hS, hl, q⟩ => by
  subst e
  obtain ⟨S, hm⟩ := h ns hl
  refine ⟨⟨[], []⟩, [], [.fz (ns.map Dt.int)], ⟨List.nodup_nil, rfl, (fun _ h => by cases h), (fun _ h => by cases h), (fun i o a h => by simp at h)⟩, .cons (.fz ?_ (rel_ints ns)) .nil, rfl, ?_⟩
  · rw [hG]
    rcases hS with h | h
    · exact .inl ⟨h, fun z => by rcases z with z | z <;> cases z⟩
    · exact .inr h
  · rw [hm]
    intro io' H' g s v r
    cases r
    exact q H'
/-- the goal that the head leaves -/
theorem walk_law {l : PySem.W.OpenLaw} {k : Nat} {q : Program} {loose : List Str} {XP : (Str → Option Value) → Heap → Prop} {YP : World → Heap → Prop} {d : DefRec} {K : Params → PySem.W.Frag} {x : Str}
    (hn : l.most = some 63) (hdf : d.params.defaults = []) (hr : Room k callerA) (hY : ∀ (w : World) (h : Heap), YP w h → (K w.params).In h)
    (F : ∀ (w : World) (mg : Str → Option Value) (fa : Addr) (h : Heap), (K w.params).In h → h.Ns mainGlobals mg → mg d.name = some (.ref fa) →
      ∃ fd : FuncData, (∀ (s : Shared) (u : Value), BindsTo s fd ⟨[u], []⟩ [(x, u)]) ∧ ∀ base : Heap, (K w.params).In base → base.Ns mainGlobals mg → FnOk l.prog w (K w.params) mg base (L2.CX l.prog w) k fa fd [x] (spLaw (K w.params))) :
    PySem.W.WalkO q loose XP YP l.row.toRowW d [] (fun f vs => PySem.call f vs) :=
  L2.walk_of (n := 63) (k := k) (x := x) (CX := fun w => L2.CX l.prog w) (sp := fun w => spLaw (K w.params)) hn (by decide) hdf hr hY F (fun _ _ a ns hl _ hS => ⟨a, ns, rfl, hS, hl, fun _ => rfl⟩) fun w H s e s' z => by
    obtain ⟨_, _, _, _, _, _, _, _, _, _, _, _, z⟩ := z
    exact z.elim
end

/-- a body -/
abbrev Bd := Env → Store → RS
/-- turns enough for a loop that makes a number less -/
def fuelAt (k : Nat) : Env → Store → Nat := fun e _ => match e[k]? with
  | some (some (.int i)) => i.natAbs + 1
  | some (some (.tup (.int i :: _))) => i.natAbs + 1
  | _ => 0
end Dv

set_option Elab.async false
set_option linter.all false
set_option maxRecDepth 100000
set_option maxHeartbeats 4000000
set_option autoImplicit false
/-! what a function comes to, step by step: Q of a value and a store, X of an error -/
namespace Dv
open PySem L2
def Pe {α : Type} (r : R α) (Q : α → Store → Prop) (X : Ex → Store → Prop) : Prop := match r with
  | .ok a S => Q a S
  | .err x S => X x S
  | .stuck => False
def Ps (r : RS) (Q : Fl → Env → Store → Prop) (X : Ex → Env → Store → Prop) : Prop := match r with
  | .ok f e S => Q f e S
  | .err x e S => X x e S
  | .stuck => False
abbrev X0 : Ex → Store → Prop := fun _ _ => False
theorem Pe.eq {α : Type} {r : R α} {a : α} {S : Store} (h : Pe r (fun b T => b = a ∧ T = S) X0) : r = .ok a S := by
  cases r with
  | ok b T => obtain ⟨rfl, rfl⟩ := h; rfl
  | err x T => exact h.elim
  | stuck => exact h.elim
theorem Pe.of {α : Type} {r : R α} {a : α} {S : Store} {Q : α → Store → Prop} {X : Ex → Store → Prop} (e : r = .ok a S) (h : Q a S) : Pe r Q X := by
  rw [e]
  exact h
theorem Pe.imp {α : Type} {r : R α} {Q Q' : α → Store → Prop} {X X' : Ex → Store → Prop} (h : Pe r Q X) (hq : ∀ a S, Q a S → Q' a S) (hx : ∀ x S, X x S → X' x S) : Pe r Q' X' := by
  cases r with
  | ok b T => exact hq _ _ h
  | err x T => exact hx _ _ h
  | stuck => exact h.elim
theorem Pe.ex {α : Type} {r : R α} {Q : α → Store → Prop} (h : Pe r Q X0) : ∃ a S, r = .ok a S ∧ Q a S := by
  cases r with
  | ok b T => exact ⟨b, T, rfl, h⟩
  | err x T => exact h.elim
  | stuck => exact h.elim
theorem Pe.bind {α β : Type} {r : R α} {f : α → Store → R β} {Q : β → Store → Prop} {X : Ex → Store → Prop} (h : Pe r (fun a S => Pe (f a S) Q X) X) : Pe (r.bind f) Q X := by cases r <;> exact h
theorem Pe.toS {α : Type} {r : R α} {e : Env} {f : α → Store → RS} {Q : Fl → Env → Store → Prop} {X : Ex → Env → Store → Prop} (h : Pe r (fun a S => Ps (f a S) Q X) (fun x S => X x e S)) : Ps (r.toS e f) Q X := by cases r <;> exact h
theorem v_ok {α : Type} {a : α} {S : Store} {Q : α → Store → Prop} {X : Ex → Store → Prop} (h : Q a S) : Pe (.ok a S) Q X := h
theorem v_ifok {α : Type} {c : Prop} [Decidable c] {a : α} {S : Store} {Q : α → Store → Prop} {X : Ex → Store → Prop} (hc : c) (h : Q a S) : Pe (if c then R.ok a S else .stuck) Q X := by
  rw [if_pos hc]
  exact h
theorem v_sok {f : Fl} {e : Env} {S : Store} {Q : Fl → Env → Store → Prop} {X : Ex → Env → Store → Prop} (h : Q f e S) : Ps (.ok f e S) Q X := h
section
variable {en : Env} {S : Store} {Q : Dt → Store → Prop} {QA : List Dt → Store → Prop} {QB : Bool → Store → Prop} {X : Ex → Store → Prop} {QS : Fl → Env → Store → Prop} {XS : Ex → Env → Store → Prop} {ma mb mc me : Env → Store → R Dt} {ta tb : Env → Store → R Bool} {ms : Env → Store → R (List Dt)} {ba bb : Env → Store → RS}
theorem v_var {i : Nat} {d : Dt} (h : en[i]? = some (some d)) (q : Q d S) : Pe (mVar i en S) Q X := by
  unfold mVar
  rw [h]
  exact q
theorem v_c {d : Dt} (q : Q d S) : Pe (mC d en S) Q X := q
theorem v_nil (q : QA [] S) : Pe (mNil en S) QA X := q
theorem v_cons (h : Pe (ma en S) (fun d S1 => Pe (ms en S1) (fun ds S2 => QA (d :: ds) S2) X) X) : Pe (mCons ma ms en S) QA X := by
  refine Pe.bind (h.imp (fun d S1 k => ?_) fun _ _ z => z)
  exact Pe.bind k
theorem v_op {m : Dt → Dt → Store → R Dt} (h : Pe (ma en S) (fun x S1 => Pe (mb en S1) (fun y S2 => Pe (m x y S2) Q X) X) X) : Pe (mOp m ma mb en S) Q X :=
  Pe.bind (h.imp (fun _ _ k => Pe.bind k) fun _ _ z => z)
theorem v_B (h : Pe (ma en S) (fun d S1 => ∃ b, d = .bl b ∧ QB b S1) X) : Pe (mB ma en S) QB X := by
  refine Pe.bind (h.imp (fun d S1 ⟨b, e, k⟩ => ?_) fun _ _ z => z)
  subst e
  exact k
theorem v_Bbl {b : Bool} {d : Dt} (e : d = .bl b) (h : QB b S) : ∃ b, d = .bl b ∧ QB b S := ⟨b, e, h⟩
theorem v_truth (h : Pe (ma en S) (fun d S1 => ∃ b, tru S1 d = some b ∧ QB b S1) X) : Pe (mTruth ma en S) QB X := by
  refine Pe.bind (h.imp (fun d S1 ⟨b, e, k⟩ => ?_) fun _ _ z => z)
  rw [e]
  exact k
theorem v_andT (h : Pe (ta en S) (fun b S1 => if b = true then Pe (tb en S1) QB X else QB false S1) X) : Pe (mAndT ta tb en S) QB X := by
  refine Pe.bind (h.imp (fun b S1 k => ?_) fun _ _ z => z)
  cases b with
  | true => exact k
  | false => exact k
theorem v_orT (h : Pe (ta en S) (fun b S1 => if b = true then QB true S1 else Pe (tb en S1) QB X) X) : Pe (mOrT ta tb en S) QB X := by
  refine Pe.bind (h.imp (fun b S1 k => ?_) fun _ _ z => z)
  cases b with
  | true => exact k
  | false => exact k
theorem v_notT (h : Pe (ta en S) (fun b S1 => QB (!b) S1) X) : Pe (mNotT ta en S) QB X := Pe.bind h
theorem v_andV (h : Pe (ma en S) (fun d S1 => ∃ b, tru S1 d = some b ∧ if b = true then Pe (mb en S1) Q X else Q d S1) X) : Pe (mAndV ma mb en S) Q X := by
  refine Pe.bind (h.imp (fun d S1 ⟨b, e, k⟩ => ?_) fun _ _ z => z)
  cases b with
  | true => rw [e]; exact k
  | false => rw [e]; exact k
theorem v_orV (h : Pe (ma en S) (fun d S1 => ∃ b, tru S1 d = some b ∧ if b = true then Q d S1 else Pe (mb en S1) Q X) X) : Pe (mOrV ma mb en S) Q X := by
  refine Pe.bind (h.imp (fun d S1 ⟨b, e, k⟩ => ?_) fun _ _ z => z)
  cases b with
  | true => rw [e]; exact k
  | false => rw [e]; exact k
theorem v_notV (h : Pe (ma en S) (fun d S1 => ∃ b, tru S1 d = some b ∧ Q (.bl (!b)) S1) X) : Pe (mNotV ma en S) Q X := by
  refine Pe.bind (h.imp (fun d S1 ⟨b, e, k⟩ => ?_) fun _ _ z => z)
  rw [e]
  exact k
theorem v_if (h : Pe (ta en S) (fun b S1 => if b = true then Pe (ma en S1) Q X else Pe (mb en S1) Q X) X) : Pe (mIf ta ma mb en S) Q X := by
  refine Pe.bind (h.imp (fun b S1 k => ?_) fun _ _ z => z)
  cases b with
  | true => exact k
  | false => exact k
theorem v_neg (h : Pe (ma en S) (fun d S1 => ∃ i, d = .int i ∧ Q (.int (-i)) S1) X) : Pe (mNeg ma en S) Q X := by
  refine Pe.bind (h.imp (fun d S1 ⟨b, e, k⟩ => ?_) fun _ _ z => z)
  subst e
  exact k
theorem v_chain {m m' : Dt → Dt → Store → R Dt} (h : Pe (ma en S) (fun x S1 => Pe (mb en S1) (fun y S2 => Pe (m x y S2) (fun z S3 => ∃ b, z = .bl b ∧ if b = true then Pe (mc en S3) (fun w S4 => Pe (m' y w S4) Q X) X else Q (.bl false) S3) X) X) X) : Pe (mChain m m' ma mb mc en S) Q X := by
  refine Pe.bind (h.imp (fun d S1 k => Pe.bind (k.imp (fun d' S2 k => Pe.bind (k.imp (fun d2 S3 ⟨b, e, k⟩ => ?_) fun _ _ z => z)) fun _ _ z => z)) fun _ _ z => z)
  subst e
  cases b with
  | true => exact Pe.bind k
  | false => exact k
theorem v_tup (h : Pe (ms en S) (fun ds S1 => ds.length ≤ 1000 ∧ Q (.tup ds) S1) X) : Pe (mTup ms en S) Q X := by
  refine Pe.bind (h.imp (fun d S1 ⟨e, k⟩ => ?_) fun _ _ z => z)
  rw [if_pos e]
  exact k
theorem v_lst (h : Pe (ms en S) (fun ds S1 => ds.length ≤ 1000 ∧ Q (.lst ds) S1) X) : Pe (mLst ms en S) Q X := by
  refine Pe.bind (h.imp (fun d S1 ⟨e, k⟩ => ?_) fun _ _ z => z)
  rw [if_pos e]
  exact k
theorem v_lstR (h : Pe (ms en S) (fun ds S1 => ds.length ≤ 1000 ∧ Q (.ref S1.length) (S1 ++ [.lst ds])) X) : Pe (mLstR ms en S) Q X := by
  refine Pe.bind (h.imp (fun d S1 ⟨e, k⟩ => ?_) fun _ _ z => z)
  rw [if_pos e]
  exact k
theorem v_ix {x d : Dt} {i : Int} (e : ixD S x i = some d) (q : Q d S) : Pe (mIx x (.int i) S) Q X := by
  unfold mIx
  dsimp only
  rw [e]
  exact q
theorem v_noPart {QO : Option Int → Store → Prop} (q : QO none S) : Pe (mNoPart en S) QO X := q
theorem v_part {QO : Option Int → Store → Prop} (h : Pe (ma en S) (fun d S1 => ∃ i, d = .int i ∧ QO (some i) S1) X) : Pe (mPart ma en S) QO X := by
  refine Pe.bind (h.imp (fun d S1 ⟨b, e, k⟩ => ?_) fun _ _ z => z)
  subst e
  exact k
theorem v_sl {ml mh : Env → Store → R (Option Int)} (h : Pe (ma en S) (fun x S1 => Pe (ml en S1) (fun l S2 => Pe (mh en S2) (fun u S3 => ∃ d, slD S3 x l u = some d ∧ Q d S3) X) X) X) : Pe (mSl ma ml mh en S) Q X := by
  refine Pe.bind (h.imp (fun d S1 k => Pe.bind (k.imp (fun d' S2 k => Pe.bind (k.imp (fun d2 S3 ⟨b, e, k⟩ => ?_) fun _ _ z => z)) fun _ _ z => z)) fun _ _ z => z)
  rw [e]
  exact k
theorem v_CB {m : List Dt → Store → R Dt} (h : Pe (ms en S) (fun ds S1 => Pe (m ds S1) Q X) X) : Pe (mCB m ms en S) Q X := Pe.bind h
theorem v_call {np : Nat} {m : Fn} (h : Pe (ms en S) (fun ds S1 => ds.length = np ∧ Pe (m ds S1) Q X) X) : Pe (mCall np m ms en S) Q X := by
  refine Pe.bind (h.imp (fun d S1 ⟨e, k⟩ => ?_) fun _ _ z => z)
  rw [if_pos e]
  exact k
theorem v_abs {i : Int} (q : Q (.int (if i < 0 then -i else i)) S) : Pe (mAbs [.int i] S) Q X := q
theorem v_len {d : Dt} {n : Nat} (e : lenD S d = some n) (q : Q (.int n) S) : Pe (mLen [d] S) Q X := by
  unfold mLen
  dsimp only
  rw [e]
  exact q
theorem v_list {d : Dt} {ds : List Dt} (e : asS S d = some ds) (q : Q (.lst ds) S) : Pe (mList [d] S) Q X := by
  unfold mList
  dsimp only
  rw [e]
  exact q
theorem v_listR {d : Dt} {ds : List Dt} (e : asS S d = some ds) (q : Q (.ref S.length) (S ++ [.lst ds])) : Pe (mListR [d] S) Q X := by
  unfold mListR
  dsimp only
  rw [e]
  exact q
theorem v_tuple {d : Dt} {ds : List Dt} (e : asS S d = some ds) (q : Q (.tup ds) S) : Pe (mTuple [d] S) Q X := by
  unfold mTuple
  dsimp only
  rw [e]
  exact q
/-! statements -/
theorem v_seq (h : Ps (ba en S) (fun f e1 S1 => match f with | .nx => Ps (bb e1 S1) QS XS | f => QS f e1 S1) XS) : Ps (mSeq ba bb en S) QS XS := by
  unfold mSeq
  cases e : ba en S with
  | ok f e1 S1 =>
    rw [e] at h
    cases f <;> exact h
  | err x e1 S1 => rw [e] at h; exact h
  | stuck => rw [e] at h; exact h
theorem v_set {i : Nat} (h : Pe (me en S) (fun d S1 => QS .nx (en.set i (some d)) S1) (fun x S1 => XS x en S1)) : Ps (mSet i me en S) QS XS := Pe.toS h
theorem v_asg {g : Dt → Env → Store → Option (Env × Store)} (h : Pe (me en S) (fun d S1 => ∃ e' S', g d en S1 = some (e', S') ∧ QS .nx e' S') (fun x S1 => XS x en S1)) : Ps (mAsg g me en S) QS XS := by
  refine Pe.toS (h.imp (fun d S1 ⟨e', S', e, k⟩ => ?_) fun _ _ z => z)
  rw [e]
  exact k
theorem v_par {i j : Nat} (h : Pe (ms en S) (fun ds S1 => ∃ d d', ds = [d, d'] ∧ QS .nx ((en.set i (some d)).set j (some d')) S1) (fun x S1 => XS x en S1)) : Ps (mPar i j ms en S) QS XS := by
  refine Pe.toS (h.imp (fun d S1 ⟨e', S', e, k⟩ => ?_) fun _ _ z => z)
  subst e
  exact k
theorem v_drop (h : Pe (me en S) (fun _ S1 => QS .nx en S1) (fun x S1 => XS x en S1)) : Ps (mDrop me en S) QS XS := Pe.toS h
theorem v_ret (h : Pe (me en S) (fun d S1 => QS (.rt d) en S1) (fun x S1 => XS x en S1)) : Ps (mRet me en S) QS XS := Pe.toS h
theorem v_ifS (h : Pe (ta en S) (fun t S1 => if t = true then Ps (ba en S1) QS XS else Ps (bb en S1) QS XS) (fun x S1 => XS x en S1)) : Ps (mIfS ta ba bb en S) QS XS := by
  refine Pe.toS (h.imp (fun t S1 k => ?_) fun _ _ z => z)
  cases t with
  | true => exact k
  | false => exact k
theorem v_nx (q : QS .nx en S) : Ps (mNx en S) QS XS := q
theorem v_bk (q : QS .bk en S) : Ps (mBk en S) QS XS := q
theorem v_ct (q : QS .ct en S) : Ps (mCt en S) QS XS := q
theorem v_retN (q : QS (.rt .non) en S) : Ps (mRetN en S) QS XS := q
theorem v_for {mi : Env → Store → R (List Dt)} {g : Dt → Env → Store → Option (Env × Store)} (h : Pe (mi en S) (fun items S1 => Ps (fLoop g ba items en S1) QS XS) (fun x S1 => XS x en S1)) : Ps (mFor mi g ba en S) QS XS := Pe.toS h
/-- a for by its invariant over what is left -/
theorem v_loop {g : Dt → Env → Store → Option (Env × Store)} {items : List Dt} (I : List Dt → Env → Store → Prop) (h0 : I items en S)
    (hs : ∀ d ds en S, I (d :: ds) en S → ∃ e1 S1, g d en S = some (e1, S1) ∧ Ps (ba e1 S1) (fun f e2 S2 => match f with | .nx => I ds e2 S2 | .ct => I ds e2 S2 | .bk => QS .nx e2 S2 | .rt d => QS (.rt d) e2 S2) XS)
    (hd : ∀ en S, I [] en S → QS .nx en S) : Ps (fLoop g ba items en S) QS XS := by
  induction items generalizing en S with
  | nil => exact hd en S h0
  | cons d ds ih =>
    obtain ⟨e1, S1, e, k⟩ := hs d ds en S h0
    unfold fLoop
    rw [e]
    dsimp only
    cases eb : ba e1 S1 with
    | stuck => rw [eb] at k; exact k
    | err x e2 S2 => rw [eb] at k; exact k
    | ok f e2 S2 =>
      rw [eb] at k
      cases f with
      | nx => exact ih k
      | ct => exact ih k
      | bk => exact k
      | rt d => exact k
/-- a while by its invariant; n bounds the turns left -/
theorem v_while {f : Env → Store → Nat} (I : Nat → Env → Store → Prop) (h0 : I (f en S) en S)
    (hs : ∀ n en S, I n en S → ∃ k, n = k + 1 ∧ Pe (ta en S) (fun t S1 => if t = true then Ps (ba en S1) (fun f e2 S2 => match f with | .nx => I k e2 S2 | .ct => I k e2 S2 | .bk => QS .nx e2 S2 | .rt d => QS (.rt d) e2 S2) XS else QS .nx en S1) (fun x S1 => XS x en S1)) : Ps (mWhile f ta ba en S) QS XS := by
  unfold mWhile
  generalize f en S = n at h0
  induction n generalizing en S with
  | zero =>
    obtain ⟨k, e, _⟩ := hs 0 en S h0
    omega
  | succ n ih =>
    obtain ⟨k, e, p⟩ := hs _ en S h0
    have e : n = k := by omega
    subst e
    unfold wLoop
    refine Pe.toS (p.imp (fun t S1 q => ?_) fun _ _ z => z)
    cases t with
    | false => exact q
    | true =>
      rw [if_pos rfl] at q ⊢
      cases eb : ba en S1 with
      | stuck => rw [eb] at q; exact q
      | err x e2 S2 => rw [eb] at q; exact q
      | ok f e2 S2 =>
        rw [eb] at q
        cases f with
        | nx => exact ih q
        | ct => exact ih q
        | bk => exact q
        | rt d => exact q
/-- a def -/
theorem v_fn {nl : Nat} {keep : Bool} {ds : List Dt} (h : Ps (ba (ds.map some ++ List.replicate (nl - ds.length) none) S) (fun f _ S' => match f with
    | .rt d => Pe (fin keep S.length d S') Q X
    | .nx => Pe (fin keep S.length .non S') Q X
    | _ => False) (fun x _ S' => Pe (finX keep S.length x S') Q X)) : Pe (fnRun nl keep ba ds S) Q X := by
  unfold fnRun
  cases e : ba (ds.map some ++ List.replicate (nl - ds.length) none) S with
  | stuck => rw [e] at h; exact h
  | err x e1 S1 => rw [e] at h; exact h
  | ok f e1 S1 =>
    rw [e] at h
    cases f with
    | nx => exact h
    | rt d => exact h
    | bk => exact h
    | ct => exact h
theorem v_fin {keep : Bool} {n : Nat} {d : Dt} (hc : keep = true ∨ S.length = n) (q : Q d S) : Pe (fin keep n d S) Q X := by
  unfold fin
  rw [if_pos hc]
  exact q
/-! comprehensions -/
theorem v_lc {sl : List Nat} {mi : Env → Store → R (List Dt)} {g : Dt → Env → Option Env} (h : Pe (mi en S) (fun items S1 => Pe (cLoop g ta me (wipeE en sl) items [] S1) (fun ds S2 => Q (.lst ds) S2) X) X) : Pe (mLc sl mi g ta me en S) Q X :=
  Pe.bind (h.imp (fun _ _ k => Pe.bind (k.imp (fun _ _ q => q) fun _ _ z => z)) fun _ _ z => z)
theorem Pe.nx {α : Type} {r : R α} {Q : α → Store → Prop} (h : Pe r Q X0) : Pe r.nx Q X := by
  cases r with
  | ok a S => exact h
  | err x S => exact h.elim
  | stuck => exact h.elim
/-- a comprehension that keeps the store: each item gives its value, or is left out -/
theorem v_cloop {g : Dt → Env → Option Env} {items : List Dt} {acc : List Dt} (f : Dt → Option Dt)
    (hs : ∀ d ∈ items, ∃ e1, g d en = some e1 ∧ Pe (ta e1 S) (fun b S1 => S1 = S ∧ if b = true then Pe (me e1 S) (fun x S2 => S2 = S ∧ f d = some x) X0 else f d = none) X0)
    (hl : acc.length + items.length ≤ 1000000) (q : QA (acc ++ items.filterMap f) S) : Pe (cLoop g ta me en items acc S) QA X := by
  induction items generalizing acc with
  | nil =>
    rw [List.filterMap_nil, List.append_nil] at q
    exact q
  | cons d ds ih =>
    obtain ⟨e1, e, p⟩ := hs d List.mem_cons_self
    unfold cLoop
    rw [e]
    dsimp only
    rw [List.length_cons] at hl
    refine Pe.bind (Pe.nx (p.imp (fun b S1 ⟨eS, k⟩ => ?_) fun _ _ z => z))
    subst eS
    cases b with
    | false =>
      rw [if_neg Bool.false_ne_true] at k ⊢
      rw [List.filterMap_cons, k] at q
      exact ih (fun x hx => hs x (List.mem_cons_of_mem _ hx)) (by omega) q
    | true =>
      rw [if_pos rfl] at k ⊢
      refine Pe.bind (Pe.nx (k.imp (fun x S2 ⟨eS2, k2⟩ => ?_) fun _ _ z => z))
      subst eS2
      rw [if_pos (by omega)]
      rw [List.filterMap_cons, k2] at q
      refine ih (fun x hx => hs x (List.mem_cons_of_mem _ hx)) (by rw [List.length_append, List.length_singleton]; omega) ?_
      rw [List.append_assoc]
      exact q
theorem v_yes (q : QB true S) : Pe (mYes en S) QB X := q
theorem v_it {d : Dt} {ds : List Dt} (h : Pe (me en S) (fun d S1 => ∃ ds, itemsD d = some ds ∧ QA ds S1) X) : Pe (mIt me en S) QA X := by
  refine Pe.bind (h.imp (fun d S1 ⟨b, e, k⟩ => ?_) fun _ _ z => z)
  rw [e]
  exact k
theorem v_rng1 (h : Pe (ms en S) (fun ds S1 => ∃ j, ds = [.int j] ∧ rngOk j = true ∧ QA (rangeD 0 j.toNat) S1) X) : Pe (mRng1 ms en S) QA X := by
  refine Pe.bind (h.imp (fun d S1 ⟨b, e, r, k⟩ => ?_) fun _ _ z => z)
  subst e
  dsimp only
  rw [if_pos r]
  exact k
theorem v_rng2 (h : Pe (ms en S) (fun ds S1 => ∃ i j, ds = [.int i, .int j] ∧ (rngOk i = true ∧ rngOk j = true) ∧ QA (rangeD i (j - i).toNat) S1) X) : Pe (mRng2 ms en S) QA X := by
  refine Pe.bind (h.imp (fun d S1 ⟨b, b', e, r, k⟩ => ?_) fun _ _ z => z)
  subst e
  dsimp only
  rw [if_pos r]
  exact k
/-! the ways of a test -/
theorem v_dec {p A B : Prop} [Decidable p] (h1 : p → A) (h2 : ¬p → B) : if decide p = true then A else B := by
  by_cases h : p
  · rw [decide_eq_true h, if_pos rfl]
    exact h1 h
  · rw [decide_eq_false h, if_neg Bool.false_ne_true]
    exact h2 h
theorem v_ndec {p A B : Prop} [Decidable p] (h1 : ¬p → A) (h2 : p → B) : if (!decide p) = true then A else B := by
  by_cases h : p
  · rw [decide_eq_true h, if_neg (by simp)]
    exact h2 h
  · rw [decide_eq_false h, if_pos (by simp)]
    exact h1 h
theorem v_bool {b : Bool} {A B : Prop} (h1 : b = true → A) (h2 : b = false → B) : if b = true then A else B := by
  cases b with
  | true => exact h1 rfl
  | false => exact h2 rfl
theorem v_T {A B : Prop} (h : A) : if true = true then A else B := h
theorem v_F {A B : Prop} (h : B) : if false = true then A else B := h
end

section
variable {en : Env} {S : Store} {Q : Dt → Store → Prop} {X : Ex → Store → Prop}
theorem v_div {i j : Int} (h0 : j ≠ 0) (hl : j.natAbs.log2 < 9000) (q : Q (.int (i.fdiv j)) S) : Pe (mDiv (.int i) (.int j) S) Q X := by
  refine v_ifok ?_ q
  unfold divOk
  rw [Bool.and_eq_true]
  exact ⟨decide_eq_true h0, decide_eq_true hl⟩
theorem v_mod {i j : Int} (h0 : j ≠ 0) (q : Q (.int (i.fmod j)) S) : Pe (mMod (.int i) (.int j) S) Q X := v_ifok h0 q
theorem v_mulL {i j : Int} (h : i.natAbs < 2 ^ 64) (q : Q (.int (i * j)) S) : Pe (mMul (.int i) (.int j) S) Q X := by
  refine v_ifok ?_ q
  unfold mulOk
  rw [decide_eq_true h]
  rfl
theorem v_mulR {i j : Int} (h : j.natAbs < 2 ^ 64) (q : Q (.int (i * j)) S) : Pe (mMul (.int i) (.int j) S) Q X := by
  refine v_ifok ?_ q
  unfold mulOk
  rw [decide_eq_true h, Bool.or_true]
  rfl
theorem v_mulW {i j : Int} (h : i.natAbs.log2 + j.natAbs.log2 < 1000000) (q : Q (.int (i * j)) S) : Pe (mMul (.int i) (.int j) S) Q X := by
  refine v_ifok ?_ q
  unfold mulOk
  rw [decide_eq_true h, Bool.or_true]
theorem v_pow {i j : Int} (h : 0 ≤ j ∧ j ≤ 1000000 ∧ i.natAbs < 2 ^ 64) (q : Q (.int (i ^ j.toNat)) S) : Pe (mPow (.int i) (.int j) S) Q X := v_ifok (decide_eq_true h) q
theorem ixD_ref {S : Store} {k : Nat} {ds : List Dt} {i : Int} {d : Dt} (hS : S[k]? = some (.lst ds)) (h : L2.atI ds i = some d) : ixD S (.ref k) i = some d := by
  unfold ixD
  simp [asL, hS, h]
theorem lenD_ref {S : Store} {k : Nat} {ds : List Dt} (hS : S[k]? = some (.lst ds)) : lenD S (.ref k) = some ds.length := by
  unfold lenD
  simp [asL, hS]
theorem gSub_ref {mo mi : Env → Store → R Dt} {d : Dt} {k n : Nat} {j : Int} {ds : List Dt} (ho : mo en S = .ok (.ref k) S) (hi : mi en S = .ok (.int j) S) (hS : S[k]? = some (.lst ds)) (hj : ixN ds.length j = some n) :
    gSubD mo mi d en S = some (en, S.set k (.lst (ds.set n d))) := by
  unfold gSubD
  simp only [ho, hi]
  unfold setIx
  simp only [hS, hj, Option.map_some]
theorem set_same {S : Store} {k : Nat} {o o' : Ob} (h : S[k]? = some o) : (S.set k o')[k]? = some o' := List.getElem?_set_self (List.getElem?_eq_some_iff.mp h).1
/-- a store into a list: the new store by a letter -/
theorem v_gsub {mo mi : Env → Store → R Dt} {d : Dt} {k n : Nat} {j : Int} {ds : List Dt} {A : Env → Store → Prop} (ho : mo en S = .ok (.ref k) S) (hi : mi en S = .ok (.int j) S) (hS : S[k]? = some (.lst ds)) (hj : ixN ds.length j = some n)
    (q : ∀ S', S' = S.set k (.lst (ds.set n d)) → S'[k]? = some (.lst (ds.set n d)) → A en S') : ∃ e' S', gSubD mo mi d en S = some (e', S') ∧ A e' S' :=
  ⟨en, _, gSub_ref ho hi hS hj, q _ rfl (set_same hS)⟩
theorem atI_in {α : Type} {xs : List α} {j : Nat} {x : α} (h : xs[j]? = some x) : L2.atI xs (j : Int) = some x := L2.atI_nat h
end

section
variable {en : Env} {S : Store} {Q : Dt → Store → Prop} {X : Ex → Store → Prop} {QS : Fl → Env → Store → Prop} {XS : Ex → Env → Store → Prop} {i j : Int}
theorem v_add (q : Q (.int (i + j)) S) : Pe (mAdd (.int i) (.int j) S) Q X := q
theorem v_sub (q : Q (.int (i - j)) S) : Pe (mSub (.int i) (.int j) S) Q X := q
theorem v_iadd (q : Q (.int (i + j)) S) : Pe (mIAdd (.int i) (.int j) S) Q X := q
theorem v_lt (q : Q (.bl (decide (i < j))) S) : Pe (mLt (.int i) (.int j) S) Q X := q
theorem v_le (q : Q (.bl (decide (i ≤ j))) S) : Pe (mLe (.int i) (.int j) S) Q X := q
theorem v_gt (q : Q (.bl (decide (j < i))) S) : Pe (mGt (.int i) (.int j) S) Q X := q
theorem v_ge (q : Q (.bl (decide (j ≤ i))) S) : Pe (mGe (.int i) (.int j) S) Q X := q
theorem v_eqI (q : Q (.bl (decide (i = j))) S) : Pe (mEq (.int i) (.int j) S) Q X := by
  have e : (i == j) = decide (i = j) := rfl
  show Q (.bl (i == j)) S
  rw [e]
  exact q
theorem v_neI (q : Q (.bl (!decide (i = j))) S) : Pe (mNe (.int i) (.int j) S) Q X := by
  have e : (i == j) = decide (i = j) := rfl
  show Q (.bl (!(i == j))) S
  rw [e]
  exact q
theorem v_eqB {a b : Bool} (q : Q (.bl (a == b)) S) : Pe (mEq (.bl a) (.bl b) S) Q X := q
theorem v_neB {a b : Bool} (q : Q (.bl (!(a == b))) S) : Pe (mNe (.bl a) (.bl b) S) Q X := q
theorem v_aug {k : Nat} {m : Dt → Dt → Store → R Dt} {me : Env → Store → R Dt} {x : Dt} (h : en[k]? = some (some x)) (q : Pe (me en S) (fun y S1 => Pe (m x y S1) (fun z S2 => QS .nx (en.set k (some z)) S2) (fun x S => XS x en S)) (fun x S => XS x en S)) : Ps (mAug k m me en S) QS XS := by
  unfold mAug
  rw [h]
  exact Pe.toS (q.imp (fun _ _ k => Pe.toS k) fun _ _ z => z)
theorem v_isi1 {x c : Dt} {b : Bool} (hc : ∀ cs, c ≠ .tup cs) (e : ((tyS S x).bind fun t => isiT t c) = some b) (q : Q (.bl b) S) : Pe (mIsi [x, c] S) Q X := by
  unfold mIsi
  cases c with
  | tup cs => exact absurd rfl (hc cs)
  | _ =>
    dsimp only
    rw [e]
    exact q
theorem v_isiT {x : Dt} {cs : List Dt} {b : Bool} (e : ((tyS S x).bind fun t => isiAny t cs) = some b) (q : Q (.bl b) S) : Pe (mIsi [x, .tup cs] S) Q X := by
  unfold mIsi
  dsimp only
  rw [e]
  exact q
theorem v_isiTy {x : Dt} {n : String} {t : String ⊕ String} {b : Bool} (ht : tyS S x = some t) (e : isiT t (.ty n) = some b) (q : Q (.bl b) S) : Pe (mIsi [x, .ty n] S) Q X :=
  v_isi1 (fun _ z => nomatch z) (by rw [ht]; exact e) q
end

theorem v_isd {S : Store} {Q : Dt → Store → Prop} {X : Ex → Store → Prop} {n : Bool} {x y d : Dt} (e : mIs n x y S = .ok d S) (q : Q d S) : Pe (mIs n x y S) Q X := by
  rw [e]
  exact q
theorem v_bT {b : Bool} {A B : Prop} (h : b = true) (q : A) : if b = true then A else B := by
  rw [if_pos h]
  exact q
theorem v_bF {b : Bool} {A B : Prop} (h : b = false) (q : B) : if b = true then A else B := by
  rw [if_neg (by rw [h]; exact Bool.false_ne_true)]
  exact q
end Dv

set_option Elab.async false
set_option linter.all false
set_option maxRecDepth 100000
set_option maxHeartbeats 4000000
set_option autoImplicit false
namespace Lw
open PySem Dv
/-! the defs as functions: printed by our gen.py -/
def b_law_draw : Bd :=
  (mSeq (mIfS (mB (mOp mGt (mOp mIx (mVar 0) (mC (.int 2))) (mC (.int 0)))) (mSeq (mSet 2 (mOp mMod (mOp mIx (mVar 0) (mC (.int 2))) (mVar 1)))
  (mSeq (mAsg (gSubD (mVar 0) (mC (.int 2))) (mOp mDiv (mOp mIx (mVar 0) (mC (.int 2))) (mVar 1)))
  (mRet (mVar 2)))) mNx)
  (mSeq (mSet 3 (mC (.int 0)))
  (mSeq (mIfS (mB (mOp mLt (mOp mIx (mVar 0) (mC (.int 1))) (mCB mLen (mCons (mOp mIx (mVar 0) (mC (.int 0))) mNil)))) (mSet 3 (mOp mIx (mOp mIx (mVar 0) (mC (.int 0))) (mOp mIx (mVar 0) (mC (.int 1))))) mNx)
  (mSeq (mAsg (gSubD (mVar 0) (mC (.int 1))) (mOp mAdd (mOp mIx (mVar 0) (mC (.int 1))) (mC (.int 1))))
  (mSeq (mIfS (mB (mOp mGe (mCB mAbs (mCons (mVar 3) mNil)) (mOp mPow (mC (.int 10)) (mC (.int 18))))) (mSeq (mAsg (gSubD (mVar 0) (mC (.int 2))) (mOp mDiv (mCB mAbs (mCons (mVar 3) mNil)) (mVar 1)))
  (mRet (mOp mMod (mCB mAbs (mCons (mVar 3) mNil)) (mVar 1)))) mNx)
  (mSeq (mSet 4 (mOp mAdd (mOp mAdd (mOp mPow (mOp mIx (mVar 0) (mC (.int 3))) (mC (.int 3))) (mOp mMul (mOp mIx (mVar 0) (mC (.int 3))) (mC (.int 37)))) (mOp mMul (mOp mIx (mVar 0) (mC (.int 1))) (mC (.int 69621)))))
  (mSeq (mSet 4 (mOp mMod (mOp mAdd (mVar 4) (mOp mMul (mOp mMod (mVar 3) (mC (.int 2147483629))) (mC (.int 48271)))) (mC (.int 2147483647))))
  (mSeq (mAsg (gSubD (mVar 0) (mC (.int 3))) (mVar 4))
  (mRet (mOp mMod (mOp mAdd (mOp mDiv (mVar 4) (mC (.int 8192))) (mOp mMul (mOp mMod (mVar 4) (mC (.int 8191))) (mC (.int 40503)))) (mVar 1)))))))))))
def m_law_draw : Fn := fnRun 5 false b_law_draw
def b_law_flow : Bd :=
  (mRet (mLstR (mCons (mCB mList (mCons (mSl (mVar 0) mNoPart (mPart (mC (.int 63)))) mNil)) (mCons (mC (.int 0)) (mCons (mC (.int 0)) (mCons (mC (.int 23)) mNil))))))
def m_law_flow : Fn := fnRun 1 true b_law_flow
def b_law_gcd : Bd :=
  (mSeq (mPar 0 1 (mCons (mCB mAbs (mCons (mVar 0) mNil)) (mCons (mCB mAbs (mCons (mVar 1) mNil)) mNil)))
  (mSeq (mWhile (fuelAt 1) (mB (mOp mNe (mVar 1) (mC (.int 0)))) (mPar 0 1 (mCons (mVar 1) (mCons (mOp mMod (mVar 0) (mVar 1)) mNil))))
  (mRet (mVar 0))))
def m_law_gcd : Fn := fnRun 2 false b_law_gcd
def b_law_pick : Bd :=
  (mRet (mOp mIx (mVar 1) (mCall 2 m_law_draw (mCons (mVar 0) (mCons (mCB mLen (mCons (mVar 1) mNil)) mNil)))))
def m_law_pick : Fn := fnRun 2 false b_law_pick
def b_law_great_number : Bd :=
  (mSeq (mSet 1 (mCall 2 m_law_pick (mCons (mVar 0) (mCons (mLst (mCons (mC (.int 4)) (mCons (mC (.int 30)) (mCons (mOp mPow (mC (.int 10)) (mC (.int 6))) (mCons (mOp mPow (mC (.int 10)) (mC (.int 29))) mNil))))) mNil))))
  (mRet (mOp mSub (mCall 2 m_law_draw (mCons (mVar 0) (mCons (mOp mAdd (mOp mMul (mC (.int 2)) (mVar 1)) (mC (.int 1))) mNil))) (mVar 1))))
def m_law_great_number : Fn := fnRun 2 false b_law_great_number
def b_law_same (rc : Fn) : Bd :=
  (mSeq (mIfS (mTruth (mCB mIsi (mCons (mVar 1) (mCons (mC (.ty "bool")) mNil)))) (mRet (mAndV (mCB mIsi (mCons (mVar 0) (mCons (mC (.ty "bool")) mNil))) (mOp mEq (mVar 0) (mVar 1)))) mNx)
  (mSeq (mIfS (mB (mOp (mIs false) (mVar 1) (mC .non))) (mRet (mOp (mIs false) (mVar 0) (mC .non))) mNx)
  (mSeq (mIfS (mTruth (mCB mIsi (mCons (mVar 1) (mCons (mC (.ty "int")) mNil)))) (mRet (mAndV (mCB mIsi (mCons (mVar 0) (mCons (mC (.ty "int")) mNil))) (mAndV (mNotV (mCB mIsi (mCons (mVar 0) (mCons (mC (.ty "bool")) mNil)))) (mOp mEq (mVar 0) (mVar 1))))) mNx)
  (mSeq (mIfS (mTruth (mCB mIsi (mCons (mVar 1) (mCons (mC (.ty "str")) mNil)))) (mRet (mAndV (mCB mIsi (mCons (mVar 0) (mCons (mC (.ty "str")) mNil))) (mOp mEq (mVar 0) (mVar 1)))) mNx)
  (mSeq (mIfS (mOrT (mB (mOp mNe (mCB mIsi (mCons (mVar 1) (mCons (mC (.ty "tuple")) mNil))) (mCB mIsi (mCons (mVar 0) (mCons (mC (.ty "tuple")) mNil))))) (mB (mOp mNe (mCB mIsi (mCons (mVar 1) (mCons (mC (.ty "list")) mNil))) (mCB mIsi (mCons (mVar 0) (mCons (mC (.ty "list")) mNil)))))) (mRet (mC (.bl false))) mNx)
  (mSeq (mIfS (mOrT (mNotT (mTruth (mCB mIsi (mCons (mVar 0) (mCons (mTup (mCons (mC (.ty "tuple")) (mCons (mC (.ty "list")) mNil))) mNil))))) (mB (mOp mNe (mCB mLen (mCons (mVar 0) mNil)) (mCB mLen (mCons (mVar 1) mNil))))) (mRet (mC (.bl false))) mNx)
  (mRet (mCB mAll (mCons (mLc [2] (mRng1 (mCons (mCB mLen (mCons (mVar 1) mNil)) mNil)) (wNm 2) mYes (mCall 2 rc (mCons (mOp mIx (mVar 0) (mVar 2)) (mCons (mOp mIx (mVar 1) (mVar 2)) mNil)))) mNil)))))))))
def m_law_same : Nat → Fn
  | 0 => fun _ _ => .stuck
  | n + 1 => fnRun 3 false (b_law_same (m_law_same n))
def b_back_to : Bd :=
  (mSeq (mPar 2 3 (mCons (mTup (mCons (mVar 0) (mCons (mC (.int 1)) mNil))) (mCons (mTup (mCons (mVar 1) (mCons (mC (.int 0)) mNil))) mNil)))
  (mSeq (mWhile (fuelAt 3) (mB (mOp mNe (mOp mIx (mVar 3) (mC (.int 0))) (mC (.int 0)))) (mSeq (mSet 4 (mOp mDiv (mOp mIx (mVar 2) (mC (.int 0))) (mOp mIx (mVar 3) (mC (.int 0)))))
  (mPar 2 3 (mCons (mVar 3) (mCons (mTup (mCons (mOp mSub (mOp mIx (mVar 2) (mC (.int 0))) (mOp mMul (mVar 4) (mOp mIx (mVar 3) (mC (.int 0))))) (mCons (mOp mSub (mOp mIx (mVar 2) (mC (.int 1))) (mOp mMul (mVar 4) (mOp mIx (mVar 3) (mC (.int 1))))) mNil))) mNil)))))
  (mRet (mOp mMul (mOp mIx (mVar 2) (mC (.int 1))) (mOp mIx (mVar 2) (mC (.int 0)))))))
def m_back_to : Fn := fnRun 5 false b_back_to
def b_common : Bd :=
  (mSeq (mPar 0 1 (mCons (mCB mAbs (mCons (mVar 0) mNil)) (mCons (mCB mAbs (mCons (mVar 1) mNil)) mNil)))
  (mSeq (mWhile (fuelAt 1) (mB (mOp mGt (mVar 1) (mC (.int 0)))) (mPar 0 1 (mCons (mVar 1) (mCons (mOp mMod (mVar 0) (mVar 1)) mNil))))
  (mRet (mVar 0))))
def m_common : Fn := fnRun 2 false b_common
def b_solved : Bd :=
  (mSeq (mSet 2 (mCB mAbs (mCons (mVar 2) mNil)))
  (mSeq (mSet 3 (mCall 2 m_common (mCons (mVar 0) (mCons (mVar 2) mNil))))
  (mSeq (mIfS (mB (mOp mNe (mOp mMod (mVar 1) (mVar 3)) (mC (.int 0)))) (mRet (mC .non)) mNx)
  (mSeq (mSet 4 (mOp mDiv (mVar 2) (mVar 3)))
  (mRet (mTup (mCons (mIf (mB (mOp mGt (mVar 4) (mC (.int 1)))) (mOp mMod (mOp mMul (mOp mSub (mC (.int 0)) (mOp mDiv (mVar 1) (mVar 3))) (mCall 2 m_back_to (mCons (mOp mMod (mOp mDiv (mVar 0) (mVar 3)) (mVar 4)) (mCons (mVar 4) mNil)))) (mVar 4)) (mC (.int 0))) (mCons (mVar 4) mNil))))))))
def m_solved : Fn := fnRun 5 false b_solved
def b_law : Bd :=
  (mSeq (mSet 1 (mCall 1 m_law_flow (mCons (mVar 0) mNil)))
  (mSeq (mFor (mRng1 (mCons (mOp mAdd (mC (.int 3)) (mCB mLen (mCons (mSl (mVar 0) mNoPart (mPart (mC (.int 18)))) mNil))) mNil)) (gNm 2) (mSeq (mSet 3 (mOp mMul (mCall 2 m_law_pick (mCons (mVar 1) (mCons (mLst (mCons (mC (.int 1)) (mCons (mNeg (mC (.int 1))) mNil))) mNil))) (mOp mAdd (mC (.int 1)) (mCall 2 m_law_draw (mCons (mVar 1) (mCons (mC (.int 60)) mNil))))))
  (mSeq (mAsg (gTp 2 (gCons' (gNm 4) (gCons' (gNm 5) gNil'))) (mTup (mCons (mOp mSub (mCall 2 m_law_draw (mCons (mVar 1) (mCons (mC (.int 201)) mNil))) (mC (.int 100))) (mCons (mOp mSub (mCall 2 m_law_draw (mCons (mVar 1) (mCons (mC (.int 201)) mNil))) (mC (.int 100))) mNil))))
  (mSeq (mSet 6 (mLc [7] (mRng1 (mCons (mOp mMul (mC (.int 2)) (mCB mAbs (mCons (mVar 3) mNil))) mNil)) (wNm 7) (mB (mOp mEq (mOp mMod (mOp mAdd (mOp mMul (mVar 4) (mVar 7)) (mVar 5)) (mVar 3)) (mC (.int 0)))) (mVar 7)))
  (mSeq (mSet 8 (mIf (mB (mOp mNe (mVar 6) (mLst mNil))) (mTup (mCons (mOp mIx (mVar 6) (mC (.int 0))) (mCons (mOp mSub (mOp mIx (mVar 6) (mC (.int 1))) (mOp mIx (mVar 6) (mC (.int 0)))) mNil))) (mC .non)))
  (mSeq (mIfS (mNotT (mTruth (mCall 2 (m_law_same 20) (mCons (mCall 3 m_solved (mCons (mVar 4) (mCons (mVar 5) (mCons (mVar 3) mNil)))) (mCons (mVar 8) mNil))))) (mRet (mC (.bl false))) mNx)
  (mSeq (mSet 9 (mOp mAdd (mC (.int 1)) (mCB mAbs (mCons (mCall 1 m_law_great_number (mCons (mVar 1) mNil)) mNil))))
  (mSeq (mSet 10 (mOp mSub (mCall 2 m_law_draw (mCons (mVar 1) (mCons (mOp mAdd (mOp mMul (mC (.int 2)) (mOp mPow (mC (.int 10)) (mC (.int 24)))) (mC (.int 1))) mNil))) (mOp mPow (mC (.int 10)) (mC (.int 24)))))
  (mSeq (mSet 11 (mCall 3 m_solved (mCons (mVar 10) (mCons (mOp mSub (mC (.int 0)) (mOp mMul (mVar 10) (mC (.int 12345)))) (mCons (mVar 9) mNil)))))
  (mSeq (mIfS (mOrT (mB (mOp (mIs false) (mVar 11) (mC .non))) (mOrT (mB (mOp mNe (mOp mMod (mOp mSub (mOp mMul (mVar 10) (mOp mIx (mVar 11) (mC (.int 0)))) (mOp mMul (mVar 10) (mC (.int 12345)))) (mVar 9)) (mC (.int 0)))) (mNotT (mB (mChain mLe mLt (mC (.int 0)) (mOp mIx (mVar 11) (mC (.int 0))) (mOp mIx (mVar 11) (mC (.int 1)))))))) (mRet (mC (.bl false))) mNx)
  (mIfS (mB (mOp mNe (mOp mIx (mVar 11) (mC (.int 1))) (mOp mDiv (mVar 9) (mCall 2 m_law_gcd (mCons (mVar 10) (mCons (mVar 9) mNil)))))) (mRet (mC (.bl false))) mNx)))))))))))
  (mRet (mC (.bl true)))))
def m_law : Fn := fnRun 12 true b_law
end Lw

set_option Elab.async false
set_option linter.all false
set_option maxRecDepth 100000
set_option maxHeartbeats 4000000
set_option autoImplicit false
namespace Lw
open PySem PySem.Spec PyProof.Rows L2 Dv
def topS (i : Nat) : Stmt := PySem.Challenge.pw_hawserweb_k03_likenesses_solved.main.body.getD i (.Pass ⟨0, 0, 0, 0⟩)
abbrev s_law_draw : Stmt := topS 6
theorem sc_law_draw : FnScope ["_law_flow_here", "_law_size", "_law_found", "_law_cell", "_law_base"] ["_law_flow_here", "_law_size"] (defScope s_law_draw) := ⟨rfl, rfl, rfl, by decide +kernel, rfl, by decide +kernel, by decide +kernel⟩
abbrev s_law_flow : Stmt := topS 5
theorem sc_law_flow : FnScope ["_law_script"] ["_law_script"] (defScope s_law_flow) := ⟨rfl, rfl, rfl, by decide +kernel, rfl, by decide +kernel, by decide +kernel⟩
abbrev s_law_gcd : Stmt := topS 9
theorem sc_law_gcd : FnScope ["_law_one", "_law_other"] ["_law_one", "_law_other"] (defScope s_law_gcd) := ⟨rfl, rfl, rfl, by decide +kernel, rfl, by decide +kernel, by decide +kernel⟩
abbrev s_law_pick : Stmt := topS 7
theorem sc_law_pick : FnScope ["_law_flow_here", "_law_lot"] ["_law_flow_here", "_law_lot"] (defScope s_law_pick) := ⟨rfl, rfl, rfl, by decide +kernel, rfl, by decide +kernel, by decide +kernel⟩
abbrev s_law_great_number : Stmt := topS 10
theorem sc_law_great_number : FnScope ["_law_flow_here", "_law_size"] ["_law_flow_here"] (defScope s_law_great_number) := ⟨rfl, rfl, rfl, by decide +kernel, rfl, by decide +kernel, by decide +kernel⟩
abbrev s_law_same : Stmt := topS 8
theorem sc_law_same : FnScope ["_law_found", "_law_due", "_law_k"] ["_law_found", "_law_due"] (defScope s_law_same) := ⟨rfl, rfl, rfl, by decide +kernel, rfl, by decide +kernel, by decide +kernel⟩
abbrev s_back_to : Stmt := topS 2
theorem sc_back_to : FnScope ["one", "by", "old", "new", "many"] ["one", "by"] (defScope s_back_to) := ⟨rfl, rfl, rfl, by decide +kernel, rfl, by decide +kernel, by decide +kernel⟩
abbrev s_common : Stmt := topS 1
theorem sc_common : FnScope ["one", "other"] ["one", "other"] (defScope s_common) := ⟨rfl, rfl, rfl, by decide +kernel, rfl, by decide +kernel, by decide +kernel⟩
abbrev s_solved : Stmt := topS 3
theorem sc_solved : FnScope ["factor", "number", "by", "part", "step"] ["factor", "number", "by"] (defScope s_solved) := ⟨rfl, rfl, rfl, by decide +kernel, rfl, by decide +kernel, by decide +kernel⟩
abbrev s_law : Stmt := topS 11
theorem sc_law : FnScope ["_law_script", "_law_flow_here", "_law_turn", "_law_part", "_law_factor", "_law_number", "_law_good", "_law_x", "_law_due", "_law_great", "_law_wide", "_law_found"] ["_law_script"] (defScope s_law) := ⟨rfl, rfl, rfl, by decide +kernel, rfl, by decide +kernel, by decide +kernel⟩
abbrev Gx (K : PySem.W.Frag) : Gv := ⟨K, fun _ => none⟩
structure Ad where
  a_law_draw : Addr
  d_law_draw : FuncData
  a_law_flow : Addr
  d_law_flow : FuncData
  a_law_gcd : Addr
  d_law_gcd : FuncData
  a_law_pick : Addr
  d_law_pick : FuncData
  a_law_great_number : Addr
  d_law_great_number : FuncData
  a_law_same : Addr
  d_law_same : FuncData
  a_back_to : Addr
  d_back_to : FuncData
  a_common : Addr
  d_common : FuncData
  a_solved : Addr
  d_solved : FuncData
  a_law : Addr
  d_law : FuncData
structure Tx (K : PySem.W.Frag) (mg : Str → Option Value) (A : Ad) : Prop where
  F_law_draw : Fun K "_law_draw" "_law_draw" s_law_draw A.a_law_draw A.d_law_draw
  g_law_draw : mg "_law_draw" = some (.ref A.a_law_draw)
  b_law_draw : Binds K A.d_law_draw ["_law_flow_here", "_law_size"] []
  F_law_flow : Fun K "_law_flow" "_law_flow" s_law_flow A.a_law_flow A.d_law_flow
  g_law_flow : mg "_law_flow" = some (.ref A.a_law_flow)
  b_law_flow : Binds K A.d_law_flow ["_law_script"] []
  F_law_gcd : Fun K "_law_gcd" "_law_gcd" s_law_gcd A.a_law_gcd A.d_law_gcd
  g_law_gcd : mg "_law_gcd" = some (.ref A.a_law_gcd)
  b_law_gcd : Binds K A.d_law_gcd ["_law_one", "_law_other"] []
  F_law_pick : Fun K "_law_pick" "_law_pick" s_law_pick A.a_law_pick A.d_law_pick
  g_law_pick : mg "_law_pick" = some (.ref A.a_law_pick)
  b_law_pick : Binds K A.d_law_pick ["_law_flow_here", "_law_lot"] []
  F_law_great_number : Fun K "_law_great_number" "_law_great_number" s_law_great_number A.a_law_great_number A.d_law_great_number
  g_law_great_number : mg "_law_great_number" = some (.ref A.a_law_great_number)
  b_law_great_number : Binds K A.d_law_great_number ["_law_flow_here"] []
  F_law_same : Fun K "_law_same" "_law_same" s_law_same A.a_law_same A.d_law_same
  g_law_same : mg "_law_same" = some (.ref A.a_law_same)
  b_law_same : Binds K A.d_law_same ["_law_found", "_law_due"] []
  F_back_to : Fun K "back_to" "back_to" s_back_to A.a_back_to A.d_back_to
  g_back_to : mg "back_to" = some (.ref A.a_back_to)
  b_back_to : Binds K A.d_back_to ["one", "by"] []
  F_common : Fun K "common" "common" s_common A.a_common A.d_common
  g_common : mg "common" = some (.ref A.a_common)
  b_common : Binds K A.d_common ["one", "other"] []
  F_solved : Fun K "solved" "solved" s_solved A.a_solved A.d_solved
  g_solved : mg "solved" = some (.ref A.a_solved)
  b_solved : Binds K A.d_solved ["factor", "number", "by"] []
  F_law : Fun K "law" "law" s_law A.a_law A.d_law
  g_law : mg "law" = some (.ref A.a_law)
  b_law : Binds K A.d_law ["_law_script"] []
  z_range : mg "range" = none
  z_len : mg "len" = none
  z_abs : mg "abs" = none
  z_list : mg "list" = none
  z_isinstance : mg "isinstance" = none
  z_bool : mg "bool" = none
  z_int : mg "int" = none
  z_str : mg "str" = none
  z_tuple : mg "tuple" = none
  z_all : mg "all" = none
theorem Tx.isi {K : PySem.W.Frag} {mg : Str → Option Value} {A : Ad} (_ : Tx K mg A) : ClsOk (Gx K) := .none fun _ => rfl
section
variable {P : Program} {w : World} {K : PySem.W.Frag} {mg : Str → Option Value} {base : Heap} {A : Ad}
theorem ok_law_draw (T : Tx K mg A) : FnOk P w K mg base (L2.CX P w) 1 A.a_law_draw A.d_law_draw ["_law_flow_here", "_law_size"] (spF (Gx K) 2 m_law_draw) := by
  refine fn_ok false T.F_law_draw sc_law_draw (fun cdv A1 outer s1 H1 E1 hr => ?_)
  exact (db_cons (ds_if (dt_cmp do_gt (de_ix (de_var 0) de_int) de_int) (db_cons (ds_set (i := 2) sc_law_draw.nd (de_op do_mod (de_ix (de_var 0) de_int) (de_var 1)))
  (db_cons (ds_asg (de_op do_div (de_ix (de_var 0) de_int) (de_var 1)) (dg_sub (de_var 0) de_int))
  (db_one (ds_ret (de_var 2))))) db_nil)
  (db_cons (ds_set (i := 3) sc_law_draw.nd de_int)
  (db_cons (ds_if (dt_cmp do_lt (de_ix (de_var 0) de_int) (de_callB (dc_len) rfl T.z_len boot_len (da_cons (de_ix (de_var 0) de_int) da_nil))) (db_one (ds_set (i := 3) sc_law_draw.nd (de_ix (de_ix (de_var 0) de_int) (de_ix (de_var 0) de_int)))) db_nil)
  (db_cons (ds_asg (de_op do_add (de_ix (de_var 0) de_int) de_int) (dg_sub (de_var 0) de_int))
  (db_cons (ds_if (dt_cmp do_ge (de_callB (dc_abs) rfl T.z_abs boot_abs (da_cons (de_var 3) da_nil)) (de_op do_pow de_int de_int)) (db_cons (ds_asg (de_op do_div (de_callB (dc_abs) rfl T.z_abs boot_abs (da_cons (de_var 3) da_nil)) (de_var 1)) (dg_sub (de_var 0) de_int))
  (db_one (ds_ret (de_op do_mod (de_callB (dc_abs) rfl T.z_abs boot_abs (da_cons (de_var 3) da_nil)) (de_var 1))))) db_nil)
  (db_cons (ds_set (i := 4) sc_law_draw.nd (de_op do_add (de_op do_add (de_op do_pow (de_ix (de_var 0) de_int) de_int) (de_op do_mul (de_ix (de_var 0) de_int) de_int)) (de_op do_mul (de_ix (de_var 0) de_int) de_int)))
  (db_cons (ds_set (i := 4) sc_law_draw.nd (de_op do_mod (de_op do_add (de_var 4) (de_op do_mul (de_op do_mod (de_var 3) de_int) de_int)) de_int))
  (db_cons (ds_asg (de_var 4) (dg_sub (de_var 0) de_int))
  (db_one (ds_ret (de_op do_mod (de_op do_add (de_op do_div (de_var 4) de_int) (de_op do_mul (de_op do_mod (de_var 4) de_int) de_int)) (de_var 1))))))))))))
theorem ok_law_flow (T : Tx K mg A) : FnOk P w K mg base (L2.CX P w) 1 A.a_law_flow A.d_law_flow ["_law_script"] (spF (Gx K) 1 m_law_flow) := by
  refine fn_ok true T.F_law_flow sc_law_flow (fun cdv A1 outer s1 H1 E1 hr => ?_)
  exact (db_one (ds_ret (de_lstR (da_cons (de_callTy (dc_list) rfl T.z_list boot_list (da_cons (de_sl (de_var 0) dp_none (dp_some de_int)) da_nil)) (da_cons de_int (da_cons de_int (da_cons de_int da_nil)))))))
theorem ok_law_gcd (T : Tx K mg A) : FnOk P w K mg base (L2.CX P w) 1 A.a_law_gcd A.d_law_gcd ["_law_one", "_law_other"] (spF (Gx K) 2 m_law_gcd) := by
  refine fn_ok false T.F_law_gcd sc_law_gcd (fun cdv A1 outer s1 H1 E1 hr => ?_)
  exact (db_cons (ds_par (i := 0) (j := 1) sc_law_gcd.nd (da_cons (de_callB (dc_abs) rfl T.z_abs boot_abs (da_cons (de_var 0) da_nil)) (da_cons (de_callB (dc_abs) rfl T.z_abs boot_abs (da_cons (de_var 1) da_nil)) da_nil)))
  (db_cons (ds_while (fuelAt 1) fn_po (dt_cmp (do_ne hr.units) (de_var 1) de_int) (db_one (ds_par (i := 0) (j := 1) sc_law_gcd.nd (da_cons (de_var 1) (da_cons (de_op do_mod (de_var 0) (de_var 1)) da_nil)))))
  (db_one (ds_ret (de_var 0)))))
theorem ok_law_pick (T : Tx K mg A) : FnOk P w K mg base (L2.CX P w) 2 A.a_law_pick A.d_law_pick ["_law_flow_here", "_law_lot"] (spF (Gx K) 2 m_law_pick) := by
  refine fn_ok false T.F_law_pick sc_law_pick (fun cdv A1 outer s1 H1 E1 hr => ?_)
  exact (db_one (ds_ret (de_ix (de_var 1) (de_call (ok_law_draw T) (hr.mono (by decide)) T.g_law_draw T.F_law_draw.kp T.b_law_draw fn_tk (da_cons (de_var 0) (da_cons (de_callB (dc_len) rfl T.z_len boot_len (da_cons (de_var 1) da_nil)) da_nil))))))
theorem ok_law_great_number (T : Tx K mg A) : FnOk P w K mg base (L2.CX P w) 3 A.a_law_great_number A.d_law_great_number ["_law_flow_here"] (spF (Gx K) 1 m_law_great_number) := by
  refine fn_ok false T.F_law_great_number sc_law_great_number (fun cdv A1 outer s1 H1 E1 hr => ?_)
  exact (db_cons (ds_set (i := 1) sc_law_great_number.nd (de_call (ok_law_pick T) (hr.mono (by decide)) T.g_law_pick T.F_law_pick.kp T.b_law_pick fn_tk (da_cons (de_var 0) (da_cons (de_lst (da_cons de_int (da_cons de_int (da_cons (de_op do_pow de_int de_int) (da_cons (de_op do_pow de_int de_int) da_nil))))) da_nil))))
  (db_one (ds_ret (de_op do_sub (de_call (ok_law_draw T) (hr.mono (by decide)) T.g_law_draw T.F_law_draw.kp T.b_law_draw fn_tk (da_cons (de_var 0) (da_cons (de_op do_add (de_op do_mul de_int (de_var 1)) de_int) da_nil))) (de_var 1)))))
theorem ok_law_same (T : Tx K mg A) (n : Nat) : FnOk P w K mg base (L2.CX P w) (n + 1) A.a_law_same A.d_law_same ["_law_found", "_law_due"] (spF (Gx K) 2 (m_law_same n)) := by
  induction n with
  | zero => exact fn_stuck
  | succ n rc =>
    have hk : n + 1 ≤ n + 1 := Nat.le_refl _
    refine fn_ok false T.F_law_same sc_law_same (fun cdv A1 outer s1 H1 E1 hr => ?_)
    exact (db_cons (ds_if (dt_truth (de_callB (dc_isi T.isi) rfl T.z_isinstance boot_isinstance (da_cons (de_var 1) (da_cons (de_ty rfl T.z_bool boot_bool) da_nil)))) (db_one (ds_ret (de_and (de_callB (dc_isi T.isi) rfl T.z_isinstance boot_isinstance (da_cons (de_var 0) (da_cons (de_ty rfl T.z_bool boot_bool) da_nil))) (de_one (de_cmp (do_eq hr.units) (de_var 0) (de_var 1)))))) db_nil)
  (db_cons (ds_if (dt_cmp do_is (de_var 1) de_non) (db_one (ds_ret (de_cmp do_is (de_var 0) de_non))) db_nil)
  (db_cons (ds_if (dt_truth (de_callB (dc_isi T.isi) rfl T.z_isinstance boot_isinstance (da_cons (de_var 1) (da_cons (de_ty rfl T.z_int boot_int) da_nil)))) (db_one (ds_ret (de_and (de_callB (dc_isi T.isi) rfl T.z_isinstance boot_isinstance (da_cons (de_var 0) (da_cons (de_ty rfl T.z_int boot_int) da_nil))) (de_and (de_not (de_callB (dc_isi T.isi) rfl T.z_isinstance boot_isinstance (da_cons (de_var 0) (da_cons (de_ty rfl T.z_bool boot_bool) da_nil)))) (de_one (de_cmp (do_eq hr.units) (de_var 0) (de_var 1))))))) db_nil)
  (db_cons (ds_if (dt_truth (de_callB (dc_isi T.isi) rfl T.z_isinstance boot_isinstance (da_cons (de_var 1) (da_cons (de_ty rfl T.z_str boot_str) da_nil)))) (db_one (ds_ret (de_and (de_callB (dc_isi T.isi) rfl T.z_isinstance boot_isinstance (da_cons (de_var 0) (da_cons (de_ty rfl T.z_str boot_str) da_nil))) (de_one (de_cmp (do_eq hr.units) (de_var 0) (de_var 1)))))) db_nil)
  (db_cons (ds_if (dt_w (dw_or (dt_cmp (do_ne hr.units) (de_callB (dc_isi T.isi) rfl T.z_isinstance boot_isinstance (da_cons (de_var 1) (da_cons (de_ty rfl T.z_tuple boot_tuple) da_nil))) (de_callB (dc_isi T.isi) rfl T.z_isinstance boot_isinstance (da_cons (de_var 0) (da_cons (de_ty rfl T.z_tuple boot_tuple) da_nil)))) (dw_or1 (dt_cmp (do_ne hr.units) (de_callB (dc_isi T.isi) rfl T.z_isinstance boot_isinstance (da_cons (de_var 1) (da_cons (de_ty rfl T.z_list boot_list) da_nil))) (de_callB (dc_isi T.isi) rfl T.z_isinstance boot_isinstance (da_cons (de_var 0) (da_cons (de_ty rfl T.z_list boot_list) da_nil))))))) (db_one (ds_ret de_bl)) db_nil)
  (db_cons (ds_if (dt_w (dw_or (dt_not (dt_truth (de_callB (dc_isi T.isi) rfl T.z_isinstance boot_isinstance (da_cons (de_var 0) (da_cons (de_tup (da_cons (de_ty rfl T.z_tuple boot_tuple) (da_cons (de_ty rfl T.z_list boot_list) da_nil))) da_nil))))) (dw_or1 (dt_cmp (do_ne hr.units) (de_callB (dc_len) rfl T.z_len boot_len (da_cons (de_var 0) da_nil)) (de_callB (dc_len) rfl T.z_len boot_len (da_cons (de_var 1) da_nil)))))) (db_one (ds_ret de_bl)) db_nil)
  (db_one (ds_ret (de_callB (dc_all) rfl T.z_all boot_all (da_cons (de_lc [("_law_k", 2)] sc_law_same.nd (di_range1 T.z_range (da_cons (de_callB (dc_len) rfl T.z_len boot_len (da_cons (de_var 1) da_nil)) da_nil)) (blkOk_by (own := [("_law_k", 2)]) (N := ["_law_found", "_law_due", "_law_k"]) (sc := defScope s_law_same) (by decide +kernel)) (fun _ _ _ _ _ => (dgw_name sc_law_same.nd rfl (by first | exact Or.inl rfl | exact Or.inr rfl))) (fun _ _ _ _ _ => dts_nil) (fun _ _ _ _ _ => (de_call rc (hr.mono hk) T.g_law_same T.F_law_same.kp T.b_law_same takes0 (da_cons (de_ix (de_var 0) (de_var 2)) (da_cons (de_ix (de_var 1) (de_var 2)) da_nil))))) da_nil))))))))))
theorem ok_back_to (T : Tx K mg A) : FnOk P w K mg base (L2.CX P w) 1 A.a_back_to A.d_back_to ["one", "by"] (spF (Gx K) 2 m_back_to) := by
  refine fn_ok false T.F_back_to sc_back_to (fun cdv A1 outer s1 H1 E1 hr => ?_)
  exact (db_cons (ds_par (i := 2) (j := 3) sc_back_to.nd (da_cons (de_tup (da_cons (de_var 0) (da_cons de_int da_nil))) (da_cons (de_tup (da_cons (de_var 1) (da_cons de_int da_nil))) da_nil)))
  (db_cons (ds_while (fuelAt 3) fn_po (dt_cmp (do_ne hr.units) (de_ix (de_var 3) de_int) de_int) (db_cons (ds_set (i := 4) sc_back_to.nd (de_op do_div (de_ix (de_var 2) de_int) (de_ix (de_var 3) de_int)))
  (db_one (ds_par (i := 2) (j := 3) sc_back_to.nd (da_cons (de_var 3) (da_cons (de_tup (da_cons (de_op do_sub (de_ix (de_var 2) de_int) (de_op do_mul (de_var 4) (de_ix (de_var 3) de_int))) (da_cons (de_op do_sub (de_ix (de_var 2) de_int) (de_op do_mul (de_var 4) (de_ix (de_var 3) de_int))) da_nil))) da_nil))))))
  (db_one (ds_ret (de_op do_mul (de_ix (de_var 2) de_int) (de_ix (de_var 2) de_int))))))
theorem ok_common (T : Tx K mg A) : FnOk P w K mg base (L2.CX P w) 1 A.a_common A.d_common ["one", "other"] (spF (Gx K) 2 m_common) := by
  refine fn_ok false T.F_common sc_common (fun cdv A1 outer s1 H1 E1 hr => ?_)
  exact (db_cons (ds_par (i := 0) (j := 1) sc_common.nd (da_cons (de_callB (dc_abs) rfl T.z_abs boot_abs (da_cons (de_var 0) da_nil)) (da_cons (de_callB (dc_abs) rfl T.z_abs boot_abs (da_cons (de_var 1) da_nil)) da_nil)))
  (db_cons (ds_while (fuelAt 1) fn_po (dt_cmp do_gt (de_var 1) de_int) (db_one (ds_par (i := 0) (j := 1) sc_common.nd (da_cons (de_var 1) (da_cons (de_op do_mod (de_var 0) (de_var 1)) da_nil)))))
  (db_one (ds_ret (de_var 0)))))
theorem ok_solved (T : Tx K mg A) : FnOk P w K mg base (L2.CX P w) 2 A.a_solved A.d_solved ["factor", "number", "by"] (spF (Gx K) 3 m_solved) := by
  refine fn_ok false T.F_solved sc_solved (fun cdv A1 outer s1 H1 E1 hr => ?_)
  exact (db_cons (ds_set (i := 2) sc_solved.nd (de_callB (dc_abs) rfl T.z_abs boot_abs (da_cons (de_var 2) da_nil)))
  (db_cons (ds_set (i := 3) sc_solved.nd (de_call (ok_common T) (hr.mono (by decide)) T.g_common T.F_common.kp T.b_common fn_tk (da_cons (de_var 0) (da_cons (de_var 2) da_nil))))
  (db_cons (ds_if (dt_cmp (do_ne hr.units) (de_op do_mod (de_var 1) (de_var 3)) de_int) (db_one (ds_ret de_non)) db_nil)
  (db_cons (ds_set (i := 4) sc_solved.nd (de_op do_div (de_var 2) (de_var 3)))
  (db_one (ds_ret (de_tup (da_cons (de_if (dt_cmp do_gt (de_var 4) de_int) (de_op do_mod (de_op do_mul (de_op do_sub de_int (de_op do_div (de_var 1) (de_var 3))) (de_call (ok_back_to T) (hr.mono (by decide)) T.g_back_to T.F_back_to.kp T.b_back_to fn_tk (da_cons (de_op do_mod (de_op do_div (de_var 0) (de_var 3)) (de_var 4)) (da_cons (de_var 4) da_nil)))) (de_var 4)) de_int) (da_cons (de_var 4) da_nil)))))))))
theorem ok_law (T : Tx K mg A) : FnOk P w K mg base (L2.CX P w) 22 A.a_law A.d_law ["_law_script"] (spF (Gx K) 1 m_law) := by
  refine fn_ok true T.F_law sc_law (fun cdv A1 outer s1 H1 E1 hr => ?_)
  exact (db_cons (ds_set (i := 1) sc_law.nd (de_call (ok_law_flow T) (hr.mono (by decide)) T.g_law_flow T.F_law_flow.kp T.b_law_flow fn_tk (da_cons (de_var 0) da_nil)))
  (db_cons (ds_for fn_po (di_range1 T.z_range (da_cons (de_op do_add de_int (de_callB (dc_len) rfl T.z_len boot_len (da_cons (de_sl (de_var 0) dp_none (dp_some de_int)) da_nil))) da_nil)) (dg_name sc_law.nd rfl (by first | exact Or.inl rfl | exact Or.inr rfl)) (db_cons (ds_set (i := 3) sc_law.nd (de_op do_mul (de_call (ok_law_pick T) (hr.mono (by decide)) T.g_law_pick T.F_law_pick.kp T.b_law_pick fn_tk (da_cons (de_var 1) (da_cons (de_lst (da_cons de_int (da_cons (de_neg de_int) da_nil))) da_nil))) (de_op do_add de_int (de_call (ok_law_draw T) (hr.mono (by decide)) T.g_law_draw T.F_law_draw.kp T.b_law_draw fn_tk (da_cons (de_var 1) (da_cons de_int da_nil))))))
  (db_cons (ds_asg (de_tup (da_cons (de_op do_sub (de_call (ok_law_draw T) (hr.mono (by decide)) T.g_law_draw T.F_law_draw.kp T.b_law_draw fn_tk (da_cons (de_var 1) (da_cons de_int da_nil))) de_int) (da_cons (de_op do_sub (de_call (ok_law_draw T) (hr.mono (by decide)) T.g_law_draw T.F_law_draw.kp T.b_law_draw fn_tk (da_cons (de_var 1) (da_cons de_int da_nil))) de_int) da_nil))) (dg_tup (dgs_cons (dg_name sc_law.nd rfl (by first | exact Or.inl rfl | exact Or.inr rfl)) (dgs_cons (dg_name sc_law.nd rfl (by first | exact Or.inl rfl | exact Or.inr rfl)) dgs_nil))))
  (db_cons (ds_setLc [("_law_x", 7)] (i := 6) sc_law.nd (di_range1 T.z_range (da_cons (de_op do_mul de_int (de_callB (dc_abs) rfl T.z_abs boot_abs (da_cons (de_var 3) da_nil))) da_nil)) (blkOk_by (own := [("_law_x", 7)]) (N := ["_law_script", "_law_flow_here", "_law_turn", "_law_part", "_law_factor", "_law_number", "_law_good", "_law_x", "_law_due", "_law_great", "_law_wide", "_law_found"]) (sc := defScope s_law) (by decide +kernel)) (fun _ _ _ _ _ => (dgw_name sc_law.nd rfl (by first | exact Or.inl rfl | exact Or.inr rfl))) (fun _ _ _ _ _ => (dts_one (dt_cmp (do_eq hr.units) (de_op do_mod (de_op do_add (de_op do_mul (de_var 4) (de_var 7)) (de_var 5)) (de_var 3)) de_int))) (fun _ _ _ _ _ => (de_var 7)))
  (db_cons (ds_set (i := 8) sc_law.nd (de_if (dt_cmp (do_ne hr.units) (de_var 6) (de_lst da_nil)) (de_tup (da_cons (de_ix (de_var 6) de_int) (da_cons (de_op do_sub (de_ix (de_var 6) de_int) (de_ix (de_var 6) de_int)) da_nil))) de_non))
  (db_cons (ds_if (dt_not (dt_truth (de_call (ok_law_same T 20) (hr.mono (by decide)) T.g_law_same T.F_law_same.kp T.b_law_same fn_tk (da_cons (de_call (ok_solved T) (hr.mono (by decide)) T.g_solved T.F_solved.kp T.b_solved fn_tk (da_cons (de_var 4) (da_cons (de_var 5) (da_cons (de_var 3) da_nil)))) (da_cons (de_var 8) da_nil))))) (db_one (ds_ret de_bl)) db_nil)
  (db_cons (ds_set (i := 9) sc_law.nd (de_op do_add de_int (de_callB (dc_abs) rfl T.z_abs boot_abs (da_cons (de_call (ok_law_great_number T) (hr.mono (by decide)) T.g_law_great_number T.F_law_great_number.kp T.b_law_great_number fn_tk (da_cons (de_var 1) da_nil)) da_nil))))
  (db_cons (ds_set (i := 10) sc_law.nd (de_op do_sub (de_call (ok_law_draw T) (hr.mono (by decide)) T.g_law_draw T.F_law_draw.kp T.b_law_draw fn_tk (da_cons (de_var 1) (da_cons (de_op do_add (de_op do_mul de_int (de_op do_pow de_int de_int)) de_int) da_nil))) (de_op do_pow de_int de_int)))
  (db_cons (ds_set (i := 11) sc_law.nd (de_call (ok_solved T) (hr.mono (by decide)) T.g_solved T.F_solved.kp T.b_solved fn_tk (da_cons (de_var 10) (da_cons (de_op do_sub de_int (de_op do_mul (de_var 10) de_int)) (da_cons (de_var 9) da_nil)))))
  (db_cons (ds_if (dt_w (dw_or (dt_cmp do_is (de_var 11) de_non) (dw_or (dt_cmp (do_ne hr.units) (de_op do_mod (de_op do_sub (de_op do_mul (de_var 10) (de_ix (de_var 11) de_int)) (de_op do_mul (de_var 10) de_int)) (de_var 9)) de_int) (dw_or1 (dt_not (dt_chain do_le do_lt de_int (de_ix (de_var 11) de_int) (de_ix (de_var 11) de_int))))))) (db_one (ds_ret de_bl)) db_nil)
  (db_one (ds_if (dt_cmp (do_ne hr.units) (de_ix (de_var 11) de_int) (de_op do_div (de_var 9) (de_call (ok_law_gcd T) (hr.mono (by decide)) T.g_law_gcd T.F_law_gcd.kp T.b_law_gcd fn_tk (da_cons (de_var 10) (da_cons (de_var 9) da_nil))))) (db_one (ds_ret de_bl)) db_nil))))))))))))
  (db_one (ds_ret de_bl))))
end
end Lw

set_option Elab.async false
set_option linter.all false
set_option maxRecDepth 100000
set_option maxHeartbeats 4000000
set_option autoImplicit false
namespace Lw
open PySem Dv
/-! steps of our own words -/
local macro_rules | `(tactic| walk_at "num") => `(tactic| first | assumption | decide | omega)
local macro_rules | `(tactic| walk_at "dv0") => `(tactic| with_reducible first
  | refine v_seq ?_ | refine v_ifS ?_ | refine v_set ?_ | refine v_ret ?_ | refine v_asg ?_ | refine v_par ?_ | refine v_drop ?_ | refine v_nx ?_ | refine v_bk ?_ | refine v_ct ?_ | refine v_retN ?_ | refine v_for ?_
  | refine v_c ?_ | refine v_nil ?_ | refine v_cons ?_ | refine v_op ?_ | refine v_B ?_ | refine v_truth ?_ | refine v_andT ?_ | refine v_orT ?_ | refine v_notT ?_
  | refine v_andV ?_ | refine v_orV ?_ | refine v_notV ?_ | refine v_if ?_ | refine v_neg ?_ | refine v_chain ?_ | refine v_tup ?_ | refine v_lst ?_ | refine v_lstR ?_ | refine v_noPart ?_ | refine v_part ?_ | refine v_sl ?_
  | refine v_CB ?_ | refine v_call ?_ | refine v_abs ?_ | refine v_lc ?_ | refine v_yes ?_ | refine v_it ?_ | refine v_rng1 ?_ | refine v_rng2 ?_ | refine v_T ?_ | refine v_F ?_
  | refine v_add ?_ | refine v_sub ?_ | refine v_iadd ?_ | refine v_lt ?_ | refine v_le ?_ | refine v_gt ?_ | refine v_ge ?_ | refine v_eqI ?_ | refine v_neI ?_ | refine v_eqB ?_ | refine v_neB ?_)
local macro_rules | `(tactic| walk_at "dv1") => `(tactic| first
  | (with_reducible refine' v_var ?h ?_); (case h => rfl)
  | (with_reducible refine' v_aug ?h ?_); (case h => rfl)
  | (with_reducible refine' v_div ?h1 ?h2 ?_); (case h1 => walk_at "num"); (case h2 => walk_at "num")
  | (with_reducible refine' v_mod ?h1 ?_); (case h1 => walk_at "num")
  | (with_reducible refine' v_pow ?h1 ?_); (case h1 => walk_at "num")
  | (with_reducible refine' v_mulR ?h1 ?_); (case h1 => walk_at "num")
  | (with_reducible refine' v_mulL ?h1 ?_); (case h1 => walk_at "num")
  | (with_reducible refine' v_fin ?h1 ?_); (case h1 => first | exact Or.inl rfl | exact Or.inr rfl | (refine Or.inr ?_; simp only [List.length_set, *]; done))
  | (with_reducible refine' v_ix ?h1 ?_); (case h1 => first | exact ixD_ref (by assumption) (by rfl) | rfl)
  | (with_reducible refine' v_len ?h1 ?_); (case h1 => first | exact lenD_ref (by assumption) | rfl)
  | (with_reducible refine' v_list ?h1 ?_); (case h1 => rfl)
  | (with_reducible refine' v_listR ?h1 ?_); (case h1 => rfl)
  | (with_reducible refine' v_tuple ?h1 ?_); (case h1 => rfl)
  | (with_reducible refine' v_isd ?h1 ?_); (case h1 => rfl)
  | (with_reducible refine' v_isiTy ?h1 ?h2 ?_); (case h1 => rfl); (case h2 => rfl)
  | (with_reducible refine' v_isiT ?h1 ?_); (case h1 => rfl))
local macro_rules | `(tactic| walk_at "dv2") => `(tactic| first
  | refine v_gsub (by rfl) (by rfl) (by assumption) (by rfl) (fun _ _ _ => ?_) | refine ⟨_, rfl, ?_⟩ | (with_reducible refine' ⟨rng_ok ?h1 ?h2, ?_⟩); (case h1 => omega); (case h2 => omega) | refine ⟨rfl, ?_⟩ | refine ⟨_, _, rfl, ?_⟩ | refine ⟨Nat.le_of_ble_eq_true rfl, ?_⟩)
local macro_rules | `(tactic| walk_at "dv3") => `(tactic| first
  | (with_reducible refine' v_dec (fun _ => ?_) (fun hn => absurd ?h hn)); (case h => first | assumption | omega | decide)
  | (with_reducible refine' v_dec (fun hn => absurd hn ?h) (fun _ => ?_)); (case h => first | assumption | omega | decide)
  | (with_reducible refine' v_ndec (fun _ => ?_) (fun hn => absurd hn ?h)); (case h => first | assumption | omega | decide)
  | (with_reducible refine' v_ndec (fun hn => absurd ?h hn) (fun _ => ?_)); (case h => first | assumption | omega | decide)
  | (with_reducible refine' v_bT ?h ?_); (case h => first | assumption | rfl)
  | (with_reducible refine' v_bF ?h ?_); (case h => first | assumption | rfl))
local macro_rules | `(tactic| walk_at "dv") => `(tactic| repeat (first | walk_at "dv0" | walk_at "dv1" | walk_at "dv3" | walk_at "dv2"))

structure Fw where
  cells : List Int
  pos : Nat
  rest : Nat
  base : Nat
abbrev Fw.ds (f : Fw) : List Dt := [.lst (f.cells.map Dt.int), .int f.pos, .int f.rest, .int f.base]
abbrev Fw.ob (f : Fw) : Ob := .lst f.ds
/-- a draw gives a number from 0 on, below the size; the flow stays a flow -/
def Drawn (S : Store) (i : Nat) (n : Int) (d : Dt) (S' : Store) : Prop := ∃ (v : Int) (f' : Fw), d = .int v ∧ 0 ≤ v ∧ v < n ∧ f'.base < 2147483647 ∧ S' = S.set i f'.ob
theorem draw_rest {S : Store} {i : Nat} {f : Fw} {n : Int} (hS : S[i]? = some f.ob) (hn : 0 < n) (hl : n.natAbs.log2 < 9000) (h : 0 < f.rest) (hb : f.base < 2147483647) :
    Pe (m_law_draw [.ref i, .int n] S) (Drawn S i n) X0 := by
  refine v_fn ?_
  unfold b_law_draw
  walk_at "dv"
  refine ⟨_, { f with rest := ((f.rest : Int).fdiv n).toNat }, rfl, Int.fmod_nonneg_of_pos _ hn, Int.fmod_lt_of_pos _ hn, hb, ?_⟩
  rename_i S1 e1 e2
  rw [e1]
  have z : ((((f.rest : Int).fdiv n).toNat : Nat) : Int) = (f.rest : Int).fdiv n := Int.toNat_of_nonneg (Int.fdiv_nonneg (by omega) (by omega))
  simp [Fw.ob, Fw.ds, z]
theorem nil_list {α : Type} {a b : List α} (h : a = b) : a = b := h
theorem draw_cell {S : Store} {i : Nat} {f : Fw} {n : Int} (hS : S[i]? = some f.ob) (hn : 0 < n) (hl : n.natAbs.log2 < 9000) (h : f.rest = 0) (hb : f.base < 2147483647) :
    Pe (m_law_draw [.ref i, .int n] S) (Drawn S i n) X0 := by
  -- what both ways come to
  have fin1 : ∀ (S1 S2 : Store) (x r : Int), S1 = S.set i (.lst (f.ds.set (Int.toNat 1) (.int (f.pos + 1)))) → S2 = S1.set i (.lst ((f.ds.set (Int.toNat 1) (.int (f.pos + 1))).set (Int.toNat 3) (.int (x.fmod 2147483647)))) → Drawn S i n (.int (r.fmod n)) S2 := by
    intro S1 S2 x r e1 e2
    have h0 := Int.fmod_nonneg_of_pos x (b := 2147483647) (by decide)
    have h1 := Int.fmod_lt_of_pos x (b := 2147483647) (by decide)
    refine ⟨_, { f with pos := f.pos + 1, base := (x.fmod 2147483647).toNat }, rfl, Int.fmod_nonneg_of_pos _ hn, Int.fmod_lt_of_pos _ hn, ?_, ?_⟩
    · show (x.fmod 2147483647).toNat < 2147483647
      omega
    · rw [e2, e1, List.set_set]
      simp [Fw.ob, Fw.ds, Int.toNat_of_nonneg h0]
  have fin2 : ∀ (S1 S2 : Store) (a : Int), 0 ≤ a → S1 = S.set i (.lst (f.ds.set (Int.toNat 1) (.int (f.pos + 1)))) → S2 = S1.set i (.lst ((f.ds.set (Int.toNat 1) (.int (f.pos + 1))).set (Int.toNat 2) (.int (a.fdiv n)))) → Drawn S i n (.int (a.fmod n)) S2 := by
    intro S1 S2 a h0 e1 e2
    refine ⟨_, { f with pos := f.pos + 1, rest := (a.fdiv n).toNat }, rfl, Int.fmod_nonneg_of_pos _ hn, Int.fmod_lt_of_pos _ hn, hb, ?_⟩
    have z : (((a.fdiv n).toNat : Nat) : Int) = a.fdiv n := Int.toNat_of_nonneg (Int.fdiv_nonneg h0 (by omega))
    rw [e2, e1, List.set_set]
    simp [Fw.ob, Fw.ds, z]
  refine v_fn ?_
  unfold b_law_draw
  walk_at "dv"
  refine v_dec (fun hc => ?_) (fun hc => ?_)
  · obtain ⟨c, hcell⟩ : ∃ c, (f.cells.map Dt.int)[f.pos]? = some (.int c) := ⟨f.cells[f.pos]'(by simpa using hc), by simp⟩
    walk_at "dv"
    refine v_ix (atI_in hcell) ?_
    walk_at "dv"
    refine v_dec (fun hg => ?_) (fun hg => ?_)
    · walk_at "dv"
      exact fin2 _ _ _ (by split <;> omega) (by assumption) (by assumption)
    · walk_at "dv"
      exact fin1 _ _ _ _ (by assumption) (by assumption)
  · walk_at "dv"
    exact fin1 _ _ _ _ (by assumption) (by assumption)
theorem draw_spec {S : Store} {i : Nat} {f : Fw} {n : Int} (hS : S[i]? = some f.ob) (hb : f.base < 2147483647) (hn : 0 < n) (hl : n.natAbs.log2 < 9000) : Pe (m_law_draw [.ref i, .int n] S) (Drawn S i n) X0 := by
  by_cases h : 0 < f.rest
  · exact draw_rest hS hn hl h hb
  · exact draw_cell hS hn hl (by omega) hb

/-! ### the flow in a store -/
def FlowAt (S : Store) (i : Nat) : Prop := ∃ f : Fw, S[i]? = some f.ob ∧ f.base < 2147483647
/-- a store that differs in the flow alone -/
structure Fz (i : Nat) (S S' : Store) : Prop where
  len : S'.length = S.length
  oth : ∀ j : Nat, j ≠ i → S'[j]? = S[j]?
  flow : FlowAt S' i
theorem Fz.refl {i : Nat} {S : Store} (h : FlowAt S i) : Fz i S S := ⟨rfl, fun _ _ => rfl, h⟩
theorem Fz.trans {i : Nat} {S S1 S2 : Store} (a : Fz i S S1) (b : Fz i S1 S2) : Fz i S S2 := ⟨b.len.trans a.len, fun j h => (b.oth j h).trans (a.oth j h), b.flow⟩
theorem draw_fz {S : Store} {i : Nat} {n : Int} {Q : Dt → Store → Prop} {X : Ex → Store → Prop} (hF : FlowAt S i) (hn : 0 < n) (hl : n.natAbs.log2 < 9000) (q : ∀ v S', 0 ≤ v → v < n → Fz i S S' → Q (.int v) S') : Pe (m_law_draw [.ref i, .int n] S) Q X := by
  obtain ⟨f, h1, h2⟩ := hF
  refine (draw_spec h1 h2 hn hl).imp (fun d S' ⟨v, f', e, v0, v1, b, eS⟩ => ?_) fun _ _ z => z.elim
  subst e
  have hi := (List.getElem?_eq_some_iff.mp h1).1
  subst eS
  exact q v _ v0 v1 ⟨by simp, fun j hj => List.getElem?_set_ne (Ne.symm hj), f', List.getElem?_set_self hi, b⟩
theorem pick_fz {S : Store} {i : Nat} {ds : List Dt} {Q : Dt → Store → Prop} {X : Ex → Store → Prop} (hF : FlowAt S i) (h0 : 0 < ds.length) (h1 : ds.length < 2 ^ 64) (q : ∀ d S', d ∈ ds → Fz i S S' → Q d S') : Pe (m_law_pick [.ref i, .lst ds] S) Q X := by
  refine v_fn ?_
  unfold b_law_pick
  walk_at "dv"
  refine draw_fz hF (by omega) ?_ fun v S' v0 v1 hz => ?_
  · have := Nat.log2_lt (n := ds.length) (k := 64) (by omega)
    simp only [Int.natAbs_natCast]
    omega
  · have hv : v.toNat < ds.length := by omega
    refine v_ix (d := ds[v.toNat]) ?_ ?_
    · have z : L2.atI ds ((v.toNat : Nat) : Int) = some ds[v.toNat] := atI_in (by simp [hv])
      rw [Int.toNat_of_nonneg v0] at z
      exact z
    · walk_at "dv"
      refine v_fin (.inr hz.len) ?_
      exact q _ _ (List.getElem_mem hv) hz
/-! the law -/
theorem cut_take {α : Type} (xs : List α) (k : Nat) : cutA xs none (some (k : Int)) = xs.take k := by
  unfold cutA
  rw [HT.sIx_nat, HT.sIx_none]
  simp only [List.drop_zero, Nat.sub_zero, Nat.min_def]
  split
  · rfl
  · rw [List.take_length, List.take_of_length_le (by omega)]
theorem flow_new {S : Store} {ns : List Int} {Q : Dt → Store → Prop} {X : Ex → Store → Prop} (q : ∀ S', S'.length = S.length + 1 → (∀ j : Nat, j < S.length → S'[j]? = S[j]?) → FlowAt S' S.length → Q (.ref S.length) S') : Pe (m_law_flow [.fz (ns.map Dt.int)] S) Q X := by
  refine v_fn ?_
  unfold b_law_flow
  walk_at "dv"
  refine q _ (by simp) (fun j hj => List.getElem?_append_left hj) ⟨⟨ns.take 63, 0, 0, 23⟩, ?_, show 23 < 2147483647 by decide⟩
  have e : cutA (List.map Dt.int ns) none (some 63) = (ns.take 63).map Dt.int := by
    rw [show (63 : Int) = ((63 : Nat) : Int) from rfl, cut_take, List.map_take]
  rw [List.getElem?_append_right (Nat.le_refl _), Nat.sub_self, e]
  rfl
theorem great_fz {S : Store} {i : Nat} {Q : Dt → Store → Prop} {X : Ex → Store → Prop} (hF : FlowAt S i) (q : ∀ v S', -(10 ^ 29) ≤ v → v ≤ 10 ^ 29 → Fz i S S' → Q (.int v) S') : Pe (m_law_great_number [.ref i] S) Q X := by
  refine v_fn ?_
  unfold b_law_great_number
  walk_at "dv"
  refine pick_fz hF (Nat.le_of_ble_eq_true rfl) (Nat.le_of_ble_eq_true rfl) fun d S1 hd z1 => ?_
  obtain ⟨n, rfl, n0, n1⟩ : ∃ n : Int, d = .int n ∧ 0 < n ∧ n ≤ 10 ^ 29 := by
    simp only [List.mem_cons, List.not_mem_nil, or_false] at hd
    rcases hd with rfl | rfl | rfl | rfl
    · exact ⟨_, rfl, by decide, by decide⟩
    · exact ⟨_, rfl, by decide, by decide⟩
    · exact ⟨_, rfl, by decide, by decide⟩
    · exact ⟨_, rfl, by decide, by decide⟩
  walk_at "dv"
  refine draw_fz z1.flow (by omega) ?_ fun v S2 v0 v1 z2 => ?_
  · have h : (2 * n + 1).natAbs < 2 ^ 200 := by omega
    have := Nat.log2_lt (n := (2 * n + 1).natAbs) (k := 200) (by omega)
    omega
  · walk_at "dv"
    have z := z1.trans z2
    refine v_fin (.inr z.len) ?_
    exact q _ _ (by omega) (by omega) z
/-! ### the same data are the same -/
theorem all_true : ∀ n : Nat, bools (List.replicate n (Dt.bl true)) = some (List.replicate n true)
  | 0 => rfl
  | n + 1 => by
    rw [List.replicate_succ, List.replicate_succ]
    show (bools (List.replicate n (Dt.bl true))).map (true :: ·) = _
    rw [all_true n]
    rfl
theorem range_mem {n : Nat} {d : Dt} (h : d ∈ rangeD 0 n) : ∃ k : Nat, k < n ∧ d = .int (0 + (k : Int)) := by
  unfold rangeD at h
  obtain ⟨k, hk, rfl⟩ := List.mem_map.mp h
  exact ⟨k, List.mem_range.mp hk, rfl⟩
theorem range_const (n : Nat) (x : Dt) : (rangeD 0 n).filterMap (fun _ => some x) = List.replicate n x := by
  unfold rangeD
  rw [List.filterMap_map]
  have e : ((fun _ => some x) ∘ fun (k : Nat) => Dt.int (0 + (k : Int))) = (fun k => some ((fun _ : Nat => x) k)) := rfl
  rw [e, List.filterMap_eq_map']
  simp [List.map_const']
theorem same_seq {S : Store} {k : Nat} {ds : List Dt} {x : Dt} (hx : x = .tup ds ∨ x = .lst ds) (hn : ds.length ≤ 100000) (ih : ∀ d ∈ ds, m_law_same k [d, d] S = .ok (.bl true) S) : Pe (m_law_same (k + 1) [x, x] S) (fun d S' => d = .bl true ∧ S' = S) X0 := by
  refine v_fn ?_
  unfold b_law_same
  have elem : ∀ (x : Dt) (j : Nat) (e1 : Dv.Env), (x = .tup ds ∨ x = .lst ds) → j < ds.length → e1 = [some x, some x, some (.int (0 + (j : Int)))] → Pe (mCall 2 (m_law_same k) (mCons (mOp mIx (mVar 0) (mVar 2)) (mCons (mOp mIx (mVar 1) (mVar 2)) mNil)) e1 S) (fun x S2 => S2 = S ∧ some (Dt.bl true) = some x) X0 := by
    intro x j e1 hx hj he
    subst he
    have ej : ds[j]? = some ds[j] := by simp [hj]
    have z : L2.atI ds (0 + (j : Int)) = some ds[j] := by
      rw [Int.zero_add]
      exact atI_in ej
    have zz : ixD S x (0 + (j : Int)) = some ds[j] := by rcases hx with rfl | rfl <;> exact z
    walk_at "dv"
    refine v_ix zz ?_
    walk_at "dv"
    refine v_ix zz ?_
    walk_at "dv"
    exact Pe.of (ih _ (List.getElem_mem hj)) ⟨rfl, rfl⟩
  have rest : ∀ {x : Dt} {en : Dv.Env} {Q : List Dt → Store → Prop} {X : Ex → Store → Prop}, (x = .tup ds ∨ x = .lst ds) → en = [some x, some x, none] → Q (List.replicate ds.length (.bl true)) S → Pe (cLoop (wNm 2) mYes
      (mCall 2 (m_law_same k) (mCons (mOp mIx (mVar 0) (mVar 2)) (mCons (mOp mIx (mVar 1) (mVar 2)) mNil))) en (rangeD 0 (ds.length : Int).toNat) [] S) Q X := by
    intro x en Q X hx he q
    subst he
    refine v_cloop (fun _ => some (.bl true)) (fun d hd => ?_) ?_ ?_
    · obtain ⟨j, hj, rfl⟩ := range_mem hd
      refine ⟨_, rfl, v_yes ⟨rfl, v_T ?_⟩⟩
      exact elem x j _ hx (by simpa using hj) rfl
    · simp [rangeD]
      omega
    · rw [List.nil_append, Int.toNat_natCast, range_const]
      exact q
  have fin : ∀ {Q : Dt → Store → Prop} {X : Ex → Store → Prop}, Q (.bl true) S → Pe (mAll [.lst (List.replicate ds.length (.bl true))] S) Q X := by
    intro Q X q
    unfold mAll
    simp only [asL, Option.bind_some, all_true]
    refine v_ok ?_
    have e : (List.replicate ds.length true).all (fun b => b) = true := by simp
    rw [e]
    exact q
  rcases hx with rfl | rfl
  · walk_at "dv"
    refine rest (.inl rfl) rfl ?_
    walk_at "dv"
    refine fin ?_
    walk_at "dv"
    rfl
  · walk_at "dv"
    refine rest (.inr rfl) rfl ?_
    walk_at "dv"
    refine fin ?_
    walk_at "dv"
    rfl
theorem same_int {S : Store} {k : Nat} {i : Int} : m_law_same (k + 1) [.int i, .int i] S = .ok (.bl true) S := by
  refine Pe.eq ?_
  refine v_fn ?_
  unfold b_law_same
  walk_at "dv"
  simp
theorem same_ints {S : Store} {k : Nat} {x : Dt} {ns : List Int} (hx : x = .tup (ns.map Dt.int) ∨ x = .lst (ns.map Dt.int)) (hn : ns.length ≤ 100000) : m_law_same (k + 2) [x, x] S = .ok (.bl true) S := by
  refine Pe.eq (same_seq hx (by simpa using hn) fun d hd => ?_)
  obtain ⟨i, _, rfl⟩ := List.mem_map.mp hd
  exact same_int
/-! ### the greatest common measure -/
theorem log2_200 {n : Nat} (h : n < 2 ^ 200) : n.log2 < 200 := by
  by_cases h0 : n = 0
  · subst h0
    decide
  · exact (Nat.log2_lt h0).mpr h
theorem log2_of {n : Nat} (k : Nat) (h : n < 2 ^ k) (hk : 0 < k) : n.log2 < k := by
  by_cases h0 : n = 0
  · subst h0
    rw [show Nat.log2 0 = 0 from by decide]
    exact hk
  · exact (Nat.log2_lt h0).mpr h
theorem abs_if (a : Int) : (if a < 0 then -a else a) = (a.natAbs : Int) := by split <;> omega
theorem cast_fmod (m k : Nat) : ((m : Int).fmod (k : Int)) = ((m % k : Nat) : Int) := by
  rw [Int.fmod_eq_emod_of_nonneg _ (by omega)]
  rfl
theorem gcd_step {m k g : Nat} (h : Nat.gcd m k = g) : Nat.gcd k (m % k) = g := by
  rw [← h, Nat.gcd_comm m k, Nat.gcd_rec k m, Nat.gcd_comm]
theorem common_eq {S : Store} {a b : Int} : m_common [.int a, .int b] S = .ok (.int (Nat.gcd a.natAbs b.natAbs)) S := by
  refine Pe.eq ?_
  refine v_fn ?_
  unfold b_common
  walk_at "dv"
  rw [abs_if, abs_if]
  refine v_while (fun n en S' => S' = S ∧ ∃ x y : Nat, en = [some (.int x), some (.int y)] ∧ Nat.gcd x y = Nat.gcd a.natAbs b.natAbs ∧ y < n) ?_ ?_
  · exact ⟨rfl, _, _, rfl, rfl, by simp [fuelAt]⟩
  · rintro n en S' ⟨rfl, x, y, rfl, hg, hn⟩
    refine ⟨n - 1, by omega, ?_⟩
    walk_at "dv"
    refine v_dec (fun h => ?_) (fun h => ?_)
    · walk_at "dv"
      rw [cast_fmod]
      have hl := Nat.mod_lt x (y := y) (by omega)
      exact ⟨_, _, rfl, gcd_step hg, by omega⟩
    · walk_at "dv"
      have hy : y = 0 := by omega
      subst hy
      rw [Nat.gcd_zero_right] at hg
      rw [hg]
      exact ⟨rfl, rfl⟩
theorem lgcd_eq {S : Store} {a b : Int} : m_law_gcd [.int a, .int b] S = .ok (.int (Nat.gcd a.natAbs b.natAbs)) S := by
  refine Pe.eq ?_
  refine v_fn ?_
  unfold b_law_gcd
  walk_at "dv"
  rw [abs_if, abs_if]
  refine v_while (fun n en S' => S' = S ∧ ∃ x y : Nat, en = [some (.int x), some (.int y)] ∧ Nat.gcd x y = Nat.gcd a.natAbs b.natAbs ∧ y < n) ?_ ?_
  · exact ⟨rfl, _, _, rfl, rfl, by simp [fuelAt]⟩
  · rintro n en S' ⟨rfl, x, y, rfl, hg, hn⟩
    refine ⟨n - 1, by omega, ?_⟩
    walk_at "dv"
    refine v_ndec (fun h => ?_) (fun h => ?_)
    · walk_at "dv"
      rw [cast_fmod]
      have hl := Nat.mod_lt x (y := y) (by omega)
      exact ⟨_, _, rfl, gcd_step hg, by omega⟩
    · walk_at "dv"
      have hy : y = 0 := by omega
      subst hy
      rw [Nat.gcd_zero_right] at hg
      rw [hg]
      exact ⟨rfl, rfl⟩
/-! ### what makes one -/
/-- a row of two pairs of the law of rests -/
structure Eu (one by' a b : Nat) (x y : Int) : Prop where
  g : Nat.gcd a b = Nat.gcd one by'
  pos : 1 ≤ a
  dx : (by' : Int) ∣ x * one - a
  dy : (by' : Int) ∣ y * one - b
  sum : x.natAbs * b + y.natAbs * a = by'
  sgn : (0 ≤ x ∧ y ≤ 0) ∨ (x ≤ 0 ∧ 0 ≤ y)
theorem Eu.start {one by' : Nat} (h : 1 ≤ one) : Eu one by' one by' 1 0 :=
  ⟨rfl, h, by simp, ⟨-1, by simp⟩, by simp, .inl ⟨by decide, by decide⟩⟩
theorem Eu.yle {one by' a b : Nat} {x y : Int} (h : Eu one by' a b x y) : y.natAbs ≤ by' := by
  have h1 := h.sum
  have h2 : y.natAbs * 1 ≤ y.natAbs * a := Nat.mul_le_mul_left _ h.pos
  omega
theorem Eu.xle {one by' a b : Nat} {x y : Int} (h : Eu one by' a b x y) (hb : b ≠ 0) : x.natAbs ≤ by' := by
  have h1 := h.sum
  have h2 : x.natAbs * 1 ≤ x.natAbs * b := Nat.mul_le_mul_left _ (by omega)
  omega
theorem Eu.step {one by' a b : Nat} {x y : Int} (h : Eu one by' a b x y) (hb : b ≠ 0) : Eu one by' b (a % b) y (x - ((a / b : Nat) : Int) * y) := by
  have hs : (x - ((a / b : Nat) : Int) * y).natAbs = x.natAbs + (a / b) * y.natAbs ∧ ((0 ≤ y ∧ x - ((a / b : Nat) : Int) * y ≤ 0) ∨ (y ≤ 0 ∧ 0 ≤ x - ((a / b : Nat) : Int) * y)) := by
    have e : (((a / b : Nat) : Int) * y).natAbs = (a / b) * y.natAbs := by rw [Int.natAbs_mul]; rfl
    have hq : (0 : Int) ≤ ((a / b : Nat) : Int) := Int.natCast_nonneg _
    rcases h.sgn with ⟨h1, h2⟩ | ⟨h1, h2⟩
    · have h3 : ((a / b : Nat) : Int) * y ≤ 0 := Int.mul_nonpos_of_nonneg_of_nonpos hq h2
      exact ⟨by omega, .inr ⟨h2, by omega⟩⟩
    · have h3 : 0 ≤ ((a / b : Nat) : Int) * y := Int.mul_nonneg hq h2
      exact ⟨by omega, .inl ⟨h2, by omega⟩⟩
  have hm : b * (a / b) + a % b = a := Nat.div_add_mod a b
  refine ⟨(gcd_step rfl).trans h.g, by omega, h.dy, ?_, ?_, hs.2⟩
  · have e : (x - ((a / b : Nat) : Int) * y) * one - ((a % b : Nat) : Int) = (x * one - a) - ((a / b : Nat) : Int) * (y * one - b) := by
      have hm' : (b : Int) * ((a / b : Nat) : Int) + ((a % b : Nat) : Int) = a := by exact_mod_cast hm
      rw [Int.sub_mul, Int.mul_sub, Int.mul_assoc, ← hm', Int.mul_comm ((a / b : Nat) : Int) (b : Int)]
      omega
    rw [e]
    exact Int.dvd_sub h.dx (Int.dvd_trans h.dy (Int.dvd_mul_left _ _))
  · rw [hs.1]
    have h1 := h.sum
    have h2 : (x.natAbs + a / b * y.natAbs) * b = x.natAbs * b + y.natAbs * (b * (a / b)) := by
      rw [Nat.add_mul, Nat.mul_assoc, Nat.mul_left_comm, Nat.mul_comm (a / b) b]
    have h3 : y.natAbs * a = y.natAbs * (b * (a / b)) + y.natAbs * (a % b) := by rw [← Nat.mul_add, hm]
    omega
theorem Eu.done {one by' a : Nat} {x y : Int} (h : Eu one by' a 0 x y) (hg : Nat.gcd one by' = 1) : a = 1 ∧ (by' : Int) ∣ x * one - 1 := by
  have h1 := h.g
  rw [Nat.gcd_zero_right, hg] at h1
  subst h1
  exact ⟨rfl, h.dx⟩
theorem dvd_log {k : Int} {n : Nat} (h : n ≠ 0) : True := trivial
/-- what solves a likeness -/
structure Sol (f n b x s : Int) : Prop where
  lo : 0 ≤ x
  hi : x < s
  put : b ∣ f * x + n
  step : s * (Nat.gcd f.natAbs b.natAbs : Int) = b.natAbs
theorem cop_dvd {f x s : Int} (h : Nat.gcd f.natAbs s.natAbs = 1) (d : s ∣ f * x) : s ∣ x := by
  have d1 := Int.natAbs_dvd_natAbs.mpr d
  rw [Int.natAbs_mul] at d1
  exact Int.natAbs_dvd_natAbs.mp ((show Nat.Coprime s.natAbs f.natAbs by rw [Nat.Coprime, Nat.gcd_comm]; exact h).dvd_of_dvd_mul_left d1)
/-- where the measure does not go into the number, nothing solves it -/
theorem no_sol {f n b x : Int} (h : ¬ (Nat.gcd f.natAbs b.natAbs : Int) ∣ n) : ¬ b ∣ f * x + n := fun d => h (by
  have h1 : (Nat.gcd f.natAbs b.natAbs : Int) ∣ f := Int.ofNat_dvd_left.mpr (Nat.gcd_dvd_left _ _)
  have h2 : (Nat.gcd f.natAbs b.natAbs : Int) ∣ b := Int.ofNat_dvd_left.mpr (Nat.gcd_dvd_right _ _)
  have h3 := Int.dvd_sub (Int.dvd_trans h2 d) (Int.dvd_mul_of_dvd_left (c := x) h1)
  have e : f * x + n - f * x = n := by omega
  rwa [e] at h3)
/-- the parts of a likeness -/
theorem parts {f b : Int} (hb : b ≠ 0) : ∃ g s : Nat, ∃ f' : Int, g = Nat.gcd f.natAbs b.natAbs ∧ g ≠ 0 ∧ s ≠ 0 ∧ f = g * f' ∧ b.natAbs = g * s ∧ Nat.gcd f'.natAbs s = 1 ∧ f.fdiv g = f' ∧ (b.natAbs : Int).fdiv g = s := by
  have hg : Nat.gcd f.natAbs b.natAbs ≠ 0 := Nat.gcd_ne_zero_right (by omega)
  obtain ⟨f', hf⟩ : (Nat.gcd f.natAbs b.natAbs : Int) ∣ f := Int.ofNat_dvd_left.mpr (Nat.gcd_dvd_left _ _)
  obtain ⟨s, hs⟩ := Nat.gcd_dvd_right f.natAbs b.natAbs
  have hs0 : s ≠ 0 := fun z => by subst z; rw [Nat.mul_zero] at hs; omega
  have hc := Nat.coprime_div_gcd_div_gcd (m := f.natAbs) (n := b.natAbs) (by omega)
  generalize hG : Nat.gcd f.natAbs b.natAbs = g at *
  refine ⟨g, s, f', rfl, hg, hs0, hf, hs, ?_, ?_, ?_⟩
  · have e1 : f.natAbs / g = f'.natAbs := by rw [hf, Int.natAbs_mul, Int.natAbs_natCast, Nat.mul_div_cancel_left _ (by omega)]
    have e2 : b.natAbs / g = s := by rw [hs, Nat.mul_div_cancel_left _ (by omega)]
    rw [e1, e2] at hc
    exact hc
  · rw [hf, Int.mul_fdiv_cancel_left _ (by omega)]
  · rw [hs, Int.natCast_mul, Int.mul_fdiv_cancel_left _ (by omega)]
/-- all that solves it -/
theorem Sol.all {f n b x s y : Int} (h : Sol f n b x s) (hb : b ≠ 0) : b ∣ f * y + n ↔ s ∣ y - x := by
  obtain ⟨g, s', f', hg, g0, s0, hf, hs, hc, _, _⟩ := parts (f := f) hb
  have e : s = s' := by
    have h1 := h.step
    rw [← hg, hs, Int.natCast_mul, Int.mul_comm] at h1
    exact Int.eq_of_mul_eq_mul_left (by omega) h1
  subst e
  have k1 : b ∣ f * y + n ↔ b ∣ f * (y - x) := by
    have e : f * y + n = (f * x + n) + f * (y - x) := by rw [Int.mul_sub]; omega
    rw [e, Int.dvd_add_right h.put]
  rw [k1, ← Int.natAbs_dvd, hs, Int.natCast_mul, hf, Int.mul_assoc]
  constructor
  · intro d
    have := Int.dvd_of_mul_dvd_mul_left (by omega) d
    exact cop_dvd (by simpa using hc) this
  · intro d
    exact Int.mul_dvd_mul_left _ (Int.dvd_trans d (Int.dvd_mul_left _ _))
theorem sol_mk {f n b k : Int} {g s : Nat} {f' : Int} (hb : b ≠ 0) (hg : g = Nat.gcd f.natAbs b.natAbs) (g0 : g ≠ 0) (s0 : s ≠ 0) (hf : f = g * f') (hs : b.natAbs = g * s) (hn : n = g * k) {back : Int} (hk : (s : Int) ∣ back * (f'.fmod s) - 1) :
    Sol f n b (((0 - k) * back).fmod s) s := by
  have hp : (0 : Int) < s := by omega
  refine ⟨Int.fmod_nonneg_of_pos _ hp, Int.fmod_lt_of_pos _ hp, ?_, by rw [← hg, hs, Int.natCast_mul, Int.mul_comm]⟩
  rw [← Int.natAbs_dvd, hs, Int.natCast_mul, hf, hn, Int.mul_assoc, ← Int.mul_add]
  refine Int.mul_dvd_mul_left _ ?_
  -- s | f' * x + k
  have h1 : (s : Int) ∣ f' - f'.fmod s := ⟨f'.fdiv s, by have := Int.mul_fdiv_add_fmod f' s; omega⟩
  have h2 : (s : Int) ∣ (0 - k) * back - ((0 - k) * back).fmod s := ⟨((0 - k) * back).fdiv s, by have := Int.mul_fdiv_add_fmod ((0 - k) * back) s; omega⟩
  generalize ((0 - k) * back).fmod s = x at *
  generalize f'.fmod s = F at *
  have a1 : (s : Int) ∣ (f' - F) * x := Int.dvd_mul_of_dvd_left h1
  have a2 : (s : Int) ∣ F * ((0 - k) * back - x) := Int.dvd_mul_of_dvd_right h2
  have a3 : (s : Int) ∣ (0 - k) * (back * F - 1) := Int.dvd_mul_of_dvd_right hk
  have e : f' * x + k = (f' - F) * x - F * ((0 - k) * back - x) + (0 - k) * (back * F - 1) := by
    rw [Int.sub_mul, Int.mul_sub, Int.mul_sub, Int.mul_left_comm, Int.mul_comm F back, Int.mul_comm F x]
    rw [Int.mul_one]
    rw [Int.mul_comm x F]
    omega
  rw [e]
  exact Int.dvd_add (Int.dvd_sub a1 a2) a3
theorem sol_one {f n b k : Int} {g : Nat} (hg : g = Nat.gcd f.natAbs b.natAbs) (hs : b.natAbs = g * 1) (hn : n = g * k) : Sol f n b 0 1 := by
  refine ⟨by decide, by decide, ?_, by rw [← hg, hs]; simp⟩
  rw [← Int.natAbs_dvd, hs, hn, Int.mul_zero, Int.zero_add]
  simp
theorem log2_le {n b : Nat} (hb : b < 2 ^ 200) (h : n ≤ b) : n.log2 < 200 := log2_200 (by omega)
theorem cast_fdiv (a b : Nat) : (a : Int).fdiv (b : Int) = ((a / b : Nat) : Int) := by
  rw [Int.fdiv_eq_ediv_of_nonneg _ (by omega)]
  rfl
theorem back_eq {S : Store} {one by' : Nat} (h1 : 1 ≤ one) (hl : one < by') (hg : Nat.gcd one by' = 1) (hb : by' < 2 ^ 200) {Q : Dt → Store → Prop} {X : Ex → Store → Prop}
    (q : ∀ k : Int, (by' : Int) ∣ k * one - 1 → k.natAbs ≤ by' → Q (.int k) S) : Pe (m_back_to [.int one, .int by'] S) Q X := by
  refine v_fn ?_
  unfold b_back_to
  walk_at "dv"
  refine v_while (fun n en S' => S' = S ∧ ∃ (a b : Nat) (x y : Int) (m : Option Dt), en = [some (.int one), some (.int by'), some (.tup [.int a, .int x]), some (.tup [.int b, .int y]), m] ∧ Eu one by' a b x y ∧ a ≤ by' ∧ b ≤ by' ∧ x.natAbs ≤ by' ∧ b < n) ?_ ?_
  · exact ⟨rfl, _, _, _, _, _, rfl, Eu.start h1, by omega, Nat.le_refl _, by simp; omega, by simp [fuelAt]⟩
  · rintro n en S' ⟨rfl, a, b, x, y, m, rfl, he, ha, hbb, hx, hn⟩
    refine ⟨n - 1, by omega, ?_⟩
    walk_at "dv"
    refine v_ndec (fun h => ?_) (fun h => ?_)
    · have hb0 : b ≠ 0 := by omega
      have l1 : (((b : Nat) : Int)).natAbs.log2 < 9000 := by
        have := log2_le hb hbb
        simp only [Int.natAbs_natCast]
        omega
      walk_at "dv"
      rw [cast_fdiv]
      have hq : ((a / b : Nat) : Int).natAbs.log2 < 200 := log2_le hb (by have := Nat.div_le_self a b; simp only [Int.natAbs_natCast]; omega)
      have hbl : ((b : Nat) : Int).natAbs.log2 < 200 := log2_le hb hbb
      have hyl : y.natAbs.log2 < 200 := log2_le hb he.yle
      refine v_mulW (by omega) ?_
      walk_at "dv"
      refine v_mulW (by omega) ?_
      walk_at "dv"
      have hm : b * (a / b) + a % b = a := Nat.div_add_mod a b
      have e : (a : Int) - ((a / b : Nat) : Int) * (b : Int) = ((a % b : Nat) : Int) := by
        rw [Int.mul_comm, ← Int.natCast_mul]
        omega
      rw [e]
      have hl := Nat.mod_lt a (y := b) (by omega)
      exact ⟨_, _, _, _, _, rfl, he.step hb0, hbb, by omega, he.yle, by omega⟩
    · have hb0 : b = 0 := by omega
      subst hb0
      obtain ⟨ea, d⟩ := he.done hg
      subst ea
      walk_at "dv"
      rw [Int.natCast_one, Int.mul_one]
      exact q _ d hx
theorem fmod_zero_iff {a b : Int} : a.fmod b = 0 ↔ b ∣ a := ⟨Int.dvd_of_fmod_eq_zero, Int.fmod_eq_zero_of_dvd⟩
theorem natAbs_log {a : Int} (h : a.natAbs < 2 ^ 200) : a.natAbs.log2 < 200 := log2_200 h
theorem solved_spec {S : Store} {f n b : Int} (hb : b ≠ 0) (hl : b.natAbs < 2 ^ 200) (hn : n.natAbs < 2 ^ 200) {Q : Dt → Store → Prop} {X : Ex → Store → Prop}
    (q0 : ¬ (Nat.gcd f.natAbs b.natAbs : Int) ∣ n → Q .non S) (q1 : ∀ x s : Int, Sol f n b x s → Q (.tup [.int x, .int s]) S) : Pe (m_solved [.int f, .int n, .int b] S) Q X := by
  obtain ⟨g, s, f', hg, g0, s0, hf, hs, hc, e1, e2⟩ := parts (f := f) hb
  have hgl : g < 2 ^ 200 := by
    have : g * 1 ≤ g * s := Nat.mul_le_mul_left _ (by omega)
    omega
  have hsl : s < 2 ^ 200 := by
    have : 1 * s ≤ g * s := Nat.mul_le_mul_right _ (by omega)
    omega
  have lg := log2_200 hgl
  have ls := log2_200 hsl
  have lg' : (g : Int).natAbs.log2 < 9000 := by simp only [Int.natAbs_natCast]; omega
  have ls' : (s : Int).natAbs.log2 < 9000 := by simp only [Int.natAbs_natCast]; omega
  refine v_fn ?_
  unfold b_solved
  walk_at "dv"
  rw [abs_if]
  refine Pe.of common_eq ?_
  rw [Int.natAbs_natCast, ← hg]
  walk_at "dv"
  refine v_ndec (fun h => ?_) (fun h => ?_)
  · walk_at "dv"
    exact q0 fun d => h (Int.fmod_eq_zero_of_dvd (hg ▸ d))
  · obtain ⟨k, hk⟩ := Int.dvd_of_fmod_eq_zero h
    have e3 : n.fdiv g = k := by rw [hk, Int.mul_fdiv_cancel_left _ (by omega)]
    have hkl : k.natAbs < 2 ^ 200 := by
      rw [hk, Int.natAbs_mul, Int.natAbs_natCast] at hn
      have : 1 * k.natAbs ≤ g * k.natAbs := Nat.mul_le_mul_right _ (by omega)
      omega
    walk_at "dv"
    rw [e2]
    refine v_dec (fun h1 => ?_) (fun h1 => ?_)
    · walk_at "dv"
      rw [e3, e1]
      obtain ⟨F, hF⟩ : ∃ F : Nat, f'.fmod s = F := ⟨(f'.fmod s).toNat, (Int.toNat_of_nonneg (Int.fmod_nonneg_of_pos _ (by omega))).symm⟩
      have hF2 : (F : Int) < s := by rw [← hF]; exact Int.fmod_lt_of_pos _ (by omega)
      have hFg : Nat.gcd F s = 1 := by
        have d1 : ((Nat.gcd F s : Nat) : Int) ∣ f' := by
          have a1 : ((Nat.gcd F s : Nat) : Int) ∣ (F : Int) := Int.ofNat_dvd.mpr (Nat.gcd_dvd_left _ _)
          have a2 : ((Nat.gcd F s : Nat) : Int) ∣ (s : Int) := Int.ofNat_dvd.mpr (Nat.gcd_dvd_right _ _)
          have e := Int.mul_fdiv_add_fmod f' s
          rw [hF] at e
          rw [← e]
          exact Int.dvd_add (Int.dvd_mul_of_dvd_left a2) a1
        have d2 := Nat.dvd_gcd (Int.ofNat_dvd_left.mp d1) (Nat.gcd_dvd_right F s)
        rw [hc] at d2
        exact Nat.dvd_one.mp d2
      have hF1 : 1 ≤ F := by
        rcases Nat.eq_zero_or_pos F with z | z
        · subst z
          rw [Nat.gcd_zero_left] at hFg
          omega
        · exact z
      rw [hF]
      refine back_eq hF1 (by omega) hFg hsl fun back hback hbl => ?_
      have l1 := natAbs_log (a := 0 - k) (by omega)
      have l2 := natAbs_log (a := back) (by omega)
      walk_at "dv"
      refine v_mulW (by omega) ?_
      walk_at "dv"
      exact q1 _ _ (sol_mk hb hg g0 s0 hf hs hk (by rw [hF]; exact hback))
    · have s1 : s = 1 := by omega
      subst s1
      walk_at "dv"
      exact q1 _ _ (sol_one hg hs hk)
/-! ### going through all rests -/
/-- the good ones among the numbers from 0 on -/
def goods (p : Nat → Bool) (n : Nat) : List Dt := ((List.range n).filter p).map fun (k : Nat) => Dt.int k
theorem goods_none {p : Nat → Bool} {n : Nat} (h : ∀ k, p k = false) : goods p n = [] := by
  unfold goods
  rw [List.filter_eq_nil_iff.mpr fun k _ => by simp [h k]]
  rfl
theorem filter_none {p : Nat → Bool} {l : List Nat} (h : ∀ k ∈ l, p k = false) : l.filter p = [] := List.filter_eq_nil_iff.mpr fun k hk => by simp [h k hk]
theorem filter_first {p : Nat → Bool} {n a : Nat} (ha : a < n) (hp : p a = true) (hno : ∀ k, k < a → p k = false) : (List.range n).filter p = a :: ((List.range (n - a - 1)).filter (fun k => p (a + 1 + k))).map (fun k => a + 1 + k) := by
  have e1 : (List.range a).filter p = [] := filter_none fun k hk => hno k (List.mem_range.mp hk)
  have e2 : ([0].map (fun k => a + k)).filter p = [a] := by
    simp [hp]
  rw [show n = (a + 1) + (n - a - 1) by omega, List.range_add, List.filter_append, List.range_succ, List.filter_append, e1, List.nil_append]
  rw [show List.filter p [a] = [a] by simp [hp], List.filter_map]
  rw [show a + 1 + (n - a - 1) - a - 1 = n - a - 1 by omega]
  rfl
theorem goods_two {p : Nat → Bool} {n x s : Nat} (hx : x < s) (hn : 2 * s ≤ n) (h : ∀ k, p k = true ↔ k % s = x) : ∃ rest, goods p n = Dt.int x :: Dt.int ((x + s : Nat) : Int) :: rest := by
  have hf : ∀ k, k % s ≠ x → p k = false := fun k hk => by
    cases e : p k with
    | false => rfl
    | true => exact absurd ((h k).mp e) hk
  have f1 := filter_first (p := p) (n := n) (a := x) (by omega) ((h _).mpr (Nat.mod_eq_of_lt hx)) fun k hk => hf k (by rw [Nat.mod_eq_of_lt (by omega)]; omega)
  have f2 := filter_first (p := fun k => p (x + 1 + k)) (n := n - x - 1) (a := s - 1) (by omega) ((h _).mpr (by rw [show x + 1 + (s - 1) = x + s by omega, Nat.add_mod_right, Nat.mod_eq_of_lt hx])) fun k hk => hf _ (by
    by_cases hk2 : x + 1 + k < s
    · rw [Nat.mod_eq_of_lt hk2]
      omega
    · rw [show x + 1 + k = (x + 1 + k - s) + s by omega, Nat.add_mod_right, Nat.mod_eq_of_lt (by omega)]
      omega)
  unfold goods
  rw [f1, f2, List.map_cons, List.map_cons, List.map_cons, show x + 1 + (s - 1) = x + s by omega]
  exact ⟨_, rfl⟩
theorem goods_range {p : Nat → Bool} {g : Dt → Option Dt} {n : Nat} (h : ∀ k : Nat, g (.int (0 + (k : Int))) = if p k = true then some (.int k) else none) : (rangeD 0 n).filterMap g = goods p n := by
  unfold rangeD goods
  rw [List.filterMap_map, ← List.filterMap_eq_filter, List.map_filterMap]
  refine congrFun (congrArg List.filterMap (funext fun k => ?_)) _
  show g (.int (0 + (k : Int))) = _
  rw [h k]
  by_cases hp : p k = true
  · simp [hp, Option.guard]
  · simp [hp, Option.guard]
theorem goods_ok {p : Nat → Bool} {n k : Nat} : (goods p n).all (okD k) = true := by
  unfold goods
  rw [List.all_map]
  exact List.all_eq_true.mpr fun _ _ => by cases k <;> rfl
theorem ne_nil {S : Store} {p : Nat → Bool} {n : Nat} {Q : Dt → Store → Prop} {X : Ex → Store → Prop} (q : Q (.bl (!(goods p n).isEmpty)) S) : Pe (mNe (.lst (goods p n)) (.lst []) S) Q X := by
  unfold mNe
  have e : okD deep (res S (.lst (goods p n))) = true ∧ okD deep (res S (.lst [])) = true := ⟨goods_ok (k := 11), rfl⟩
  rw [if_pos e]
  have e2 : eqD (res S (.lst (goods p n))) (res S (.lst [])) = (goods p n).isEmpty := by
    show eqD (.lst (goods p n)) (.lst []) = _
    cases goods p n <;> rfl
  rw [e2]
  exact v_ok q
def pGood (f n b : Int) (k : Nat) : Bool := decide ((f * (k : Int) + n).fmod b = 0)
theorem good_none {f n b : Int} {m : Nat} (h : ¬ (Nat.gcd f.natAbs b.natAbs : Int) ∣ n) : goods (pGood f n b) m = [] := goods_none fun k => decide_eq_false fun z => no_sol (x := (k : Int)) h (fmod_zero_iff.mp z)
theorem good_two {f n b x s : Int} (h : Sol f n b x s) (hb : b ≠ 0) : ∃ rest, goods (pGood f n b) (2 * b.natAbs) = .int x :: .int (x + s) :: rest := by
  have hlo := h.lo
  have hhi := h.hi
  obtain ⟨x', rfl⟩ : ∃ k : Nat, x = k := ⟨x.toNat, (Int.toNat_of_nonneg hlo).symm⟩
  obtain ⟨s', rfl⟩ : ∃ k : Nat, s = k := ⟨s.toNat, (Int.toNat_of_nonneg (by omega)).symm⟩
  have hst := h.step
  have hg : Nat.gcd f.natAbs b.natAbs ≠ 0 := Nat.gcd_ne_zero_right (by omega)
  have hle : s' ≤ b.natAbs := by
    have h1 : s' * 1 ≤ s' * Nat.gcd f.natAbs b.natAbs := Nat.mul_le_mul_left _ (by omega)
    have h2 : s' * Nat.gcd f.natAbs b.natAbs = b.natAbs := by exact_mod_cast hst
    omega
  have h2 := goods_two (p := pGood f n b) (n := 2 * b.natAbs) (x := x') (s := s') (by omega) (by omega) fun k => by
    unfold pGood
    rw [decide_eq_true_iff, fmod_zero_iff, h.all hb]
    constructor
    · intro d
      have h3 := Int.emod_emod_of_dvd 0 (Int.dvd_refl (s' : Int))
      have h4 : ((k : Int) - x') % s' = 0 := Int.emod_eq_zero_of_dvd d
      have h5 : (k : Int) % s' = x' := by
        have h6 := Int.emod_eq_emod_iff_emod_sub_eq_zero.mpr h4
        rw [h6, Int.emod_eq_of_lt (by omega) (by omega)]
      exact_mod_cast h5
    · intro e
      refine Int.dvd_of_emod_eq_zero (Int.emod_eq_emod_iff_emod_sub_eq_zero.mp ?_)
      rw [Int.emod_eq_of_lt (a := (x' : Int)) (by omega) (by omega)]
      exact_mod_cast e
  exact h2
def gf (f n b : Int) : Dt → Option Dt
  | .int x => if pGood f n b x.toNat = true then some (.int x) else none
  | _ => none
theorem gf_int {f n b : Int} {k : Nat} : gf f n b (.int (k : Int)) = if (f * (k : Int) + n).fmod b = 0 then some (.int k) else none := by
  unfold gf pGood
  dsimp only
  rw [Int.toNat_natCast]
  by_cases h : (f * (k : Int) + n).fmod b = 0
  · rw [if_pos h, if_pos (decide_eq_true h)]
  · rw [if_neg h, if_neg (by simpa using h)]
theorem gf_range {f n b : Int} {m : Nat} : (rangeD 0 m).filterMap (gf f n b) = goods (pGood f n b) m := goods_range fun k => by
  rw [Int.zero_add]
  unfold gf
  dsimp only
  rw [Int.toNat_natCast]
theorem same_non {S : Store} {k : Nat} : m_law_same (k + 1) [.non, .non] S = .ok (.bl true) S := by
  refine Pe.eq ?_
  refine v_fn ?_
  unfold b_law_same
  walk_at "dv"
  rfl
theorem solved_ex {S : Store} {f n b : Int} (hb : b ≠ 0) (hl : b.natAbs < 2 ^ 200) (hn : n.natAbs < 2 ^ 200) : (¬ (Nat.gcd f.natAbs b.natAbs : Int) ∣ n ∧ m_solved [.int f, .int n, .int b] S = .ok .non S) ∨ ∃ x s, Sol f n b x s ∧ m_solved [.int f, .int n, .int b] S = .ok (.tup [.int x, .int s]) S := by
  obtain ⟨a, S', e, h⟩ := (solved_spec (S := S) (f := f) (X := X0) hb hl hn (Q := fun d S' => (¬ (Nat.gcd f.natAbs b.natAbs : Int) ∣ n ∧ d = .non ∧ S' = S) ∨ ∃ x s, Sol f n b x s ∧ d = .tup [.int x, .int s] ∧ S' = S) (fun h => .inl ⟨h, rfl, rfl⟩) (fun x s h => .inr ⟨x, s, h, rfl, rfl⟩)).ex
  rcases h with ⟨h, rfl, rfl⟩ | ⟨x, s, h, rfl, rfl⟩
  · exact .inl ⟨h, e⟩
  · exact .inr ⟨x, s, h, e⟩
end Lw

set_option Elab.async false
set_option linter.all false
set_option maxRecDepth 100000
set_option maxHeartbeats 4000000
set_option autoImplicit false
namespace Lw
open PySem Dv
/-! steps of our own words -/
local macro_rules | `(tactic| walk_at "num") => `(tactic| first | assumption | decide | omega)
local macro_rules | `(tactic| walk_at "dv0") => `(tactic| with_reducible first
  | refine v_seq ?_ | refine v_ifS ?_ | refine v_set ?_ | refine v_ret ?_ | refine v_asg ?_ | refine v_par ?_ | refine v_drop ?_ | refine v_nx ?_ | refine v_bk ?_ | refine v_ct ?_ | refine v_retN ?_ | refine v_for ?_
  | refine v_c ?_ | refine v_nil ?_ | refine v_cons ?_ | refine v_op ?_ | refine v_B ?_ | refine v_truth ?_ | refine v_andT ?_ | refine v_orT ?_ | refine v_notT ?_
  | refine v_andV ?_ | refine v_orV ?_ | refine v_notV ?_ | refine v_if ?_ | refine v_neg ?_ | refine v_chain ?_ | refine v_tup ?_ | refine v_lst ?_ | refine v_lstR ?_ | refine v_noPart ?_ | refine v_part ?_ | refine v_sl ?_
  | refine v_CB ?_ | refine v_call ?_ | refine v_abs ?_ | refine v_lc ?_ | refine v_yes ?_ | refine v_it ?_ | refine v_rng1 ?_ | refine v_rng2 ?_ | refine v_T ?_ | refine v_F ?_
  | refine v_add ?_ | refine v_sub ?_ | refine v_iadd ?_ | refine v_lt ?_ | refine v_le ?_ | refine v_gt ?_ | refine v_ge ?_ | refine v_eqI ?_ | refine v_neI ?_ | refine v_eqB ?_ | refine v_neB ?_)
local macro_rules | `(tactic| walk_at "dv1") => `(tactic| first
  | (with_reducible refine' v_var ?h ?_); (case h => rfl)
  | (with_reducible refine' v_aug ?h ?_); (case h => rfl)
  | (with_reducible refine' v_div ?h1 ?h2 ?_); (case h1 => walk_at "num"); (case h2 => walk_at "num")
  | (with_reducible refine' v_mod ?h1 ?_); (case h1 => walk_at "num")
  | (with_reducible refine' v_pow ?h1 ?_); (case h1 => walk_at "num")
  | (with_reducible refine' v_mulR ?h1 ?_); (case h1 => walk_at "num")
  | (with_reducible refine' v_mulL ?h1 ?_); (case h1 => walk_at "num")
  | (with_reducible refine' v_fin ?h1 ?_); (case h1 => first | exact Or.inl rfl | exact Or.inr rfl | (refine Or.inr ?_; simp only [List.length_set, *]; done))
  | (with_reducible refine' v_ix ?h1 ?_); (case h1 => first | exact ixD_ref (by assumption) (by rfl) | rfl)
  | (with_reducible refine' v_len ?h1 ?_); (case h1 => first | exact lenD_ref (by assumption) | rfl)
  | (with_reducible refine' v_list ?h1 ?_); (case h1 => rfl)
  | (with_reducible refine' v_listR ?h1 ?_); (case h1 => rfl)
  | (with_reducible refine' v_tuple ?h1 ?_); (case h1 => rfl)
  | (with_reducible refine' v_isd ?h1 ?_); (case h1 => rfl)
  | (with_reducible refine' v_isiTy ?h1 ?h2 ?_); (case h1 => rfl); (case h2 => rfl)
  | (with_reducible refine' v_isiT ?h1 ?_); (case h1 => rfl))
local macro_rules | `(tactic| walk_at "dv2") => `(tactic| first
  | refine v_gsub (by rfl) (by rfl) (by assumption) (by rfl) (fun _ _ _ => ?_) | refine ⟨_, rfl, ?_⟩ | (with_reducible refine' ⟨rng_ok ?h1 ?h2, ?_⟩); (case h1 => omega); (case h2 => omega) | refine ⟨rfl, ?_⟩ | refine ⟨_, _, rfl, ?_⟩ | refine ⟨Nat.le_of_ble_eq_true rfl, ?_⟩)
local macro_rules | `(tactic| walk_at "dv3") => `(tactic| first
  | (with_reducible refine' v_dec (fun _ => ?_) (fun hn => absurd ?h hn)); (case h => first | assumption | omega | decide)
  | (with_reducible refine' v_dec (fun hn => absurd hn ?h) (fun _ => ?_)); (case h => first | assumption | omega | decide)
  | (with_reducible refine' v_ndec (fun _ => ?_) (fun hn => absurd hn ?h)); (case h => first | assumption | omega | decide)
  | (with_reducible refine' v_ndec (fun hn => absurd ?h hn) (fun _ => ?_)); (case h => first | assumption | omega | decide)
  | (with_reducible refine' v_bT ?h ?_); (case h => first | assumption | rfl)
  | (with_reducible refine' v_bF ?h ?_); (case h => first | assumption | rfl))
local macro_rules | `(tactic| walk_at "dv") => `(tactic| repeat (first | walk_at "dv0" | walk_at "dv1" | walk_at "dv3" | walk_at "dv2"))

theorem mul_small {a b : Int} (ha : a.natAbs < 2 ^ 32) (hb : b.natAbs < 2 ^ 32) : (a * b).natAbs < 2 ^ 64 := by
  rw [Int.natAbs_mul]
  have := Nat.mul_lt_mul'' ha hb
  rw [show (2 : Nat) ^ 64 = 2 ^ 32 * 2 ^ 32 by decide]
  exact this
theorem dvd_w (W G : Int) : (Nat.gcd W.natAbs G.natAbs : Int) ∣ 0 - W * 12345 := by
  have h1 : (Nat.gcd W.natAbs G.natAbs : Int) ∣ W := Int.ofNat_dvd_left.mpr (Nat.gcd_dvd_left _ _)
  rw [Int.zero_sub]
  exact Int.dvd_neg.mpr (Int.dvd_mul_of_dvd_left h1)
theorem gcd_log (W : Int) {G : Int} (h : G.natAbs < 2 ^ 200) (h0 : G ≠ 0) : Nat.gcd W.natAbs G.natAbs ≠ 0 ∧ (Nat.gcd W.natAbs G.natAbs).log2 < 200 := by
  have hg : Nat.gcd W.natAbs G.natAbs ≤ G.natAbs := Nat.le_of_dvd (by omega) (Nat.gcd_dvd_right _ _)
  exact ⟨Nat.gcd_ne_zero_right (by omega), log2_200 (by omega)⟩
theorem great_sol {W G x s : Int} (h : Sol W (0 - W * 12345) G x s) (h0 : 0 < G) : (W * x - W * 12345).fmod G = 0 ∧ G.fdiv (Nat.gcd W.natAbs G.natAbs) = s ∧ x.natAbs ≤ G.natAbs ∧ s.natAbs ≤ G.natAbs := by
  have hp := h.put
  have hst := h.step
  have hlo := h.lo
  have hhi := h.hi
  have hg : Nat.gcd W.natAbs G.natAbs ≠ 0 := Nat.gcd_ne_zero_right (by omega)
  generalize Nat.gcd W.natAbs G.natAbs = g at *
  have e : G = g * s := by
    rw [Int.mul_comm]
    omega
  have hsG : s ≤ G := by
    rw [e]
    have h1 : (1 : Int) * s ≤ g * s := Int.mul_le_mul_of_nonneg_right (by omega) (by omega)
    omega
  refine ⟨?_, ?_, by omega, by omega⟩
  · refine Int.fmod_eq_zero_of_dvd ?_
    rw [show W * x - W * 12345 = W * x + (0 - W * 12345) by omega]
    exact hp
  · rw [e, Int.mul_fdiv_cancel_left _ (by omega)]
theorem law_true (ns : List Int) (hn : ns.length ≤ 63) : ∃ S, m_law [.fz (ns.map Dt.int)] [] = .ok (.bl true) S := by
  suffices h : Pe (m_law [.fz (ns.map Dt.int)] []) (fun d _ => d = .bl true) X0 by
    obtain ⟨a, S, e, rfl⟩ := h.ex
    exact ⟨S, e⟩
  refine v_fn ?_
  unfold b_law
  walk_at "dv"
  refine flow_new fun S1 hl _ hf => ?_
  walk_at "dv"
  have hc : (cutA (List.map Dt.int ns) none (some 18)).length ≤ 63 := by
    rw [show (18 : Int) = ((18 : Nat) : Int) from rfl, cut_take]
    simp
    omega
  refine ⟨rng_ok (by omega) (by omega), ?_⟩
  refine v_loop (fun _ en S => ∃ x2 x3 x4 x5 x6 x7 x8 x9 x10 x11, en = [some (.fz (ns.map Dt.int)), some (.ref 0), x2, x3, x4, x5, x6, x7, x8, x9, x10, x11] ∧ FlowAt S 0) ⟨none, none, none, none, none, none, none, none, none, none, rfl, hf⟩ ?_ ?_
  · rintro d ds en S ⟨x2, x3, x4, x5, x6, x7, x8, x9, x10, x11, rfl, hF⟩
    refine ⟨_, _, rfl, ?_⟩
    walk_at "dv"
    refine pick_fz hF (Nat.le_of_ble_eq_true rfl) (Nat.le_of_ble_eq_true rfl) fun sg S1 hs z1 => ?_
    obtain ⟨sg, rfl, hsg⟩ : ∃ n : Int, sg = .int n ∧ (n = 1 ∨ n = -1) := by
      simp only [List.mem_cons, List.not_mem_nil, or_false] at hs
      rcases hs with rfl | rfl
      · exact ⟨_, rfl, .inl rfl⟩
      · exact ⟨_, rfl, .inr rfl⟩
    walk_at "dv"
    refine draw_fz z1.flow (by decide) (by decide) fun t S2 t0 t1 z2 => ?_
    walk_at "dv"
    obtain ⟨b, hbe, hb0, hb1⟩ : ∃ b : Int, b = sg * (1 + t) ∧ b ≠ 0 ∧ b.natAbs ≤ 60 := ⟨_, rfl, by rcases hsg with rfl | rfl <;> omega, by rcases hsg with rfl | rfl <;> omega⟩
    rw [← hbe]
    refine draw_fz z2.flow (by decide) (by decide) fun f S3 f0 f1 z3 => ?_
    walk_at "dv"
    refine draw_fz z3.flow (by decide) (by decide) fun n S4 n0 n1 z4 => ?_
    walk_at "dv"
    rw [abs_if]
    walk_at "dv"
    obtain ⟨f', hf'⟩ : ∃ f', f' = f - 100 := ⟨_, rfl⟩
    obtain ⟨n', hn'⟩ : ∃ n', n' = n - 100 := ⟨_, rfl⟩
    rw [← hf', ← hn']
    have hfl : f'.natAbs ≤ 200 := by omega
    have hnl : n'.natAbs ≤ 200 := by omega
    have hbl : ((b.natAbs : Int)).natAbs ≤ 60 := by omega
    refine v_cloop (gf f' n' b) (fun d hd => ?_) ?_ ?_
    · obtain ⟨k, hk, rfl⟩ := range_mem hd
      refine ⟨_, rfl, ?_⟩
      rw [Int.zero_add, gf_int]
      walk_at "dv"
      refine v_dec (fun h => ?_) (fun h => ?_)
      · walk_at "dv"
        rw [if_pos h]
      · rw [if_neg h]
    · simp [rangeD]
      omega
    · rw [List.nil_append, show (2 * (b.natAbs : Int)).toNat = 2 * b.natAbs by omega, gf_range]
      walk_at "dv"
      refine ne_nil ?_
      walk_at "dv"
      have fin : FlowAt S4 0 := z4.flow
      rcases solved_ex (S := S4) (f := f') hb0 (show b.natAbs < 2 ^ 200 by omega) (show n'.natAbs < 2 ^ 200 by omega) with ⟨hd, e⟩ | ⟨x, s, hs, e⟩
      · rw [good_none hd]
        walk_at "dv"
        refine Pe.of e ?_
        walk_at "dv"
        refine Pe.of same_non ?_
        walk_at "dv"
        refine great_fz fin fun v S5 v0 v1 z5 => ?_
        walk_at "dv"
        rw [abs_if]
        obtain ⟨G, hG, hG0, hG1⟩ : ∃ G : Int, G = 1 + (v.natAbs : Int) ∧ 0 < G ∧ G ≤ 10 ^ 29 + 1 := ⟨_, rfl, by omega, by omega⟩
        rw [← hG]
        refine draw_fz z5.flow (by decide) (by decide) fun u S6 u0 u1 z6 => ?_
        walk_at "dv"
        obtain ⟨W, hW, hW1⟩ : ∃ W : Int, W = u - 10 ^ Int.toNat 24 ∧ W.natAbs ≤ 10 ^ 24 := ⟨_, rfl, by
          have : (10 : Int) ^ Int.toNat 24 = 10 ^ 24 := rfl
          rw [this] at u1 ⊢
          omega⟩
        rw [← hW]
        have hG2 : G.natAbs < 2 ^ 200 := by omega
        have hG3 : G.natAbs.log2 < 9000 := by
          have := log2_200 hG2
          omega
        have hW2 : W.natAbs.log2 < 200 := log2_200 (by omega)
        refine solved_spec (by omega) hG2 (by omega) (fun hnd => absurd (dvd_w W G) hnd) fun x s hs => ?_
        obtain ⟨p1, p2, p3, p4⟩ := great_sol hs (by omega)
        have h0 := hs.lo
        have h1 := hs.hi
        have p2' := p2.symm
        have hx : x.natAbs.log2 < 200 := log2_200 (by omega)
        walk_at "dv"
        refine v_mulW (by omega) ?_
        walk_at "dv"
        refine Pe.of lgcd_eq ?_
        have hgl : (↑(W.natAbs.gcd G.natAbs) : Int).natAbs.log2 < 9000 := by
          have := (gcd_log W hG2 (by omega)).2
          simp only [Int.natAbs_natCast]
          omega
        have hg0 : (↑(W.natAbs.gcd G.natAbs) : Int) ≠ 0 := by
          have := (gcd_log W hG2 (by omega)).1
          omega
        walk_at "dv"
        exact ⟨_, _, _, _, _, _, _, _, _, _, rfl, z6.flow⟩
      · obtain ⟨rest, hr⟩ := good_two hs hb0
        rw [hr]
        walk_at "dv"
        refine v_ix (atI_in (j := 0) rfl) ?_
        walk_at "dv"
        refine v_ix (atI_in (j := 1) rfl) ?_
        walk_at "dv"
        refine v_ix (atI_in (j := 0) rfl) ?_
        walk_at "dv"
        refine Pe.of e ?_
        walk_at "dv"
        rw [show x + s - x = s by omega]
        refine Pe.of (same_ints (ns := [x, s]) (.inl rfl) (Nat.le_of_ble_eq_true rfl)) ?_
        walk_at "dv"
        refine great_fz fin fun v S5 v0 v1 z5 => ?_
        walk_at "dv"
        rw [abs_if]
        obtain ⟨G, hG, hG0, hG1⟩ : ∃ G : Int, G = 1 + (v.natAbs : Int) ∧ 0 < G ∧ G ≤ 10 ^ 29 + 1 := ⟨_, rfl, by omega, by omega⟩
        rw [← hG]
        refine draw_fz z5.flow (by decide) (by decide) fun u S6 u0 u1 z6 => ?_
        walk_at "dv"
        obtain ⟨W, hW, hW1⟩ : ∃ W : Int, W = u - 10 ^ Int.toNat 24 ∧ W.natAbs ≤ 10 ^ 24 := ⟨_, rfl, by
          have : (10 : Int) ^ Int.toNat 24 = 10 ^ 24 := rfl
          rw [this] at u1 ⊢
          omega⟩
        rw [← hW]
        have hG2 : G.natAbs < 2 ^ 200 := by omega
        have hG3 : G.natAbs.log2 < 9000 := by
          have := log2_200 hG2
          omega
        have hW2 : W.natAbs.log2 < 200 := log2_200 (by omega)
        refine solved_spec (by omega) hG2 (by omega) (fun hnd => absurd (dvd_w W G) hnd) fun x s hs => ?_
        obtain ⟨p1, p2, p3, p4⟩ := great_sol hs (by omega)
        have h0 := hs.lo
        have h1 := hs.hi
        have p2' := p2.symm
        have hx : x.natAbs.log2 < 200 := log2_200 (by omega)
        walk_at "dv"
        refine v_mulW (by omega) ?_
        walk_at "dv"
        refine Pe.of lgcd_eq ?_
        have hgl : (↑(W.natAbs.gcd G.natAbs) : Int).natAbs.log2 < 9000 := by
          have := (gcd_log W hG2 (by omega)).2
          simp only [Int.natAbs_natCast]
          omega
        have hg0 : (↑(W.natAbs.gcd G.natAbs) : Int) ≠ 0 := by
          have := (gcd_log W hG2 (by omega)).1
          omega
        walk_at "dv"
        exact ⟨_, _, _, _, _, _, _, _, _, _, rfl, z6.flow⟩
  · rintro en S ⟨x2, x3, x4, x5, x6, x7, x8, x9, x10, x11, rfl, hF⟩
    walk_at "dv"
    rfl
end Lw

set_option Elab.async false
set_option linter.all false
set_option maxRecDepth 100000
set_option maxHeartbeats 4000000
set_option autoImplicit false
namespace Lw
open PySem PySem.Spec PyProof.Rows L2 Dv
theorem all_mk {l : PySem.W.OpenLaw} {w : World} {K : PySem.W.Frag} {h : Heap} {mg : Str → Option Value} {fa f1 f2 f3 f4 f5 f6 f7 f8 f9 f10 : Addr} (X : K.In h) (G : h.Ns mainGlobals mg) (hfa : mg "law" = some (.ref fa))
    {od1 an1 : Option Addr} {sl1 : Array (Option Value)} {oc1 kV1 dc1 pm1 cd1 ct1 : Value}
    {od2 an2 : Option Addr} {sl2 : Array (Option Value)} {oc2 kV2 dc2 pm2 cd2 ct2 : Value}
    {od3 an3 : Option Addr} {sl3 : Array (Option Value)} {oc3 kV3 dc3 pm3 cd3 ct3 : Value}
    {od4 an4 : Option Addr} {sl4 : Array (Option Value)} {oc4 kV4 dc4 pm4 cd4 ct4 : Value}
    {od5 an5 : Option Addr} {sl5 : Array (Option Value)} {oc5 kV5 dc5 pm5 cd5 ct5 : Value}
    {od6 an6 : Option Addr} {sl6 : Array (Option Value)} {oc6 kV6 dc6 pm6 cd6 ct6 : Value}
    {od7 an7 : Option Addr} {sl7 : Array (Option Value)} {oc7 kV7 dc7 pm7 cd7 ct7 : Value}
    {od8 an8 : Option Addr} {sl8 : Array (Option Value)} {oc8 kV8 dc8 pm8 cd8 ct8 : Value}
    {od9 an9 : Option Addr} {sl9 : Array (Option Value)} {oc9 kV9 dc9 pm9 cd9 ct9 : Value}
    {od10 an10 : Option Addr} {sl10 : Array (Option Value)} {oc10 kV10 dc10 pm10 cd10 ct10 : Value}
    (a1 : PySem.W.nsIn K mainGlobals "_law_draw" = some (some (.ref f1))) (l1 : K.lookup f1 = some ⟨oc1, od1, .func (PySem.W.fnOf "_law_draw" "_law_draw" (defArgs s_law_draw) (defBody s_law_draw) (defScope s_law_draw) .none kV1 dc1 pm1 an1 cd1 ct1), sl1⟩) (c1 : PySem.W.codeIn K cd1 "_law_draw" = true) (k1 : PySem.W.keepIn K (.ref f1) = true)
    (a2 : PySem.W.nsIn K mainGlobals "_law_flow" = some (some (.ref f2))) (l2 : K.lookup f2 = some ⟨oc2, od2, .func (PySem.W.fnOf "_law_flow" "_law_flow" (defArgs s_law_flow) (defBody s_law_flow) (defScope s_law_flow) .none kV2 dc2 pm2 an2 cd2 ct2), sl2⟩) (c2 : PySem.W.codeIn K cd2 "_law_flow" = true) (k2 : PySem.W.keepIn K (.ref f2) = true)
    (a3 : PySem.W.nsIn K mainGlobals "_law_gcd" = some (some (.ref f3))) (l3 : K.lookup f3 = some ⟨oc3, od3, .func (PySem.W.fnOf "_law_gcd" "_law_gcd" (defArgs s_law_gcd) (defBody s_law_gcd) (defScope s_law_gcd) .none kV3 dc3 pm3 an3 cd3 ct3), sl3⟩) (c3 : PySem.W.codeIn K cd3 "_law_gcd" = true) (k3 : PySem.W.keepIn K (.ref f3) = true)
    (a4 : PySem.W.nsIn K mainGlobals "_law_pick" = some (some (.ref f4))) (l4 : K.lookup f4 = some ⟨oc4, od4, .func (PySem.W.fnOf "_law_pick" "_law_pick" (defArgs s_law_pick) (defBody s_law_pick) (defScope s_law_pick) .none kV4 dc4 pm4 an4 cd4 ct4), sl4⟩) (c4 : PySem.W.codeIn K cd4 "_law_pick" = true) (k4 : PySem.W.keepIn K (.ref f4) = true)
    (a5 : PySem.W.nsIn K mainGlobals "_law_great_number" = some (some (.ref f5))) (l5 : K.lookup f5 = some ⟨oc5, od5, .func (PySem.W.fnOf "_law_great_number" "_law_great_number" (defArgs s_law_great_number) (defBody s_law_great_number) (defScope s_law_great_number) .none kV5 dc5 pm5 an5 cd5 ct5), sl5⟩) (c5 : PySem.W.codeIn K cd5 "_law_great_number" = true) (k5 : PySem.W.keepIn K (.ref f5) = true)
    (a6 : PySem.W.nsIn K mainGlobals "_law_same" = some (some (.ref f6))) (l6 : K.lookup f6 = some ⟨oc6, od6, .func (PySem.W.fnOf "_law_same" "_law_same" (defArgs s_law_same) (defBody s_law_same) (defScope s_law_same) .none kV6 dc6 pm6 an6 cd6 ct6), sl6⟩) (c6 : PySem.W.codeIn K cd6 "_law_same" = true) (k6 : PySem.W.keepIn K (.ref f6) = true)
    (a7 : PySem.W.nsIn K mainGlobals "back_to" = some (some (.ref f7))) (l7 : K.lookup f7 = some ⟨oc7, od7, .func (PySem.W.fnOf "back_to" "back_to" (defArgs s_back_to) (defBody s_back_to) (defScope s_back_to) .none kV7 dc7 pm7 an7 cd7 ct7), sl7⟩) (c7 : PySem.W.codeIn K cd7 "back_to" = true) (k7 : PySem.W.keepIn K (.ref f7) = true)
    (a8 : PySem.W.nsIn K mainGlobals "common" = some (some (.ref f8))) (l8 : K.lookup f8 = some ⟨oc8, od8, .func (PySem.W.fnOf "common" "common" (defArgs s_common) (defBody s_common) (defScope s_common) .none kV8 dc8 pm8 an8 cd8 ct8), sl8⟩) (c8 : PySem.W.codeIn K cd8 "common" = true) (k8 : PySem.W.keepIn K (.ref f8) = true)
    (a9 : PySem.W.nsIn K mainGlobals "solved" = some (some (.ref f9))) (l9 : K.lookup f9 = some ⟨oc9, od9, .func (PySem.W.fnOf "solved" "solved" (defArgs s_solved) (defBody s_solved) (defScope s_solved) .none kV9 dc9 pm9 an9 cd9 ct9), sl9⟩) (c9 : PySem.W.codeIn K cd9 "solved" = true) (k9 : PySem.W.keepIn K (.ref f9) = true)
    (a10 : PySem.W.nsIn K mainGlobals "law" = some (some (.ref f10))) (l10 : K.lookup f10 = some ⟨oc10, od10, .func (PySem.W.fnOf "law" "law" (defArgs s_law) (defBody s_law) (defScope s_law) .none kV10 dc10 pm10 an10 cd10 ct10), sl10⟩) (c10 : PySem.W.codeIn K cd10 "law" = true) (k10 : PySem.W.keepIn K (.ref f10) = true)
    (zrange : PySem.W.nsIn K mainGlobals "range" = some none)
    (zlen : PySem.W.nsIn K mainGlobals "len" = some none)
    (zabs : PySem.W.nsIn K mainGlobals "abs" = some none)
    (zlist : PySem.W.nsIn K mainGlobals "list" = some none)
    (zisinstance : PySem.W.nsIn K mainGlobals "isinstance" = some none)
    (zbool : PySem.W.nsIn K mainGlobals "bool" = some none)
    (zint : PySem.W.nsIn K mainGlobals "int" = some none)
    (zstr : PySem.W.nsIn K mainGlobals "str" = some none)
    (ztuple : PySem.W.nsIn K mainGlobals "tuple" = some none)
    (zall : PySem.W.nsIn K mainGlobals "all" = some none) :
    ∃ fd : FuncData, (∀ (s : Shared) (v : Value), BindsTo s fd ⟨[v], []⟩ [("_law_script", v)]) ∧ ∀ base : Heap, K.In base → base.Ns mainGlobals mg → FnOk l.prog w K mg base (L2.CX l.prog w) 22 fa fd ["_law_script"] (spLaw K) := by
  have e := hfa.symm.trans (PySem.W.mg_of X G a10)
  have e2 : f10 = fa := by cases e; rfl
  subst e2
  have F1 := fun_mk (st := s_law_draw) l1 c1 k1
  have b1 := F1.binds (ps := ["_law_flow_here", "_law_size"]) fun _ _ _ _ _ _ us hl => match us, hl with | [_, _], _ => rfl
  have F2 := fun_mk (st := s_law_flow) l2 c2 k2
  have b2 := F2.binds (ps := ["_law_script"]) fun _ _ _ _ _ _ us hl => match us, hl with | [_], _ => rfl
  have F3 := fun_mk (st := s_law_gcd) l3 c3 k3
  have b3 := F3.binds (ps := ["_law_one", "_law_other"]) fun _ _ _ _ _ _ us hl => match us, hl with | [_, _], _ => rfl
  have F4 := fun_mk (st := s_law_pick) l4 c4 k4
  have b4 := F4.binds (ps := ["_law_flow_here", "_law_lot"]) fun _ _ _ _ _ _ us hl => match us, hl with | [_, _], _ => rfl
  have F5 := fun_mk (st := s_law_great_number) l5 c5 k5
  have b5 := F5.binds (ps := ["_law_flow_here"]) fun _ _ _ _ _ _ us hl => match us, hl with | [_], _ => rfl
  have F6 := fun_mk (st := s_law_same) l6 c6 k6
  have b6 := F6.binds (ps := ["_law_found", "_law_due"]) fun _ _ _ _ _ _ us hl => match us, hl with | [_, _], _ => rfl
  have F7 := fun_mk (st := s_back_to) l7 c7 k7
  have b7 := F7.binds (ps := ["one", "by"]) fun _ _ _ _ _ _ us hl => match us, hl with | [_, _], _ => rfl
  have F8 := fun_mk (st := s_common) l8 c8 k8
  have b8 := F8.binds (ps := ["one", "other"]) fun _ _ _ _ _ _ us hl => match us, hl with | [_, _], _ => rfl
  have F9 := fun_mk (st := s_solved) l9 c9 k9
  have b9 := F9.binds (ps := ["factor", "number", "by"]) fun _ _ _ _ _ _ us hl => match us, hl with | [_, _, _], _ => rfl
  have F10 := fun_mk (st := s_law) l10 c10 k10
  have b10 := F10.binds (ps := ["_law_script"]) fun _ _ _ _ _ _ us hl => match us, hl with | [_], _ => rfl
  have T : Tx K mg ⟨f1, _, f2, _, f3, _, f4, _, f5, _, f6, _, f7, _, f8, _, f9, _, f10, _⟩ := {
    F_law_draw := F1, g_law_draw := PySem.W.mg_of X G a1, b_law_draw := b1,
    F_law_flow := F2, g_law_flow := PySem.W.mg_of X G a2, b_law_flow := b2,
    F_law_gcd := F3, g_law_gcd := PySem.W.mg_of X G a3, b_law_gcd := b3,
    F_law_pick := F4, g_law_pick := PySem.W.mg_of X G a4, b_law_pick := b4,
    F_law_great_number := F5, g_law_great_number := PySem.W.mg_of X G a5, b_law_great_number := b5,
    F_law_same := F6, g_law_same := PySem.W.mg_of X G a6, b_law_same := b6,
    F_back_to := F7, g_back_to := PySem.W.mg_of X G a7, b_back_to := b7,
    F_common := F8, g_common := PySem.W.mg_of X G a8, b_common := b8,
    F_solved := F9, g_solved := PySem.W.mg_of X G a9, b_solved := b9,
    F_law := F10, g_law := PySem.W.mg_of X G a10, b_law := b10,
    z_range := PySem.W.mg_none_of X G zrange,
    z_len := PySem.W.mg_none_of X G zlen,
    z_abs := PySem.W.mg_none_of X G zabs,
    z_list := PySem.W.mg_none_of X G zlist,
    z_isinstance := PySem.W.mg_none_of X G zisinstance,
    z_bool := PySem.W.mg_none_of X G zbool,
    z_int := PySem.W.mg_none_of X G zint,
    z_str := PySem.W.mg_none_of X G zstr,
    z_tuple := PySem.W.mg_none_of X G ztuple,
    z_all := PySem.W.mg_none_of X G zall }
  refine ⟨_, fun s v => ?_, fun base _ _ => law_sp rfl (ok_law T) law_true⟩
  exact .of_eq rfl
end Lw
open PySem PySem.W PyProof.Rows in
set_option maxRecDepth 100000 in
set_option maxHeartbeats 0 in
theorem PySem.Challenge.cw_hawserweb_k03_likenesses_solved_holds : PySem.Challenge.rw_hawserweb_k03_likenesses_solved.Holds := by
  w_on; o_law; k_head; (case hw => w_witness2)
  k_fill
  refine Dv.walk_law (l := PySem.Challenge.rw_hawserweb_k03_likenesses_solved) (k := 22) (x := "_law_script") rfl rfl ⟨rfl, by decide, by decide⟩ (fun w h Y => PySem.W.kIn_of Y) ?F
  case F =>
    intro w mg fa h KX G hmg
    refine' Lw.all_mk KX G hmg ?a1 ?l1 ?c1 ?k1 ?a2 ?l2 ?c2 ?k2 ?a3 ?l3 ?c3 ?k3 ?a4 ?l4 ?c4 ?k4 ?a5 ?l5 ?c5 ?k5 ?a6 ?l6 ?c6 ?k6 ?a7 ?l7 ?c7 ?k7 ?a8 ?l8 ?c8 ?k8 ?a9 ?l9 ?c9 ?k9 ?a10 ?l10 ?c10 ?k10 ?zrange ?zlen ?zabs ?zlist ?zisinstance ?zbool ?zint ?zstr ?ztuple ?zall
    (case a1 => k_is)
    (case l1 => k_is)
    (case c1 => k_is)
    (case k1 => k_is)
    (case a2 => k_is)
    (case l2 => k_is)
    (case c2 => k_is)
    (case k2 => k_is)
    (case a3 => k_is)
    (case l3 => k_is)
    (case c3 => k_is)
    (case k3 => k_is)
    (case a4 => k_is)
    (case l4 => k_is)
    (case c4 => k_is)
    (case k4 => k_is)
    (case a5 => k_is)
    (case l5 => k_is)
    (case c5 => k_is)
    (case k5 => k_is)
    (case a6 => k_is)
    (case l6 => k_is)
    (case c6 => k_is)
    (case k6 => k_is)
    (case a7 => k_is)
    (case l7 => k_is)
    (case c7 => k_is)
    (case k7 => k_is)
    (case a8 => k_is)
    (case l8 => k_is)
    (case c8 => k_is)
    (case k8 => k_is)
    (case a9 => k_is)
    (case l9 => k_is)
    (case c9 => k_is)
    (case k9 => k_is)
    (case a10 => k_is)
    (case l10 => k_is)
    (case c10 => k_is)
    (case k10 => k_is)
    (case zrange => k_is)
    (case zlen => k_is)
    (case zabs => k_is)
    (case zlist => k_is)
    (case zisinstance => k_is)
    (case zbool => k_is)
    (case zint => k_is)
    (case zstr => k_is)
    (case ztuple => k_is)
    (case zall => k_is)

