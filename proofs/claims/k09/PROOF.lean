import PyProof.Rows.All
import Wide.All
import OpenK.AllK
import Wide.FinOn
import HandS.ForMost
import HandS.ForExc
import HandS.Slots
import HandS.SlotsOwn
import HandS.TupAny
import HandS.TupLe
import HandS.Star
import HandS.IsInst
import HandS.Zip
import HandS.TupMul
import HandS.Flow
import HandS.Conv
import KE.SortData
import HandS.Sort
import HandS.Call
import KE.DataMinMax
import HandS.SortKw
import KE.KDictPairs
import KE.GoesEnum
import KE.GoesMore
import HandS.Iter
import HandS.Style
import HandS.CallSlots
import PySem.Challenge.RW_bittenplates_k09_times_by_trying
set_option Elab.async false
set_option linter.all false
set_option maxRecDepth 100000
set_option autoImplicit false
set_option maxHeartbeats 4000000
/-! Tw1: trees, the store, what stands for what -/
namespace Tw
open PySem L2

inductive T where
  | non | bl (b : Bool) | int (i : Int) | str (x : Str) | ty (n : String)
  | cls (i : Nat) | fn (i : Nat)
  | tup (ts : List T) | lst (ts : List T) | dic (ks : List Key) (ts : List T)
  | ins (c : Nat) (ts : List T)
  | obj (n : Nat)
  | scr (ts : List T)
  deriving Inhabited

/-- what stands in the store: a list, a dict, an instance with a dict, an instance with slots -/
inductive MO where
  | lst (ts : List T) | dic (ks : List Key) (ts : List T)
  | ins (c : Nat) (ns : List Str) (ts : List T)
  | sl (c : Nat) (ts : List T)
  | aux (k : Nat)
  deriving Inhabited

abbrev Store := List (Option MO)
/-- an exception: its class, its attributes -/
structure Exc where
  cls : Nat
  ns : List Str
  ts : List T
inductive Res (α : Type) where
  | ok (a : α) (μ : Store)
  | ex (e : Exc) (μ : Store)
  | bad
abbrev M (α : Type) := Store → Res α
@[reducible] def ret {α : Type} (a : α) : M α := fun μ => .ok a μ
@[reducible] def bad {α : Type} : M α := fun _ => .bad
@[reducible] def bnd {α β : Type} (m : M α) (k : α → M β) : M β := fun μ => match m μ with
  | .ok a μ' => k a μ'
  | .ex e μ' => .ex e μ'
  | .bad => .bad
abbrev Env := List (Option T)

/-! ### what stands for what -/
structure Sta where
  K : PySem.W.Frag
  ca : Nat → Option Addr
  fa : Nat → Option Addr
/-- the store's addresses, and those that are locked (a comprehension's list in the making) -/
structure Ids where
  l : List (Option Addr)
  lk : List Addr
def InI (ι : Ids) (a : Addr) : Prop := some a ∈ ι.l ∨ a ∈ ι.lk

/-- a tuple, a list that no one changes -/
def RT (K : PySem.W.Frag) (H : Hp) (ι : Ids) (a : Addr) (vs : List V) : Prop :=
  (¬ InI ι a ∧ Rd H a (.tup vs)) ∨
    ∃ (o : Obj) (its : Array Value) (n : Nat), K.lookup a = some o ∧ o.cls = .type "tuple" ∧ o.data = .seq its n ∧ its.size ≤ sizeLine ∧ Vals vs its.toList
def RL (K : PySem.W.Frag) (H : Hp) (ι : Ids) (a : Addr) (vs : List V) : Prop :=
  ¬ InI ι a ∧ Rd H a (.lst vs)
/-- the script: a list that is only read -/
def RS (K : PySem.W.Frag) (H : Hp) (ι : Ids) (a : Addr) (vs : List V) : Prop :=
  (¬ InI ι a ∧ Rd H a (.lst vs)) ∨
    ∃ (o : Obj) (its : Array Value) (n : Nat), K.lookup a = some o ∧ o.cls = .type "list" ∧ o.dict = none ∧ o.data = .seq its n ∧ its.size ≤ sizeLine ∧ Vals vs its.toList
theorem RS.sq {K : PySem.W.Frag} {H : Hp} {ι : Ids} {a : Addr} {vs : List V} (h : RS K H ι a vs) : SqL K H a vs := h.elim (fun h => .inl h.2) .inr
theorem RT.sq {K : PySem.W.Frag} {H : Hp} {ι : Ids} {a : Addr} {vs : List V} (h : RT K H ι a vs) : SqT K H a vs := h.elim (fun h => .inl h.2) .inr
theorem RL.sq {K : PySem.W.Frag} {H : Hp} {ι : Ids} {a : Addr} {vs : List V} (h : RL K H ι a vs) : SqL K H a vs := .inl h.2

/-- an instance with slots, all of them stored -/
def SlF (H : Hp) (a C dx : Addr) (vs : List V) : Prop := dx ≠ a ∧ H a = some (SlX.SlO a C dx (vs.map some)) ∧ H dx = some (.xd [])
mutual
inductive Rep (S : Sta) (H : Hp) (ι : Ids) : V → T → Prop
  | non : Rep S H ι .non .non
  | bl (b : Bool) : Rep S H ι (.bl b) (.bl b)
  | int (i : Int) : Rep S H ι (.int i) (.int i)
  | str (x : Str) : Rep S H ι (.str x) (.str x)
  | ty (n : String) : Rep S H ι (.ty n) (.ty n)
  | cls {i : Nat} {a : Addr} : S.ca i = some a → Rep S H ι (.ref a) (.cls i)
  | fn {i : Nat} {a : Addr} : S.fa i = some a → Rep S H ι (.ref a) (.fn i)
  | tup {a : Addr} {vs : List V} {ts : List T} : RT S.K H ι a vs → Reps S H ι vs ts → Rep S H ι (.ref a) (.tup ts)
  | lst {a : Addr} {vs : List V} {ts : List T} : RL S.K H ι a vs → Reps S H ι vs ts → Rep S H ι (.ref a) (.lst ts)
  | dic {a : Addr} {ks : List Key} {vs : List V} {ts : List T} : ¬ InI ι a → Rd H a (.dK (ks.zip vs)) → ks.length = vs.length → Reps S H ι vs ts → Rep S H ι (.ref a) (.dic ks ts)
  | ins {a dx C : Addr} {c : Nat} {vs : List V} {ts : List T} : S.ca c = some C → ¬ InI ι a → ¬ InI ι dx → SlF H a C dx vs → Reps S H ι vs ts → Rep S H ι (.ref a) (.ins c ts)
  | obj {n : Nat} {a : Addr} : ι.l[n]? = some (some a) → Rep S H ι (.ref a) (.obj n)
  | gone {n : Nat} {v : V} : ι.l[n]? = some none → Rep S H ι v (.obj n)
  | scr {a : Addr} {vs : List V} {ts : List T} : RS S.K H ι a vs → Reps S H ι vs ts → Rep S H ι (.ref a) (.scr ts)
inductive Reps (S : Sta) (H : Hp) (ι : Ids) : List V → List T → Prop
  | nil : Reps S H ι [] []
  | cons {v : V} {vs : List V} {t : T} {ts : List T} : Rep S H ι v t → Reps S H ι vs ts → Reps S H ι (v :: vs) (t :: ts)
end

/-- later: the objects that no one changes are as they were -/
structure Fu0 (H : Hp) (ι : Ids) (H' : Hp) (ι' : Ids) : Prop where
  ids : ∀ (n : Nat) (o : Option Addr), ι.l[n]? = some o → ι'.l[n]? = some o ∨ ι'.l[n]? = some none
  keep : ∀ b o, H b = some o → ¬ InI ι b → H' b = some o ∧ ¬ InI ι' b
/-- .. and so are the locked ones -/
structure Fut (H : Hp) (ι : Ids) (H' : Hp) (ι' : Ids) : Prop extends Fu0 H ι H' ι' where
  lk : ∀ a ∈ ι.lk, a ∈ ι'.lk ∧ H' a = H a
theorem Fu0.trans {H H1 H2 : Hp} {ι ι1 ι2 : Ids} (a : Fu0 H ι H1 ι1) (b : Fu0 H1 ι1 H2 ι2) : Fu0 H ι H2 ι2 where
  ids := fun n o h => by
    rcases a.ids n o h with q | q
    · exact b.ids n o q
    · exact .inr ((b.ids n _ q).elim id id)
  keep := fun c o h n => let ⟨h1, n1⟩ := a.keep c o h n; b.keep c o h1 n1
theorem Fut.refl (H : Hp) (ι : Ids) : Fut H ι H ι := ⟨⟨fun _ _ h => .inl h, fun _ _ h n => ⟨h, n⟩⟩, fun _ h => ⟨h, rfl⟩⟩
theorem Fut.trans {H H1 H2 : Hp} {ι ι1 ι2 : Ids} (a : Fut H ι H1 ι1) (b : Fut H1 ι1 H2 ι2) : Fut H ι H2 ι2 :=
  ⟨a.toFu0.trans b.toFu0, fun c h => let ⟨h1, e1⟩ := a.lk c h; let ⟨h2, e2⟩ := b.lk c h1; ⟨h2, e2.trans e1⟩⟩

section
variable {S : Sta} {H H' : Hp} {ι ι' : Ids}
theorem Fu0.rd {a : Addr} {u : HO} (f : Fu0 H ι H' ι') (n : ¬ InI ι a) (r : Rd H a u) : ¬ InI ι' a ∧ Rd H' a u := by
  rcases r with r | ⟨o, r⟩
  · exact ⟨(f.keep _ _ r n).2, .inl (f.keep _ _ r n).1⟩
  · exact ⟨(f.keep _ _ r n).2, .inr ⟨o, (f.keep _ _ r n).1⟩⟩
theorem RT.fut {K : PySem.W.Frag} {a : Addr} {vs : List V} (f : Fu0 H ι H' ι') (h : RT K H ι a vs) : RT K H' ι' a vs := by
  rcases h with ⟨n, r⟩ | h
  · exact .inl (f.rd n r)
  · exact .inr h
theorem RS.fut {K : PySem.W.Frag} {a : Addr} {vs : List V} (f : Fu0 H ι H' ι') (h : RS K H ι a vs) : RS K H' ι' a vs := by
  rcases h with ⟨n, r⟩ | h
  · exact .inl (f.rd n r)
  · exact .inr h
theorem RL.fut {K : PySem.W.Frag} {a : Addr} {vs : List V} (f : Fu0 H ι H' ι') (h : RL K H ι a vs) : RL K H' ι' a vs := f.rd h.1 h.2
theorem SlF.fut {a C dx : Addr} {vs : List V} (f : Fu0 H ι H' ι') (na : ¬ InI ι a) (nd : ¬ InI ι dx) (h : SlF H a C dx vs) : SlF H' a C dx vs :=
  ⟨h.1, (f.keep _ _ h.2.1 na).1, (f.keep _ _ h.2.2 nd).1⟩
mutual
theorem Rep.fut0 (f : Fu0 H ι H' ι') : ∀ {v : V} {t : T}, Rep S H ι v t → Rep S H' ι' v t
  | _, _, .non => .non
  | _, _, .bl b => .bl b
  | _, _, .int i => .int i
  | _, _, .str x => .str x
  | _, _, .ty n => .ty n
  | _, _, .cls h => .cls h
  | _, _, .fn h => .fn h
  | _, _, .tup h r => .tup (h.fut f) (Reps.fut0 f r)
  | _, _, .lst h r => .lst (h.fut f) (Reps.fut0 f r)
  | _, _, .dic n h l r => .dic (f.rd n h).1 (f.rd n h).2 l (Reps.fut0 f r)
  | _, _, .ins c na nd h r => .ins c (f.keep _ _ h.2.1 na).2 (f.keep _ _ h.2.2 nd).2 (h.fut f na nd) (Reps.fut0 f r)
  | _, _, .obj h => (f.ids _ _ h).elim .obj .gone
  | _, _, .gone h => .gone ((f.ids _ _ h).elim id id)
  | _, _, .scr h r => .scr (h.fut f) (Reps.fut0 f r)
theorem Reps.fut0 (f : Fu0 H ι H' ι') : ∀ {vs : List V} {ts : List T}, Reps S H ι vs ts → Reps S H' ι' vs ts
  | _, _, .nil => .nil
  | _, _, .cons h r => .cons (Rep.fut0 f h) (Reps.fut0 f r)
end
theorem Rep.fut (f : Fut H ι H' ι') {v : V} {t : T} (h : Rep S H ι v t) : Rep S H' ι' v t := h.fut0 f.toFu0
theorem Reps.fut (f : Fut H ι H' ι') {vs : List V} {ts : List T} (h : Reps S H ι vs ts) : Reps S H' ι' vs ts := h.fut0 f.toFu0
theorem Reps.length : ∀ {vs : List V} {ts : List T}, Reps S H ι vs ts → vs.length = ts.length
  | _, _, .nil => rfl
  | _, _, .cons _ r => congrArg (· + 1) r.length
theorem Reps.append : ∀ {vs ws : List V} {ts us : List T}, Reps S H ι vs ts → Reps S H ι ws us → Reps S H ι (vs ++ ws) (ts ++ us)
  | _, _, _, _, .nil, s => s
  | _, _, _, _, .cons h r, s => .cons h (r.append s)
theorem Reps.get : ∀ {vs : List V} {ts : List T} {i : Nat} {t : T}, Reps S H ι vs ts → ts[i]? = some t → ∃ v, vs[i]? = some v ∧ Rep S H ι v t
  | _, _, _, _, .nil, e => by simp at e
  | _, _, 0, _, .cons h _, e => by simp at e; subst e; exact ⟨_, rfl, h⟩
  | _, _, i + 1, t, .cons _ r, e => by
    obtain ⟨v, h1, h2⟩ := Reps.get (i := i) (t := t) r (by simpa using e)
    exact ⟨v, by simpa using h1, h2⟩
theorem Reps.get' : ∀ {vs : List V} {ts : List T} {i : Nat} {v : V}, Reps S H ι vs ts → vs[i]? = some v → ∃ t, ts[i]? = some t ∧ Rep S H ι v t
  | _, _, _, _, .nil, e => by simp at e
  | _, _, 0, _, .cons h _, e => by simp at e; subst e; exact ⟨_, rfl, h⟩
  | _, _, i + 1, t, .cons _ r, e => by
    obtain ⟨v, h1, h2⟩ := Reps.get' (i := i) (v := t) r (by simpa using e)
    exact ⟨v, by simpa using h1, h2⟩
theorem Reps.take : ∀ {vs : List V} {ts : List T} (n : Nat), Reps S H ι vs ts → Reps S H ι (vs.take n) (ts.take n)
  | _, _, 0, _ => .nil
  | _, _, _ + 1, .nil => .nil
  | _, _, n + 1, .cons h r => .cons h (r.take n)
theorem Reps.drop : ∀ {vs : List V} {ts : List T} (n : Nat), Reps S H ι vs ts → Reps S H ι (vs.drop n) (ts.drop n)
  | _, _, 0, r => r
  | _, _, _ + 1, .nil => .nil
  | _, _, n + 1, .cons _ r => r.drop n
theorem Reps.set {v : V} {t : T} (h : Rep S H ι v t) : ∀ {vs : List V} {ts : List T} (n : Nat), Reps S H ι vs ts → Reps S H ι (vs.set n v) (ts.set n t)
  | _, _, _, .nil => .nil
  | _, _, 0, .cons _ r => .cons h r
  | _, _, n + 1, .cons q r => .cons q (r.set h n)
theorem Reps.snoc {v : V} {t : T} {vs : List V} {ts : List T} (r : Reps S H ι vs ts) (h : Rep S H ι v t) : Reps S H ι (vs ++ [v]) (ts ++ [t]) := r.append (.cons h .nil)
theorem Reps.dropLast {vs : List V} {ts : List T} (r : Reps S H ι vs ts) : Reps S H ι vs.dropLast ts.dropLast := by
  rw [List.dropLast_eq_take, List.dropLast_eq_take, r.length]
  exact r.take _
theorem reps_ints : ∀ {vs : List V} {ns : List Int}, Reps S H ι vs (ns.map T.int) → vs = ns.map V.int
  | _, [], .nil => rfl
  | _, _ :: _, .cons h r => by cases h; rw [reps_ints r]; rfl
theorem reps_of_ints : ∀ (ns : List Int), Reps S H ι (ns.map V.int) (ns.map T.int)
  | [] => .nil
  | n :: ns => .cons (.int n) (reps_of_ints ns)

/-- an id more -/
abbrev Ids.snoc (ι : Ids) (p : Addr) : Ids := ⟨ι.l ++ [some p], ι.lk⟩
/-- an id let go -/
abbrev Ids.drop (ι : Ids) (n : Nat) : Ids := ⟨ι.l.set n none, ι.lk⟩
/-- what is tracked and new does not hurt -/
theorem Fut.grow (t : ∀ a ∈ ι.lk, ∃ o, H a = some o) (e : ∀ b o, H b = some o → H' b = some o) : Fut H ι H' ι := ⟨⟨fun _ _ h => .inl h, fun b o h n => ⟨e b o h, n⟩⟩, fun a h => ⟨h, by
  obtain ⟨o, q⟩ := t a h
  rw [e a o q, q]⟩⟩
theorem Fut.new {p : Addr} {o : HO} (t : ∀ a ∈ ι.lk, ∃ o, H a = some o) (h : H p = none) : Fut H ι (upd H p o) ι := Fut.grow t fun b u e => by rw [upd_ne (ne_of_none e h)]; exact e
theorem Fut.write {p : Addr} {o : HO} (h : some p ∈ ι.l) (nl : p ∉ ι.lk) : Fut H ι (upd H p o) ι := ⟨⟨fun _ _ h => .inl h, fun b u e n => ⟨by
  have : b ≠ p := fun z => n (.inl (z ▸ h))
  rw [upd_ne this]; exact e, n⟩⟩, fun a ha => ⟨ha, upd_ne fun z => nl (z ▸ ha)⟩⟩
theorem Fut.newM {p : Addr} {o : HO} (t : ∀ a ∈ ι.lk, ∃ o, H a = some o) (h : H p = none) : Fut H ι (upd H p o) (ι.snoc p) := by
  refine ⟨⟨fun n o h => .inl ?_, fun b u e n => ⟨?_, fun z => ?_⟩⟩, fun a ha => ⟨ha, ?_⟩⟩
  · show (ι.l ++ [some p])[n]? = some o
    rw [List.getElem?_append_left (List.getElem?_eq_some_iff.mp h).1]; exact h
  · rw [upd_ne (ne_of_none e h)]; exact e
  · rcases z with z | z
    · rcases List.mem_append.mp z with z | z
      · exact n (.inl z)
      · have : b = p := by simpa using z
        rw [this, h] at e; cases e
    · exact n (.inr z)
  · obtain ⟨o, q⟩ := t a ha
    exact upd_ne (ne_of_none q h)
end

/-! ### the store -/
def RepM (S : Sta) (H : Hp) (ι : Ids) (μ : Store) (n : Nat) (a : Addr) : MO → Prop
  | .lst ts => ∃ vs, H a = some (.lst vs) ∧ Reps S H ι vs ts
  | .dic ks ts => ∃ vs, ks.length = vs.length ∧ H a = some (.dK (ks.zip vs)) ∧ Reps S H ι vs ts
  | .ins c ns ts => ∃ (C dx : Addr) (vs : List V) (m : Nat), S.ca c = some C ∧ ι.l[m]? = some (some dx) ∧ μ[m]? = some (some (.aux n)) ∧ ns.length = vs.length ∧ H a = some (.ins C dx (ns.zip vs)) ∧ Reps S H ι vs ts
  | .sl c ts => ∃ (C dx : Addr) (vs : List V) (m : Nat), S.ca c = some C ∧ ι.l[m]? = some (some dx) ∧ μ[m]? = some (some (.aux n)) ∧ SlF H a C dx vs ∧ Reps S H ι vs ts
  | .aux _ => ∃ o, H a = some o
structure StRep (S : Sta) (H : Hp) (ι : Ids) (μ : Store) : Prop where
  len : ι.l.length = μ.length
  nd : ∀ (m n : Nat) (a : Addr), ι.l[m]? = some (some a) → ι.l[n]? = some (some a) → m = n
  obj : ∀ (n : Nat) (o : MO), μ[n]? = some (some o) → ∃ a, ι.l[n]? = some (some a) ∧ RepM S H ι μ n a o
  gone : ∀ (n : Nat), μ[n]? = some none → ι.l[n]? = some none
  lks : ∀ a ∈ ι.lk, (∃ o, H a = some o) ∧ some a ∉ ι.l
section
variable {S : Sta} {H H' : Hp} {ι ι' : Ids} {μ μ' : Store}
theorem inL {n : Nat} {a : Addr} (h : ι.l[n]? = some (some a)) : some a ∈ ι.l := List.mem_iff_getElem?.mpr ⟨n, h⟩
theorem InI.of {n : Nat} {a : Addr} (h : ι.l[n]? = some (some a)) : InI ι a := .inl (inL h)
theorem StRep.tk (s : StRep S H ι μ) : ∀ a ∈ ι.lk, ∃ o, H a = some o := fun a h => (s.lks a h).1
theorem RepM.tracked {n : Nat} {a : Addr} {o : MO} (h : RepM S H ι μ n a o) : ∃ u, H a = some u := by
  cases o with
  | lst ts => obtain ⟨_, h, _⟩ := h; exact ⟨_, h⟩
  | dic ks ts => obtain ⟨_, _, h, _⟩ := h; exact ⟨_, h⟩
  | ins c ns ts => obtain ⟨_, _, _, _, _, _, _, _, h, _⟩ := h; exact ⟨_, h⟩
  | sl c ts => obtain ⟨_, _, _, _, _, _, _, h, _⟩ := h; exact ⟨_, h.2.1⟩
  | aux k => exact h
/-- an object of the store, where its own place and its dict's are as they were -/
theorem RepM.fut {n : Nat} {a : Addr} {o : MO} (f : Fu0 H ι H' ι') (e : ∀ u, H a = some u → H' a = some u) (d : ∀ (m : Nat) dx, ι.l[m]? = some (some dx) → μ[m]? = some (some (.aux n)) → ι'.l[m]? = some (some dx) ∧ μ'[m]? = some (some (.aux n)) ∧ ∀ u, H dx = some u → H' dx = some u)
    (h : RepM S H ι μ n a o) : RepM S H' ι' μ' n a o := by
  cases o with
  | lst ts => obtain ⟨vs, h, r⟩ := h; exact ⟨vs, e _ h, r.fut0 f⟩
  | dic ks ts => obtain ⟨vs, l, h, r⟩ := h; exact ⟨vs, l, e _ h, r.fut0 f⟩
  | ins c ns ts => obtain ⟨C, dx, vs, m, hc, hm, ha, l, h, r⟩ := h; exact ⟨C, dx, vs, m, hc, (d m dx hm ha).1, (d m dx hm ha).2.1, l, e _ h, r.fut0 f⟩
  | sl c ts =>
    obtain ⟨C, dx, vs, m, hc, hm, ha, ⟨h1, h2, h3⟩, r⟩ := h
    obtain ⟨d1, d2, d3⟩ := d m dx hm ha
    exact ⟨C, dx, vs, m, hc, d1, d2, ⟨h1, e _ h2, d3 _ h3⟩, r.fut0 f⟩
  | aux k => obtain ⟨o, h⟩ := h; exact ⟨o, e _ h⟩
theorem StRep.tracked (s : StRep S H ι μ) {a : Addr} (h : InI ι a) : ∃ u, H a = some u := by
  rcases h with h | h
  case inr => exact (s.lks a h).1
  obtain ⟨n, hn⟩ := List.mem_iff_getElem?.mp h
  have hl : n < μ.length := by rw [← s.len]; exact (List.getElem?_eq_some_iff.mp hn).1
  cases q : μ[n]? with
  | none => exact absurd (List.getElem?_eq_none_iff.mp q) (by omega)
  | some o =>
    cases o with
    | none => rw [s.gone n q] at hn; cases hn
    | some o =>
      obtain ⟨b, hb, r⟩ := s.obj n o q
      rw [hn] at hb; cases hb
      exact r.tracked
theorem StRep.same (s : StRep S H ι μ) (e : ∀ b o, H b = some o → H' b = some o) : StRep S H' ι μ :=
  ⟨s.len, s.nd, fun n o h => let ⟨a, ha, r⟩ := s.obj n o h; ⟨a, ha, r.fut (Fut.grow s.tk e).toFu0 (e a) fun m dx h1 h2 => ⟨h1, h2, e dx⟩⟩, s.gone, fun a h => let ⟨⟨o, q⟩, n⟩ := s.lks a h; ⟨⟨o, e a o q⟩, n⟩⟩
theorem StRep.new (s : StRep S H ι μ) {p : Addr} {o : HO} (h : H p = none) : StRep S (upd H p o) ι μ := s.same fun b u e => by rw [upd_ne (ne_of_none e h)]; exact e
theorem get_snoc {α : Type} {l : List α} {x y : α} {n : Nat} (h : (l ++ [x])[n]? = some y) : l[n]? = some y ∨ (n = l.length ∧ y = x) := by
  by_cases hn : n < l.length
  · rw [List.getElem?_append_left hn] at h; exact .inl h
  · rw [List.getElem?_append_right (by omega)] at h
    have : n - l.length = 0 := by
      have := (List.getElem?_eq_some_iff.mp h).1
      simp at this; omega
    rw [this] at h
    simp at h
    exact .inr ⟨by omega, h.symm⟩
theorem get_old {α : Type} {l : List α} {x y : α} {n : Nat} (h : l[n]? = some y) : (l ++ [x])[n]? = some y := by
  rw [List.getElem?_append_left (List.getElem?_eq_some_iff.mp h).1]; exact h
theorem StRep.newM (s : StRep S H ι μ) {p : Addr} {o : HO} {m : MO} (h : H p = none) (r : RepM S (upd H p o) (ι.snoc p) (μ ++ [some m]) μ.length p m) : StRep S (upd H p o) (ι.snoc p) (μ ++ [some m]) where
  len := by simp [s.len]
  nd := by
    have np : ∀ (n : Nat), ι.l[n]? ≠ some (some p) := fun n q => by
      obtain ⟨u, z⟩ := s.tracked (InI.of q)
      rw [h] at z; cases z
    intro m n a h1 h2
    rcases get_snoc h1 with h1 | ⟨h1, e1⟩ <;> rcases get_snoc h2 with h2 | ⟨h2, e2⟩
    · exact s.nd m n a h1 h2
    · cases e2; exact absurd h1 (np m)
    · cases e1; exact absurd h2 (np n)
    · omega
  obj := fun n o' q => by
    have keep : ∀ b u, H b = some u → upd H p o b = some u := fun b u e => by rw [upd_ne (ne_of_none e h)]; exact e
    rcases get_snoc q with q | ⟨hn, e⟩
    · obtain ⟨a, ha, r'⟩ := s.obj n o' q
      exact ⟨a, get_old ha, r'.fut (Fut.newM s.tk h).toFu0 (keep a) fun k dx h1 h2 => ⟨get_old h1, get_old h2, keep dx⟩⟩
    · cases e
      subst hn
      refine ⟨p, ?_, r⟩
      show (ι.l ++ [some p])[μ.length]? = _
      rw [← s.len, List.getElem?_append_right (Nat.le_refl _), Nat.sub_self]
      rfl
  gone := fun n q => by
    rcases get_snoc q with q | ⟨hn, e⟩
    · exact get_old (s.gone n q)
    · cases e
  lks := fun a h' => by
    obtain ⟨⟨u, q⟩, n⟩ := s.lks a h'
    refine ⟨⟨u, by rw [upd_ne (ne_of_none q h)]; exact q⟩, fun z => ?_⟩
    rcases List.mem_append.mp z with z | z
    · exact n z
    · have : a = p := by simpa using z
      rw [this, h] at q; cases q
theorem StRep.at (s : StRep S H ι μ) {n : Nat} {o : MO} (h : μ[n]? = some (some o)) {v : V} (r : Rep S H ι v (.obj n)) : ∃ a, v = .ref a ∧ ι.l[n]? = some (some a) ∧ RepM S H ι μ n a o := by
  obtain ⟨a, ha, m⟩ := s.obj n o h
  cases r with
  | obj e => rw [e] at ha; cases ha; exact ⟨_, rfl, e, m⟩
  | gone e => rw [e] at ha; cases ha
theorem StRep.nlk (s : StRep S H ι μ) {n : Nat} {p : Addr} (h : ι.l[n]? = some (some p)) : p ∉ ι.lk := fun z => (s.lks p z).2 (inL h)
/-- an object of the store is written: no aux -/
theorem StRep.put (s : StRep S H ι μ) {n : Nat} {p : Addr} {o : HO} {m m₀ : MO} (hm : μ[n]? = some (some m₀)) (h0 : ∀ k, m₀ ≠ .aux k) (hp : ι.l[n]? = some (some p)) (r : RepM S (upd H p o) ι (μ.set n (some m)) n p m) : StRep S (upd H p o) ι (μ.set n (some m)) where
  len := by simp [s.len]
  nd := s.nd
  obj := fun k o' q => by
    have hl : n < μ.length := (List.getElem?_eq_some_iff.mp hm).1
    by_cases hk : k = n
    · subst hk
      rw [List.getElem?_set_self hl] at q
      cases q
      exact ⟨p, hp, r⟩
    · rw [List.getElem?_set_ne (Ne.symm hk)] at q
      obtain ⟨a, ha, r'⟩ := s.obj k o' q
      refine ⟨a, ha, r'.fut (Fut.write (inL hp) (s.nlk hp)).toFu0 (fun u e => ?_) fun j dx h1 h2 => ?_⟩
      · have : a ≠ p := fun z => hk (s.nd k n a ha (z ▸ hp))
        rw [upd_ne this]; exact e
      · have hj : j ≠ n := fun z => by subst z; rw [hm] at h2; cases h2; exact h0 _ rfl
        have : dx ≠ p := fun z => hj (s.nd j n dx h1 (z ▸ hp))
        exact ⟨h1, by rw [List.getElem?_set_ne (Ne.symm hj)]; exact h2, fun u e => by rw [upd_ne this]; exact e⟩
  gone := fun k q => by
    have hl : n < μ.length := (List.getElem?_eq_some_iff.mp hm).1
    by_cases hk : k = n
    · subst hk
      rw [List.getElem?_set_self hl] at q
      cases q
    · rw [List.getElem?_set_ne (Ne.symm hk)] at q
      exact s.gone k q
  lks := fun a h' => by
    obtain ⟨⟨u, q⟩, nn⟩ := s.lks a h'
    have : a ≠ p := fun z => s.nlk hp (z ▸ h')
    exact ⟨⟨u, by rw [upd_ne this]; exact q⟩, nn⟩
theorem not_set {α : Type} {l : List (Option α)} {n : Nat} {a : α} (h : some a ∈ l.set n none) : some a ∈ l := by
  obtain ⟨k, hk⟩ := List.mem_iff_getElem?.mp h
  rw [List.getElem?_set] at hk
  split at hk
  · split at hk <;> cases hk
  · exact List.mem_iff_getElem?.mpr ⟨k, hk⟩
theorem Fut.drop {n : Nat} : Fut H ι H (ι.drop n) := by
  refine ⟨⟨fun k o h => ?_, fun b o h nb => ⟨h, fun z => nb (z.imp not_set id)⟩⟩, fun _ h => ⟨h, rfl⟩⟩
  by_cases hk : k = n
  · subst hk
    exact .inr (List.getElem?_set_self (List.getElem?_eq_some_iff.mp h).1)
  · exact .inl (by show (ι.l.set n none)[k]? = some o; rw [List.getElem?_set_ne (Ne.symm hk)]; exact h)
/-- an object that is no aux is let go: no one may change it any more -/
theorem StRep.drop (s : StRep S H ι μ) {n : Nat} {m₀ : MO} (hm : μ[n]? = some (some m₀)) (h0 : ∀ k, m₀ ≠ .aux k) : StRep S H (ι.drop n) (μ.set n none) where
  len := by simp [s.len]
  nd := fun m k a h1 h2 => by
    have f : ∀ (m : Nat), (ι.l.set n none)[m]? = some (some a) → ι.l[m]? = some (some a) := fun m h => by
      rw [List.getElem?_set] at h
      split at h
      · split at h <;> cases h
      · exact h
    exact s.nd m k a (f m h1) (f k h2)
  obj := fun k o' q => by
    have hn : n < μ.length := (List.getElem?_eq_some_iff.mp hm).1
    by_cases hk : k = n
    · subst hk
      rw [List.getElem?_set_self hn] at q
      cases q
    · rw [List.getElem?_set_ne (Ne.symm hk)] at q
      obtain ⟨a, ha, r'⟩ := s.obj k o' q
      refine ⟨a, (List.getElem?_set_ne (Ne.symm hk)).trans ha, r'.fut Fut.drop.toFu0 (fun u e => e) fun j dx h1 h2 => ?_⟩
      have hj : j ≠ n := fun z => by subst z; rw [hm] at h2; cases h2; exact h0 _ rfl
      exact ⟨(List.getElem?_set_ne (Ne.symm hj)).trans h1, by rw [List.getElem?_set_ne (Ne.symm hj)]; exact h2, fun u e => e⟩
  gone := fun k q => by
    have hn : n < μ.length := (List.getElem?_eq_some_iff.mp hm).1
    by_cases hk : k = n
    · subst hk
      exact List.getElem?_set_self (by rw [s.len]; exact hn)
    · rw [List.getElem?_set_ne (Ne.symm hk)] at q
      exact (List.getElem?_set_ne (Ne.symm hk)).trans (s.gone k q)
  lks := fun a h' => let ⟨q, nn⟩ := s.lks a h'; ⟨q, fun z => nn (not_set z)⟩
/-- the aux of an object that was let go -/
theorem StRep.dropAux (s : StRep S H ι μ) {n m : Nat} (hm : μ[m]? = some (some (.aux n))) (hn : μ[n]? = some none) : StRep S H (ι.drop m) (μ.set m none) where
  len := by simp [s.len]
  nd := fun i k a h1 h2 => by
    have f : ∀ (i : Nat), (ι.l.set m none)[i]? = some (some a) → ι.l[i]? = some (some a) := fun i h => by
      rw [List.getElem?_set] at h
      split at h
      · split at h <;> cases h
      · exact h
    exact s.nd i k a (f i h1) (f k h2)
  obj := fun k o' q => by
    have hl : m < μ.length := (List.getElem?_eq_some_iff.mp hm).1
    by_cases hk : k = m
    · subst hk
      rw [List.getElem?_set_self hl] at q
      cases q
    · rw [List.getElem?_set_ne (Ne.symm hk)] at q
      obtain ⟨a, ha, r'⟩ := s.obj k o' q
      refine ⟨a, (List.getElem?_set_ne (Ne.symm hk)).trans ha, r'.fut Fut.drop.toFu0 (fun u e => e) fun j dx h1 h2 => ?_⟩
      have hj : j ≠ m := fun z => by
        subst z
        rw [hm] at h2
        cases h2
        rw [hn] at q
        cases q
      exact ⟨(List.getElem?_set_ne (Ne.symm hj)).trans h1, by rw [List.getElem?_set_ne (Ne.symm hj)]; exact h2, fun u e => e⟩
  gone := fun k q => by
    have hl : m < μ.length := (List.getElem?_eq_some_iff.mp hm).1
    by_cases hk : k = m
    · subst hk
      exact List.getElem?_set_self (by rw [s.len]; exact hl)
    · rw [List.getElem?_set_ne (Ne.symm hk)] at q
      exact (List.getElem?_set_ne (Ne.symm hk)).trans (s.gone k q)
  lks := fun a h' => let ⟨q, nn⟩ := s.lks a h'; ⟨q, fun z => nn (not_set z)⟩
end
end Tw

/-! Tw2: the judgements over trees -/
namespace Tw
open PySem L2

def RepE (S : Sta) (H : Hp) (ι : Ids) (σ : L2.St) (ρ : Env) : Prop := σ.length = ρ.length ∧ ∀ (i : Nat) (t : T), ρ[i]? = some (some t) → ∃ v, σ[i]? = some (some v) ∧ Rep S H ι v t
theorem RepE.fut {S : Sta} {H H' : Hp} {ι ι' : Ids} {σ : L2.St} {ρ : Env} (f : Fut H ι H' ι') (h : RepE S H ι σ ρ) : RepE S H' ι' σ ρ :=
  ⟨h.1, fun i t e => let ⟨v, a, b⟩ := h.2 i t e; ⟨v, a, b.fut f⟩⟩
theorem RepE.set {S : Sta} {H : Hp} {ι : Ids} {σ : L2.St} {ρ : Env} {i : Nat} {v : V} {t : T} (h : RepE S H ι σ ρ) (r : Rep S H ι v t) : RepE S H ι (σ.set i (some v)) (ρ.set i (some t)) := by
  refine ⟨by simp [h.1], fun j u e => ?_⟩
  by_cases hj : j = i
  · subst hj
    have hl : j < ρ.length := by
      have := (List.getElem?_eq_some_iff.mp e).1
      simpa using this
    rw [List.getElem?_set_self hl] at e
    cases e
    exact ⟨v, List.getElem?_set_self (by rw [h.1]; exact hl), r⟩
  · rw [List.getElem?_set_ne (Ne.symm hj)] at e
    obtain ⟨w, a, b⟩ := h.2 j u e
    exact ⟨w, by rw [List.getElem?_set_ne (Ne.symm hj)]; exact a, b⟩
/-- an exception: its class, its own dict -/
def RepX (S : Sta) (H : Hp) (ι : Ids) (cls : Value) (d : Option Addr) (e : Exc) : Prop :=
  ∃ C, cls = .ref C ∧ S.ca e.cls = some C ∧ ((d = none ∧ e.ns = []) ∨ ∃ dx vs, d = some dx ∧ ¬ InI ι dx ∧ e.ns.length = vs.length ∧ H dx = some (.xd (e.ns.zip vs)) ∧ Reps S H ι vs e.ts)

section
variable (S : Sta) (W : WX) (σ : L2.St)
def Pst {α β : Type} (H : Hp) (ι : Ids) (rel : Hp → Ids → β → α → Prop) (r : Res α) (Q : β → Hp → Prop) : Prop := match r with
  | .ok a μ' => ∀ b H' ι', Fut H ι H' ι' → StRep S H' ι' μ' → rel H' ι' b a → Q b H'
  | .ex e μ' => ∀ cls d H' ι', Fut H ι H' ι' → StRep S H' ι' μ' → RepX S H' ι' cls d e → W cls d σ H'
  | .bad => False
end
section
variable {S : Sta} {W : WX} {σ : L2.St} {H H1 : Hp} {ι ι1 : Ids}
theorem Pst.later {α β : Type} {rel : Hp → Ids → β → α → Prop} {r : Res α} {Q : β → Hp → Prop} (f : Fut H ι H1 ι1) (h : Pst S W σ H ι rel r Q) : Pst S W σ H1 ι1 rel r Q := by
  cases r with
  | ok a μ => exact fun b H' ι' f' => h b H' ι' (f.trans f')
  | ex e μ => exact fun c d H' ι' f' => h c d H' ι' (f.trans f')
  | bad => exact h
theorem Pst.mono {α β : Type} {rel : Hp → Ids → β → α → Prop} {r : Res α} {Q Q' : β → Hp → Prop} (h : Pst S W σ H ι rel r Q) (q : ∀ b H', Q b H' → Q' b H') : Pst S W σ H ι rel r Q' := by
  cases r with
  | ok a μ => exact fun b H' ι' f s r => q _ _ (h b H' ι' f s r)
  | ex e μ => exact h
  | bad => exact h
theorem Pst.seq {α β γ δ : Type} {rel : Hp → Ids → β → α → Prop} {rel2 : Hp → Ids → δ → γ → Prop} {m : M α} {k : α → M γ} {μ : Store} {Q : δ → Hp → Prop} (h : Pst S W σ H ι rel2 (bnd m k μ) Q) :
    Pst S W σ H ι rel (m μ) (fun b H1 => ∃ ι1 μ1 a, Fut H ι H1 ι1 ∧ StRep S H1 ι1 μ1 ∧ rel H1 ι1 b a ∧ Pst S W σ H1 ι1 rel2 (k a μ1) Q) := by
  unfold bnd at h
  cases e : m μ with
  | ok a μ1 =>
    rw [e] at h
    exact fun b H1 ι1 f s r => ⟨ι1, μ1, a, f, s, r, Pst.later f h⟩
  | ex x μ1 =>
    rw [e] at h
    exact h
  | bad =>
    rw [e] at h
    exact h
/-- the value is there -/
theorem Pst.now {α β : Type} {rel : Hp → Ids → β → α → Prop} {a : α} {b : β} {μ : Store} {Q : β → Hp → Prop} (h : Pst S W σ H ι rel (.ok a μ) Q) (s : StRep S H ι μ) (r : rel H ι b a) : Q b H := h b H ι (Fut.refl H ι) s r
/-- a new thing that no one changes -/
theorem Pst.new {α β : Type} {rel : Hp → Ids → β → α → Prop} {a : α} {b : β} {μ : Store} {Q : β → Hp → Prop} {p : Addr} {o : HO} (h : Pst S W σ H ι rel (.ok a μ) Q) (s : StRep S H ι μ) (hp : H p = none) (r : rel (upd H p o) ι b a) : Q b (upd H p o) :=
  h b _ ι (Fut.new s.tk hp) (s.new hp) r
theorem StRep.fresh {μ : Store} {p : Addr} (s : StRep S H ι μ) (h : H p = none) : ¬ InI ι p := fun z => by
  obtain ⟨u, e⟩ := s.tracked z
  rw [h] at e; cases e
theorem Rep.newT {μ : Store} {p : Addr} {vs : List V} {ts : List T} (s : StRep S H ι μ) (h : H p = none) (r : Reps S H ι vs ts) : Rep S (upd H p (.tup vs)) ι (.ref p) (.tup ts) :=
  .tup (.inl ⟨s.fresh h, .inl upd_same⟩) (r.fut (Fut.new s.tk h))
theorem Rep.newL {μ : Store} {p : Addr} {vs : List V} {ts : List T} (s : StRep S H ι μ) (h : H p = none) (r : Reps S H ι vs ts) : Rep S (upd H p (.lst vs)) ι (.ref p) (.lst ts) :=
  .lst ⟨s.fresh h, .inl upd_same⟩ (r.fut (Fut.new s.tk h))
end

/-- a value, a test, arguments -/
def tEv (S : Sta) (W : WX) (f : Env → M T) : TE := fun σ H Q => ∃ ρ ι μ, RepE S H ι σ ρ ∧ StRep S H ι μ ∧ Pst S W σ H ι (Rep S) (f ρ μ) Q
def tTv (S : Sta) (W : WX) (f : Env → M Bool) : TT := fun σ H Q => ∃ ρ ι μ, RepE S H ι σ ρ ∧ StRep S H ι μ ∧ Pst S W σ H ι (fun _ _ b a => b = a) (f ρ μ) Q
def tAv (S : Sta) (W : WX) (f : Env → M (List T)) : TA := fun σ H Q => ∃ ρ ι μ, RepE S H ι σ ρ ∧ StRep S H ι μ ∧ Pst S W σ H ι (Reps S) (f ρ μ) Q

theorem PE.weak {X : Cx} {e : Expr} {t t' : TE} (h : PE X e t) (w : ∀ σ H Q, t' σ H Q → t σ H Q) : PE X e t' := ⟨fun pins s σ H Q I q => h.run pins s σ H Q I (w σ H Q q)⟩
theorem PT.weak {X : Cx} {e : Expr} {t t' : TT} (h : PT X e t) (w : ∀ σ H Q, t' σ H Q → t σ H Q) : PT X e t' := ⟨fun pins s σ H Q I q => h.run pins s σ H Q I (w σ H Q q)⟩
theorem PW.weak {X : Cx} {e : Expr} {t t' : TT} (h : PW X e t) (w : ∀ σ H Q, t' σ H Q → t σ H Q) : PW X e t' := ⟨fun wh pins s σ H Q I q => h.run wh pins s σ H Q I (w σ H Q q)⟩
theorem PA.weak {X : Cx} {es : List Expr} {t t' : TA} (h : PA X es t) (w : ∀ σ H Q, t' σ H Q → t σ H Q) : PA X es t' := ⟨fun pos pins s σ H Q I q => h.run pos pins s σ H Q I (w σ H Q q)⟩
theorem PS.weak {X : Cx} {st : Stmt} {t t' : TS} (h : PS X st t) (w : ∀ D σ H, t' D σ H → t D σ H) : PS X st t' := ⟨fun pins s σ H D I q => h.run pins s σ H D I (w D σ H q)⟩
theorem PSs.weak {X : Cx} {st : List Stmt} {t t' : TS} (h : PSs X st t) (w : ∀ D σ H, t' D σ H → t D σ H) : PSs X st t' := ⟨fun pins s σ H D I q => h.run pins s σ H D I (w D σ H q)⟩

/-! ### combinators -/
def cVar (i : Nat) : Env → M T := fun ρ => match ρ[i]? with
  | some (some t) => ret t
  | _ => bad
def cK (t : T) : Env → M T := fun _ => ret t
def c1 (g : T → M T) (a : Env → M T) : Env → M T := fun ρ => bnd (a ρ) g
def c2 (g : T → T → M T) (a b : Env → M T) : Env → M T := fun ρ => bnd (a ρ) fun x => bnd (b ρ) fun y => g x y
def cN (g : List T → M T) (a : Env → M (List T)) : Env → M T := fun ρ => bnd (a ρ) g
def aNil : Env → M (List T) := fun _ => ret []
def aCons (a : Env → M T) (r : Env → M (List T)) : Env → M (List T) := fun ρ => bnd (a ρ) fun x => bnd (r ρ) fun xs => ret (x :: xs)
/-- as a test: a bool -/
def cTest (a : Env → M T) : Env → M Bool := fun ρ => bnd (a ρ) fun x => match x with
  | .bl b => ret b
  | _ => bad
def cAnd (a b : Env → M Bool) : Env → M Bool := fun ρ => bnd (a ρ) fun x => if x then b ρ else ret false
def cOr (a b : Env → M Bool) : Env → M Bool := fun ρ => bnd (a ρ) fun x => if x then ret true else b ρ
def cNot (a : Env → M Bool) : Env → M Bool := fun ρ => bnd (a ρ) fun x => ret (!x)
def cIf (c : Env → M Bool) (a b : Env → M T) : Env → M T := fun ρ => bnd (c ρ) fun x => if x then a ρ else b ρ
/-- a and b, a or b, not a, of bools as values -/
def cAndV (a b : Env → M T) : Env → M T := fun ρ => bnd (a ρ) fun x => match x with
  | .bl true => b ρ
  | .bl false => ret (.bl false)
  | _ => bad
def cOrV (a b : Env → M T) : Env → M T := fun ρ => bnd (a ρ) fun x => match x with
  | .bl false => b ρ
  | .bl true => ret (.bl true)
  | _ => bad
def cNotV (a : Env → M T) : Env → M T := fun ρ => bnd (a ρ) fun x => match x with
  | .bl b => ret (.bl (!b))
  | _ => bad

section
variable {X : Cx} {S : Sta} {W : WX} {a b c : Expr} {fa fb fc : Env → M T} {pos : Pos}
abbrev PV (X : Cx) (S : Sta) (W : WX) (e : Expr) (f : Env → M T) : Prop := PE X e (tEv S W f)

/-- the pieces: a value ahead -/
theorem ev_bind {ta : TE} {m : M T} {k : T → M T} {ρ : Env} {σ : L2.St} {H : Hp} {ι : Ids} {μ : Store} {Q : VK} (he : RepE S H ι σ ρ) (hs : StRep S H ι μ) (hm : m = fa ρ) (h : Pst S W σ H ι (Rep S) (bnd m k μ) Q)
    {R : VK} (next : ∀ x H1 ι1 μ1 t, RepE S H1 ι1 σ ρ → StRep S H1 ι1 μ1 → Fut H ι H1 ι1 → Rep S H1 ι1 x t → Pst S W σ H1 ι1 (Rep S) (k t μ1) Q → R x H1) : tEv S W fa σ H R := by
  subst hm
  exact ⟨ρ, ι, μ, he, hs, (Pst.seq (rel := Rep S) h).mono fun x H1 ⟨ι1, μ1, t, f, s, r, q⟩ => next x H1 ι1 μ1 t (he.fut f) s f r q⟩
end
end Tw

/-! Tw3: expressions -/
namespace Tw
open PySem L2

/-- the longest list, text -/
abbrev lim : Nat := 16777216
theorem lim_eq : (sizeLine : Nat) = lim := sizeLine_eq

/-! ### readers -/
def lstOf (t : T) (μ : Store) : Option (List T) := match t with
  | .lst ts => some ts
  | .obj n => match μ[n]? with
    | some (some (.lst ts)) => some ts
    | _ => none
  | _ => none
def seqOf (t : T) (μ : Store) : Option (List T) := match t with
  | .tup ts => some ts
  | .scr ts => some ts
  | t => lstOf t μ
def dicOf (t : T) (μ : Store) : Option (List Key × List T) := match t with
  | .dic ks ts => some (ks, ts)
  | .obj n => match μ[n]? with
    | some (some (.dic ks ts)) => some (ks, ts)
    | _ => none
  | _ => none
section
variable {S : Sta} {W : WX} {σ : L2.St} {H : Hp} {ι : Ids} {μ : Store}
theorem lst_read {t : T} {ts : List T} {v : V} (e : lstOf t μ = some ts) (s : StRep S H ι μ) (r : Rep S H ι v t) : ∃ a vs, v = .ref a ∧ Rd H a (.lst vs) ∧ Reps S H ι vs ts := by
  cases t with
  | lst us =>
    cases e
    cases r with
    | lst h q => exact ⟨_, _, rfl, h.2, q⟩
  | obj n =>
    have e' : (match μ[n]? with | some (some (MO.lst ts)) => some ts | _ => none) = some ts := e
    split at e'
    · rename_i us hm
      cases e'
      obtain ⟨a, rfl, _, vs, h, q⟩ := s.at hm r
      exact ⟨a, vs, rfl, .inl h, q⟩
    · cases e'
  | _ => cases e
theorem seq_read {t : T} {ts : List T} {v : V} (e : seqOf t μ = some ts) (s : StRep S H ι μ) (r : Rep S H ι v t) : ∃ a vs, v = .ref a ∧ (SqT S.K H a vs ∨ SqL S.K H a vs) ∧ Reps S H ι vs ts := by
  cases t with
  | tup us =>
    cases e
    cases r with
    | tup h q => exact ⟨_, _, rfl, .inl h.sq, q⟩
  | scr us =>
    cases e
    cases r with
    | scr h q => exact ⟨_, _, rfl, .inr h.sq, q⟩
  | lst us => obtain ⟨a, vs, h1, h2, h3⟩ := lst_read (t := .lst us) e s r; exact ⟨a, vs, h1, .inr (.inl h2), h3⟩
  | obj n => obtain ⟨a, vs, h1, h2, h3⟩ := lst_read (t := .obj n) e s r; exact ⟨a, vs, h1, .inr (.inl h2), h3⟩
  | _ => cases e
theorem dic_read {t : T} {ks : List Key} {ts : List T} {v : V} (e : dicOf t μ = some (ks, ts)) (s : StRep S H ι μ) (r : Rep S H ι v t) : ∃ a vs, v = .ref a ∧ ks.length = vs.length ∧ Rd H a (.dK (ks.zip vs)) ∧ Reps S H ι vs ts := by
  cases t with
  | dic us ws =>
    cases e
    cases r with
    | dic n h l q => exact ⟨_, _, rfl, l, h, q⟩
  | obj n =>
    have e' : (match μ[n]? with | some (some (MO.dic ks ts)) => some (ks, ts) | _ => none) = some (ks, ts) := e
    split at e'
    · rename_i us ws hm
      cases e'
      obtain ⟨a, rfl, _, vs, l, h, q⟩ := s.at hm r
      exact ⟨a, vs, rfl, l, .inl h, q⟩
    · cases e'
  | _ => cases e
end

section
variable {X : Cx} {S : Sta} {W : WX} {a b c : Expr} {fa fb fc : Env → M T} {pos : Pos}
/-- a value, then more -/
theorem ev_then {γ δ : Type} {rel : Hp → Ids → δ → γ → Prop} {k : T → M γ} {ρ : Env} {σ : L2.St} {H : Hp} {ι : Ids} {μ : Store} {Q : δ → Hp → Prop} (he : RepE S H ι σ ρ) (hs : StRep S H ι μ) (h : Pst S W σ H ι rel (bnd (fa ρ) k μ) Q)
    {R : VK} (next : ∀ x H1 ι1 μ1 t, RepE S H1 ι1 σ ρ → StRep S H1 ι1 μ1 → Fut H ι H1 ι1 → Rep S H1 ι1 x t → Pst S W σ H1 ι1 rel (k t μ1) Q → R x H1) : tEv S W fa σ H R :=
  ⟨ρ, ι, μ, he, hs, (Pst.seq (rel := Rep S) h).mono fun x H1 ⟨ι1, μ1, t, f, s, r, q⟩ => next x H1 ι1 μ1 t (he.fut f) s f r q⟩
theorem tv_then {γ δ : Type} {rel : Hp → Ids → δ → γ → Prop} {fa : Env → M Bool} {k : Bool → M γ} {ρ : Env} {σ : L2.St} {H : Hp} {ι : Ids} {μ : Store} {Q : δ → Hp → Prop} (he : RepE S H ι σ ρ) (hs : StRep S H ι μ) (h : Pst S W σ H ι rel (bnd (fa ρ) k μ) Q)
    {R : Bool → Hp → Prop} (next : ∀ x H1 ι1 μ1, RepE S H1 ι1 σ ρ → StRep S H1 ι1 μ1 → Fut H ι H1 ι1 → Pst S W σ H1 ι1 rel (k x μ1) Q → R x H1) : tTv S W fa σ H R :=
  ⟨ρ, ι, μ, he, hs, (Pst.seq (rel := fun _ _ b a => b = a) h).mono fun x H1 ⟨ι1, μ1, t, f, s, r, q⟩ => by subst r; exact next x H1 ι1 μ1 (he.fut f) s f q⟩
theorem av_then {γ δ : Type} {rel : Hp → Ids → δ → γ → Prop} {fa : Env → M (List T)} {k : List T → M γ} {ρ : Env} {σ : L2.St} {H : Hp} {ι : Ids} {μ : Store} {Q : δ → Hp → Prop} (he : RepE S H ι σ ρ) (hs : StRep S H ι μ) (h : Pst S W σ H ι rel (bnd (fa ρ) k μ) Q)
    {R : List V → Hp → Prop} (next : ∀ x H1 ι1 μ1 t, RepE S H1 ι1 σ ρ → StRep S H1 ι1 μ1 → Fut H ι H1 ι1 → Reps S H1 ι1 x t → Pst S W σ H1 ι1 rel (k t μ1) Q → R x H1) : tAv S W fa σ H R :=
  ⟨ρ, ι, μ, he, hs, (Pst.seq (rel := Reps S) h).mono fun x H1 ⟨ι1, μ1, t, f, s, r, q⟩ => next x H1 ι1 μ1 t (he.fut f) s f r q⟩

abbrev PVt (X : Cx) (S : Sta) (W : WX) (e : Expr) (f : Env → M Bool) : Prop := PT X e (tTv S W f)
abbrev PVw (X : Cx) (S : Sta) (W : WX) (e : Expr) (f : Env → M Bool) : Prop := PW X e (tTv S W f)
abbrev PVa (X : Cx) (S : Sta) (W : WX) (es : List Expr) (f : Env → M (List T)) : Prop := PA X es (tAv S W f)

/-! ### names, constants -/
theorem pv_var {i : Nat} {x : Str} (hN : X.N[i]? = some x) (hv : Vis X.env.scope x) (hd : (x == ("__debug__" : Str)) = false) (hcd : (x == ("__classdict__" : Str)) = false) : PV X S W (.Name x pos) (cVar i) :=
  PE.weak (pe_var hN hv hd hcd) fun σ H Q ⟨ρ, ι, μ, he, hs, h⟩ => by
    unfold cVar at h
    cases e : ρ[i]? with
    | none => rw [e] at h; exact h.elim
    | some o =>
      cases o with
      | none => rw [e] at h; exact h.elim
      | some t =>
        rw [e] at h
        obtain ⟨v, h1, h2⟩ := he.2 i t e
        exact ⟨v, h1, Pst.now h hs h2⟩
theorem pv_con {v : V} {t : T} {e : Expr} (h : PE X e (tC v)) (r : ∀ H ι, Rep S H ι v t) : PV X S W e (cK t) :=
  PE.weak h fun σ H Q ⟨ρ, ι, μ, he, hs, h⟩ => Pst.now h hs (r H ι)
theorem pv_int {i : Int} {j : Nat} : PV X S W (.Constant (.int i) j pos) (cK (.int i)) := pv_con pe_int fun _ _ => .int i
theorem pv_bl {i : Bool} {j : Nat} : PV X S W (.Constant (.bool i) j pos) (cK (.bl i)) := pv_con pe_bl fun _ _ => .bl i
theorem pv_non {j : Nat} : PV X S W (.Constant .none j pos) (cK .non) := pv_con pe_non fun _ _ => .non
theorem pv_str {i : Str} {j : Nat} : PV X S W (.Constant (.str i) j pos) (cK (.str i)) := pv_con pe_str fun _ _ => .str i

/-! ### arguments, displays -/
theorem pva_nil : PVa X S W [] aNil := PA.weak pa_nil fun σ H Q ⟨ρ, ι, μ, he, hs, h⟩ => Pst.now h hs .nil
theorem pva_cons {e : Expr} {es : List Expr} {f : Env → M T} {g : Env → M (List T)} (he : PV X S W e f) (hr : PVa X S W es g) (hst : starEach (e :: es) X.env = (false, eval e X.env) :: starEach es X.env) : PVa X S W (e :: es) (aCons f g) :=
  PA.weak (pa_cons he hr hst) fun σ H Q ⟨ρ, ι, μ, he, hs, h⟩ =>
    ev_then he hs h fun x H1 ι1 μ1 t he1 hs1 f1 r1 h1 => av_then he1 hs1 h1 fun xs H2 ι2 μ2 ts he2 hs2 f2 r2 h2 => Pst.now h2 hs2 (.cons (r1.fut f2) r2)
def mSeq (x : T) : M (List T) := fun μ => match seqOf x μ with
  | some xs => .ok xs μ
  | none => .bad
theorem mSeq_some {x : T} {μ : Store} {xs : List T} (h : seqOf x μ = some xs) : mSeq x μ = .ok xs μ := by unfold mSeq; rw [h]
theorem mSeq_none {x : T} {μ : Store} (h : seqOf x μ = none) : mSeq x μ = .bad := by unfold mSeq; rw [h]
def aStar (a : Env → M T) (r : Env → M (List T)) : Env → M (List T) := fun ρ => bnd (a ρ) fun x => bnd (mSeq x) fun xs => bnd (r ρ) fun ys => ret (xs ++ ys)
theorem pva_star {e : Expr} {es : List Expr} {f : Env → M T} {g : Env → M (List T)} {p : Pos} (hK : X.K = S.K) (he : PV X S W e f) (hr : PVa X S W es g) : PVa X S W (.Starred e p :: es) (aStar f g) :=
  PA.weak (StX.pa_star he hr rfl) fun σ H Q ⟨ρ, ι, μ, he, hs, h⟩ =>
    ev_then he hs h fun x H1 ι1 μ1 t he1 hs1 f1 r1 h1 => by
      cases e : seqOf t μ1 with
      | none =>
        unfold bnd at h1
        rw [mSeq_none e] at h1
        exact h1.elim
      | some ts =>
        unfold bnd at h1
        rw [mSeq_some e] at h1
        obtain ⟨a, vs, rfl, q, rs⟩ := seq_read e hs1 r1
        refine ⟨a, vs, rfl, ?_, ?_⟩
        · rw [hK]
          exact q
        · exact av_then (k := fun ys => ret (ts ++ ys)) he1 hs1 h1 fun xs H2 ι2 μ2 us he2 hs2 f2 r2 h2 => Pst.now h2 hs2 ((rs.fut f2).append r2)
/-- (..), [..] -/
def mTup (ts : List T) : M T := if ts.length ≤ lim then ret (.tup ts) else bad
def mLst (ts : List T) : M T := if ts.length ≤ lim then ret (.lst ts) else bad
/-- a list that is changed later on -/
def mNew (ts : List T) : M T := if ts.length ≤ lim then fun μ => .ok (.obj μ.length) (μ ++ [some (.lst ts)]) else bad
theorem pv_tup {es : List Expr} {f : Env → M (List T)} {k : Nat} (h : PVa X S W es f) : PV X S W (.Tuple es k pos) (cN mTup f) :=
  PE.weak (pe_tup h) fun σ H Q ⟨ρ, ι, μ, he, hs, h⟩ => av_then he hs h fun vs H1 ι1 μ1 ts he1 hs1 f1 r1 h1 => by
    unfold mTup at h1
    split at h1
    · rename_i hl
      exact ⟨by rw [r1.length, lim_eq]; exact hl, fun p hp => Pst.new h1 hs1 hp (Rep.newT hs1 hp r1)⟩
    · exact h1.elim
theorem pv_lst {es : List Expr} {f : Env → M (List T)} (h : PVa X S W es f) : PV X S W (.List es pos) (cN mLst f) :=
  PE.weak (pe_lst h) fun σ H Q ⟨ρ, ι, μ, he, hs, h⟩ => av_then he hs h fun vs H1 ι1 μ1 ts he1 hs1 f1 r1 h1 => by
    unfold mLst at h1
    split at h1
    · rename_i hl
      exact ⟨by rw [r1.length, lim_eq]; exact hl, fun p hp => Pst.new h1 hs1 hp (Rep.newL hs1 hp r1)⟩
    · exact h1.elim
theorem Pst.newM {a : T} {b : V} {μ : Store} {Q : VK} {p : Addr} {o : HO} {m : MO} {σ : L2.St} {H : Hp} {ι : Ids} (h : Pst S W σ H ι (Rep S) (.ok (.obj μ.length) (μ ++ [some m])) Q) (s : StRep S H ι μ) (hp : H p = none)
    (r : RepM S (upd H p o) (ι.snoc p) (μ ++ [some m]) μ.length p m) : Q (.ref p) (upd H p o) :=
  h (.ref p) _ _ (Fut.newM s.tk hp) (s.newM hp r) (.obj (by show (ι.l ++ [some p])[μ.length]? = _; rw [← s.len, List.getElem?_append_right (Nat.le_refl _), Nat.sub_self]; rfl))
theorem pv_new {es : List Expr} {f : Env → M (List T)} (h : PVa X S W es f) : PV X S W (.List es pos) (cN mNew f) :=
  PE.weak (pe_lst h) fun σ H Q ⟨ρ, ι, μ, he, hs, h⟩ => av_then he hs h fun vs H1 ι1 μ1 ts he1 hs1 f1 r1 h1 => by
    unfold mNew at h1
    split at h1
    · rename_i hl
      exact ⟨by rw [r1.length, lim_eq]; exact hl, fun p hp => Pst.newM (a := .non) (b := .non) h1 hs1 hp ⟨vs, upd_same, r1.fut (Fut.newM hs1.tk hp)⟩⟩
    · exact h1.elim

/-! ### operators -/
def OpT (S : Sta) (g : T → T → M T) (r : R2) : Prop := ∀ (W : WX) (σ : L2.St) (H : Hp) (ι : Ids) (μ : Store) (x y : V) (tx ty : T) (Q : VK), StRep S H ι μ → Rep S H ι x tx → Rep S H ι y ty → Pst S W σ H ι (Rep S) (g tx ty μ) Q → r x y H Q
theorem tOp_of {r : R2} {g : T → T → M T} (hg : OpT S g r) {σ : L2.St} {H : Hp} {Q : VK} (h : tEv S W (c2 g fa fb) σ H Q) : tOp r (tEv S W fa) (tEv S W fb) σ H Q := by
  obtain ⟨ρ, ι, μ, he, hs, h⟩ := h
  exact ev_then he hs h fun x H1 ι1 μ1 t he1 hs1 f1 r1 h1 => ev_then he1 hs1 h1 fun y H2 ι2 μ2 u he2 hs2 f2 r2 h2 => hg W σ H2 ι2 μ2 x y t u Q hs2 (r1.fut f2) r2 h2
theorem pv_op {op : Operator} {r : R2} {g : T → T → M T} (ho : OpR X (binaryOp op) r) (hg : OpT S g r) (ha : PV X S W a fa) (hb : PV X S W b fb) : PV X S W (.BinOp a op b pos) (c2 g fa fb) :=
  PE.weak (pe_op ho ha hb) fun σ H Q h => tOp_of hg h
theorem pv_cmp {op : CmpOp} {r : R2} {g : T → T → M T} (ho : OpR X (compareOp op) r) (hg : OpT S g r) (ha : PV X S W a fa) (hb : PV X S W b fb) (hm : behindInMarks op b = false) : PV X S W (.Compare a [op] [b] pos) (c2 g fa fb) :=
  PE.weak (pe_cmpR ho ha hb hm) fun σ H Q h => tOp_of hg h
/-- a test of a value that is a bool -/
theorem tTest_of {σ : L2.St} {H : Hp} {Q : Bool → Hp → Prop} (h : tTv S W (cTest fa) σ H Q) : tEv S W fa σ H fun x H' => ∃ k, x = .bl k ∧ Q k H' := by
  obtain ⟨ρ, ι, μ, he, hs, h⟩ := h
  refine ev_then he hs h fun x H1 ι1 μ1 t he1 hs1 f1 r1 h1 => ?_
  cases r1 <;> first
    | exact h1.elim
    | exact ⟨_, rfl, Pst.now h1 hs1 rfl⟩
theorem pvt_cmp {op : CmpOp} {r : R2} {g : T → T → M T} (ho : OpR X (compareOp op) r) (hg : OpT S g r) (ha : PV X S W a fa) (hb : PV X S W b fb) (hm : behindInMarks op b = false) : PVt X S W (.Compare a [op] [b] pos) (cTest (c2 g fa fb)) :=
  PT.weak (pt_cmpR ho ha hb hm) fun σ H Q h => tOp_of hg (tTest_of h)

theorem opT_ints {C : Int → Int → Prop} {g : Int → Int → Int} {f : Int → Int → M T} (hf : ∀ i j μ, (∃ h : C i j, f i j μ = .ok (.int (g i j)) μ) ∨ f i j μ = .bad) :
    OpT S (fun x y => match x, y with | .int i, .int j => f i j | _, _ => bad) (rI C fun i j => .int (g i j)) := by
  intro W σ H ι μ x y tx ty Q hs rx ry h
  cases rx <;> first | exact h.elim | skip
  cases ry <;> first | exact h.elim | skip
  rename_i i j
  dsimp only at h
  rcases hf i j μ with ⟨hc, e⟩ | e
  · rw [e] at h
    exact ⟨i, j, rfl, rfl, hc, Pst.now h hs (.int _)⟩
  · rw [e] at h
    exact h.elim
end
end Tw

/-! Tw4: operators over trees -/
namespace Tw
open PySem L2

section
variable {S : Sta} {X : Cx}
/-! ### arithmetic -/
def gAdd (x y : T) : M T := match x, y with
  | .int i, .int j => ret (.int (i + j))
  | .str a, .str b => if a.length + b.length ≤ lim then ret (.str (a ++ b)) else bad
  | .tup a, .tup b => if a.length + b.length ≤ lim then ret (.tup (a ++ b)) else bad
  | x, y => fun μ => match lstOf x μ, lstOf y μ with
    | some a, some b => if a.length + b.length ≤ lim then .ok (.lst (a ++ b)) μ else .bad
    | _, _ => .bad
theorem Inv.lstR {pins : List (Addr × Obj)} {σ : L2.St} {H : Hp} {s : Shared} {l : Addr} {xs : List V} (I : Inv X pins σ H s) (hH : Rd H l (.lst xs)) : xs.length ≤ sizeLine ∧ ∃ (its : List Value) (n : Nat), Vals xs its ∧ xs.length = its.length ∧ s.heap.get? l = some { cls := .type "list", data := .seq its.toArray n } := by
  obtain ⟨z, its, n, r, e⟩ := hH.ok I.hok
  exact ⟨z, its, n, r, r.length, e⟩
def rCatR : R2 := fun x y H Q => ∃ l b xs zs, x = .ref l ∧ y = .ref b ∧ Rd H l (.lst xs) ∧ Rd H b (.lst zs) ∧ xs.length + zs.length ≤ sizeLine ∧ ∀ p, H p = none → Q (.ref p) (upd H p (.lst (xs ++ zs)))
theorem op_catR : OpR X (binaryOp .Add) rCatR := by
  intro pins s σ H x y v u Q I rx ry h
  obtain ⟨l, b, xs, zs, rfl, rfl, hH, hB, hz, q⟩ := h
  cases rx
  cases ry
  obtain ⟨z, its, n, r, hl, e⟩ := Inv.lstR I hH
  obtain ⟨z2, its2, n2, r2, hl2, e2⟩ := Inv.lstR I hB
  refine PySem.P.add_list e e2 ?_ (by rw [List.size_toArray, List.size_toArray]; omega)
  have ea : its.toArray ++ its2.toArray = (its ++ its2).toArray := by simp
  rw [ea]
  exact ⟨.ref _, _, I.lnew (t' := s.toks) (r.append r2) (by rw [List.length_append]; omega), rfl, q _ I.fresh⟩
def rStrCat : R2 := fun x y H Q => ∃ i j, x = .str i ∧ y = .str j ∧ i.length + j.length ≤ sizeLine ∧ Q (.str (i ++ j)) H
def rAddAll (K : PySem.W.Frag) : R2 := fun x y H Q => rI0 (fun i j => .int (i + j)) x y H Q ∨ rStrCat x y H Q ∨ rCatA K x y H Q ∨ rCatR x y H Q
theorem op_addAll : OpR X (binaryOp .Add) (rAddAll X.K) := op_add.or (OpR.or op_add_str (OpR.or op_catA op_catR))
theorem opT_add : OpT S gAdd (rAddAll S.K) := by
  intro W σ H ι μ x y tx ty Q hs rx ry h
  unfold gAdd at h
  split at h
  · cases rx; cases ry
    exact .inl ⟨_, _, rfl, rfl, Pst.now h hs (.int _)⟩
  · cases rx; cases ry
    split at h
    · rename_i hl
      exact .inr (.inl ⟨_, _, rfl, rfl, by rw [lim_eq]; exact hl, Pst.now h hs (.str _)⟩)
    · exact h.elim
  · split at h
    · rename_i hl
      cases rx with
      | @tup a vs ts hx qx =>
        cases ry with
        | @tup b ws us hy qy =>
          refine .inr (.inr (.inl ⟨a, b, vs, ws, rfl, rfl, hx.sq, hy.sq, by rw [qx.length, qy.length, lim_eq]; exact hl, fun e => ?_, fun e1 e2 => ?_, fun _ _ p hp => ?_⟩))
          · subst e
            cases qx
            exact Pst.now h hs (.tup hy qy)
          · subst e2
            cases qy
            rw [List.append_nil] at h
            exact Pst.now h hs (.tup hx qx)
          · exact Pst.new h hs hp (Rep.newT hs hp (qx.append qy))
    · exact h.elim
  · dsimp only at h
    split at h
    · rename_i e1 e2
      split at h
      · rename_i hl
        obtain ⟨a, vs, rfl, hx, qx⟩ := lst_read e1 hs rx
        obtain ⟨b, ws, rfl, hy, qy⟩ := lst_read e2 hs ry
        exact .inr (.inr (.inr ⟨a, b, vs, ws, rfl, rfl, hx, hy, by rw [qx.length, qy.length, lim_eq]; exact hl, fun p hp => Pst.new h hs hp (Rep.newL hs hp (qx.append qy))⟩))
      · exact h.elim
    · exact h.elim

def gSub (x y : T) : M T := match x, y with
  | .int i, .int j => ret (.int (i - j))
  | _, _ => bad
theorem opT_sub : OpT S gSub (rI0 fun i j => .int (i - j)) := by
  intro W σ H ι μ x y tx ty Q hs rx ry h
  unfold gSub at h
  split at h
  · cases rx; cases ry
    exact ⟨_, _, rfl, rfl, Pst.now h hs (.int _)⟩
  · exact h.elim
/-- ints (one of them within 2 ^ 64), a list or a tuple some times -/
def cMulB (i j : Int) : Bool := (decide (-(2 ^ 64) < i) && decide (i < 2 ^ 64)) || (decide (-(2 ^ 64) < j) && decide (j < 2 ^ 64))
def gMul (x y : T) : M T := match x, y with
  | .int i, .int j => if cMulB i j then ret (.int (i * j)) else bad
  | .lst ts, .int k => if decide (-(2 ^ 63) ≤ k) && decide (k < 2 ^ 63) && decide (ts.length * k.toNat ≤ lim) then ret (.lst (List.replicate k.toNat ts).flatten) else bad
  | .tup ts, .int k => if !ts.isEmpty && decide (2 ≤ k) && decide (k ≤ 1000) && decide (ts.length ≤ 1000) then ret (.tup (List.replicate k.toNat ts).flatten) else bad
  | _, _ => bad
def rRepR : R2 := fun x y H Q => ∃ l k xs, x = .ref l ∧ y = .int k ∧ H l = some (.lst xs) ∧ -(2 ^ 63) ≤ k ∧ k < 2 ^ 63 ∧ xs.length * k.toNat ≤ sizeLine ∧
  ∀ p, H p = none → Q (.ref p) (upd H p (.lst (List.replicate k.toNat xs).flatten))
theorem Reps.rep {H : Hp} {ι : Ids} {vs : List V} {ts : List T} (h : Reps S H ι vs ts) : ∀ k : Nat, Reps S H ι (List.replicate k vs).flatten (List.replicate k ts).flatten
  | 0 => .nil
  | k + 1 => by
    rw [List.replicate_succ, List.replicate_succ, List.flatten_cons, List.flatten_cons]
    exact h.append (h.rep k)
def gFdiv (x y : T) : M T := match x, y with
  | .int i, .int j => if decide (0 < j) && decide (j < 1073741824) then ret (.int (i / j)) else bad
  | _, _ => bad
theorem opT_fdiv : OpT S gFdiv (rI CDiv fun i j => .int (i / j)) := by
  intro W σ H ι μ x y tx ty Q hs rx ry h
  unfold gFdiv at h
  split at h
  · cases rx; cases ry
    split at h
    · rename_i hc
      rw [Bool.and_eq_true, decide_eq_true_eq, decide_eq_true_eq] at hc
      exact ⟨_, _, rfl, rfl, hc, Pst.now h hs (.int _)⟩
    · exact h.elim
  · exact h.elim
def gMod (x y : T) : M T := match x, y with
  | .int i, .int j => if decide (0 < j) then ret (.int (i % j)) else bad
  | _, _ => bad
theorem opT_mod : OpT S gMod (rI (fun _ j => 0 < j) fun i j => .int (i % j)) := by
  intro W σ H ι μ x y tx ty Q hs rx ry h
  unfold gMod at h
  split at h
  · cases rx; cases ry
    split at h
    · rename_i hc
      exact ⟨_, _, rfl, rfl, of_decide_eq_true hc, Pst.now h hs (.int _)⟩
    · exact h.elim
  · exact h.elim
def gPow (x y : T) : M T := match x, y with
  | .int i, .int j => if decide (0 ≤ j) && decide (j ≤ 1000000) && decide (i.natAbs < 2 ^ 64) then ret (.int (i ^ j.toNat)) else bad
  | _, _ => bad
theorem opT_pow : OpT S gPow (rI CPow fun i j => .int (i ^ j.toNat)) := by
  intro W σ H ι μ x y tx ty Q hs rx ry h
  unfold gPow at h
  split at h
  · cases rx; cases ry
    split at h
    · rename_i hc
      rw [Bool.and_eq_true, Bool.and_eq_true, decide_eq_true_eq, decide_eq_true_eq, decide_eq_true_eq] at hc
      exact ⟨_, _, rfl, rfl, ⟨hc.1.1, hc.1.2, hc.2⟩, Pst.now h hs (.int _)⟩
    · exact h.elim
  · exact h.elim

/-! ### order -/
def gCmpI (p : Int → Int → Bool) (x y : T) : M T := match x, y with
  | .int i, .int j => ret (.bl (p i j))
  | _, _ => bad
theorem opT_cmpI {p : Int → Int → Bool} : OpT S (gCmpI p) (rI0 fun i j => .bl (p i j)) := by
  intro W σ H ι μ x y tx ty Q hs rx ry h
  unfold gCmpI at h
  split at h
  · cases rx; cases ry
    exact ⟨_, _, rfl, rfl, Pst.now h hs (.bl _)⟩
  · exact h.elim
def gLt : T → T → M T := gCmpI fun i j => decide (i < j)
def gLe : T → T → M T := gCmpI fun i j => decide (i ≤ j)
def gGt : T → T → M T := gCmpI fun i j => decide (j < i)
def gGe : T → T → M T := gCmpI fun i j => decide (j ≤ i)

/-! ### None -/
def isNon : T → Option Bool
  | .non => some true
  | .obj _ => none
  | _ => some false
def gIs (x y : T) : M T := match y with
  | .non => match isNon x with
    | some b => ret (.bl b)
    | none => bad
  | _ => bad
def gIsNot (x y : T) : M T := match y with
  | .non => match isNon x with
    | some b => ret (.bl (!b))
    | none => bad
  | _ => bad
theorem isNon_of {H : Hp} {ι : Ids} {x : V} {t : T} {b : Bool} (e : isNon t = some b) (r : Rep S H ι x t) : decide (x = .non) = b := by
  cases r <;> first | (cases e; done) | (cases e; simp)
theorem opT_is : OpT S gIs (fun x y H Q => y = .non ∧ Q (.bl (decide (x = .non))) H) := by
  intro W σ H ι μ x y tx ty Q hs rx ry h
  unfold gIs at h
  split at h
  · cases ry
    cases e : isNon tx with
    | some b =>
      rw [e] at h
      rw [isNon_of e rx]
      exact ⟨rfl, Pst.now h hs (.bl _)⟩
    | none => rw [e] at h; exact h.elim
  · exact h.elim
theorem opT_isNot : OpT S gIsNot (fun x y H Q => y = .non ∧ Q (.bl (!decide (x = .non))) H) := by
  intro W σ H ι μ x y tx ty Q hs rx ry h
  unfold gIsNot at h
  split at h
  · cases ry
    cases e : isNon tx with
    | some b =>
      rw [e] at h
      rw [isNon_of e rx]
      exact ⟨rfl, Pst.now h hs (.bl _)⟩
    | none => rw [e] at h; exact h.elim
  · exact h.elim

/-! ### equality of data -/
mutual
def pd : T → Option PyData
  | .non => some .none
  | .bl b => some (.bool b)
  | .int i => some (.int i)
  | .str x => some (.str x)
  | .tup ts => (pds ts).map .tuple
  | .lst ts => (pds ts).map .list
  | _ => none
def pds : List T → Option (List PyData)
  | [] => some []
  | t :: ts => match pd t, pds ts with
    | some d, some ds => some (d :: ds)
    | _, _ => none
end
mutual
theorem pd_dp {H : Hp} {ι : Ids} : ∀ {t : T} {v : V} {d : PyData}, pd t = some d → Rep S H ι v t → Dp S.K H v d
  | .non, _, _, e, r => by simp only [pd] at e; cases e; cases r; exact .non
  | .bl _, _, _, e, r => by simp only [pd] at e; cases e; cases r; exact .bl _
  | .int _, _, _, e, r => by simp only [pd] at e; cases e; cases r; exact .int _
  | .str _, _, _, e, r => by simp only [pd] at e; cases e; cases r; exact .str _
  | .tup ts, _, _, e, r => by
    simp only [pd, Option.map_eq_some_iff] at e
    obtain ⟨ds, e, rfl⟩ := e
    cases r with
    | tup h q => exact .tup h.sq (pds_dp e q)
  | .lst ts, _, _, e, r => by
    simp only [pd, Option.map_eq_some_iff] at e
    obtain ⟨ds, e, rfl⟩ := e
    cases r with
    | lst h q => exact .lst h.sq (pds_dp e q)
  | .ty _, _, _, e, _ => by simp only [pd] at e; cases e
  | .cls _, _, _, e, _ => by simp only [pd] at e; cases e
  | .fn _, _, _, e, _ => by simp only [pd] at e; cases e
  | .dic _ _, _, _, e, _ => by simp only [pd] at e; cases e
  | .ins _ _, _, _, e, _ => by simp only [pd] at e; cases e
  | .obj _, _, _, e, _ => by simp only [pd] at e; cases e
  | .scr _, _, _, e, _ => by simp only [pd] at e; cases e
theorem pds_dp {H : Hp} {ι : Ids} : ∀ {ts : List T} {vs : List V} {ds : List PyData}, pds ts = some ds → Reps S H ι vs ts → DpAll S.K H vs ds
  | [], _, _, e, r => by simp only [pds] at e; cases e; cases r; exact .nil
  | t :: ts, _, _, e, r => by
    simp only [pds] at e
    split at e
    · rename_i d ds e1 e2
      cases e
      cases r with
      | cons h q => exact .cons (pd_dp e1 h) (pds_dp e2 q)
    · cases e
end
/-- the data, a list of the store read -/
def pdOf (t : T) (μ : Store) : Option PyData := match t with
  | .obj n => match μ[n]? with
    | some (some (.lst ts)) => (pds ts).map .list
    | _ => none
  | t => pd t
theorem pdOf_dp {H : Hp} {ι : Ids} {μ : Store} {t : T} {v : V} {d : PyData} (e : pdOf t μ = some d) (s : StRep S H ι μ) (r : Rep S H ι v t) : Dp S.K H v d := by
  cases t with
  | obj n =>
    have e' : (match μ[n]? with | some (some (MO.lst ts)) => (pds ts).map PyData.list | _ => none) = some d := e
    split at e'
    · rename_i us hm
      obtain ⟨ds, e2, rfl⟩ := Option.map_eq_some_iff.mp e'
      obtain ⟨a, rfl, _, vs, h, q⟩ := s.at hm r
      exact .lst (.inl (.inl h)) (pds_dp e2 q)
    · cases e'
  | _ => exact pd_dp e r
def gEqD (neg : Bool) (x y : T) : M T := fun μ => match pdOf x μ, pdOf y μ with
  | some d, some e => if SeqAt.shaped d && SeqAt.shaped e then .ok (.bl (if neg then !PyData.eqv d e else PyData.eqv d e)) μ else .bad
  | _, _ => .bad
theorem opT_eq : OpT S (gEqD false) (rEqD S.K) := by
  intro W σ H ι μ x y tx ty Q hs rx ry h
  unfold gEqD at h
  split at h
  · rename_i d e e1 e2
    split at h
    · rename_i hc
      rw [Bool.and_eq_true] at hc
      exact ⟨d, e, pdOf_dp e1 hs rx, pdOf_dp e2 hs ry, hc.1, hc.2, Pst.now h hs (.bl _)⟩
    · exact h.elim
  · exact h.elim
theorem opT_ne : OpT S (gEqD true) (rNeD S.K) := by
  intro W σ H ι μ x y tx ty Q hs rx ry h
  unfold gEqD at h
  split at h
  · rename_i d e e1 e2
    split at h
    · rename_i hc
      rw [Bool.and_eq_true] at hc
      exact ⟨d, e, pdOf_dp e1 hs rx, pdOf_dp e2 hs ry, hc.1, hc.2, Pst.now h hs (.bl _)⟩
    · exact h.elim
  · exact h.elim

/-! ### in, not in: flat items -/
def flatT : T → Option V
  | .non => some .non
  | .bl b => some (.bl b)
  | .int i => some (.int i)
  | .str x => some (.str x)
  | _ => none
theorem flatT_of {H : Hp} {ι : Ids} {v w : V} {t : T} (e : flatT t = some w) (r : Rep S H ι v t) : v = w := by
  cases r <;> first | (cases e; done) | (cases e; rfl)
def flatsT : List T → Option (List V)
  | [] => some []
  | t :: ts => match flatT t, flatsT ts with
    | some v, some vs => some (v :: vs)
    | _, _ => none
theorem flatsT_of {H : Hp} {ι : Ids} : ∀ {ts : List T} {vs ws : List V}, flatsT ts = some ws → Reps S H ι vs ts → vs = ws
  | [], _, _, e, r => by cases e; cases r; rfl
  | t :: ts, _, _, e, r => by
    unfold flatsT at e
    split at e
    · rename_i v vs e1 e2
      cases e
      cases r with
      | cons h q => rw [flatT_of e1 h, flatsT_of e2 q]
    · cases e
def gInS (neg : Bool) (x y : T) : M T := fun μ => match flatT x, (seqOf y μ).bind flatsT with
  | some v, some vs => if flatV v && vs.all flatV then .ok (.bl (if neg then !inV v vs else inV v vs)) μ else .bad
  | _, _ => .bad
theorem opT_inS (neg : Bool) : OpT S (gInS neg) (rIn S.K neg) := by
  intro W σ H ι μ x y tx ty Q hs rx ry h
  unfold gInS at h
  split at h
  · rename_i v vs e1 e2
    split at h
    · rename_i hc
      rw [Bool.and_eq_true] at hc
      obtain ⟨ts, e3, e4⟩ := Option.bind_eq_some_iff.mp e2
      obtain ⟨a, ws, rfl, q, rs⟩ := seq_read e3 hs ry
      have := flatsT_of e4 rs
      subst this
      have := flatT_of e1 rx
      subst this
      exact ⟨a, ws, rfl, q.symm, hc.1, hc.2, Pst.now h hs (.bl _)⟩
    · exact h.elim
  · exact h.elim
end
end Tw

/-! Tw5: truth, tests, subscripts, calls of built-ins -/
namespace Tw
open PySem L2

/-! ### truth -/
def truT (t : T) (μ : Store) : Option Bool := match t with
  | .non => some false
  | .bl b => some b
  | .int i => some (i != 0)
  | .str y => if y.length ≤ lim then some ((y.length : Int) != 0) else none
  | t => (seqOf t μ).map fun ts => !ts.isEmpty
def mTru (t : T) : M Bool := fun μ => match truT t μ with
  | some b => .ok b μ
  | none => .bad
theorem isEmpty_reps {S : Sta} {H : Hp} {ι : Ids} {vs : List V} {ts : List T} (r : Reps S H ι vs ts) : ts.isEmpty = vs.isEmpty := by cases r <;> rfl
theorem truT_of {S : Sta} {H : Hp} {ι : Ids} {μ : Store} {t : T} {x : V} {b : Bool} (e : truT t μ = some b) (s : StRep S H ι μ) (r : Rep S H ι x t) : TruV S.K x H b := by
  have sq : ∀ {t : T}, (seqOf t μ).map (fun ts => !ts.isEmpty) = some b → Rep S H ι x t → TruV S.K x H b := fun {t} e r => by
    obtain ⟨ts, e1, e2⟩ := Option.map_eq_some_iff.mp e
    obtain ⟨a, vs, rfl, q, rs⟩ := seq_read e1 s r
    rw [isEmpty_reps rs] at e2
    rcases q with q | q
    · exact .inr (.inl ⟨vs, q, e2.symm⟩)
    · exact .inl ⟨vs, q, e2.symm⟩
  cases t with
  | non => cases r; cases e; rfl
  | bl c => cases r; cases e; rfl
  | int i => cases r; cases e; rfl
  | str y =>
    cases r
    unfold truT at e
    dsimp only at e
    split at e
    · rename_i hl
      cases e
      exact ⟨by rw [lim_eq]; exact hl, rfl⟩
    · cases e
  | ty n => exact sq (t := .ty n) e r
  | cls n => exact sq (t := .cls n) e r
  | fn n => exact sq (t := .fn n) e r
  | tup n => exact sq (t := .tup n) e r
  | lst n => exact sq (t := .lst n) e r
  | dic k n => exact sq (t := .dic k n) e r
  | ins k n => exact sq (t := .ins k n) e r
  | obj n => exact sq (t := .obj n) e r
  | scr n => exact sq (t := .scr n) e r

section
variable {X : Cx} {S : Sta} {W : WX} {a b c : Expr} {fa fb fc : Env → M T} {ft fu : Env → M Bool} {pos : Pos} {rest : List Expr}
def cTru (a : Env → M T) : Env → M Bool := fun ρ => bnd (a ρ) mTru
theorem mTru_some {t : T} {μ : Store} {b : Bool} (h : truT t μ = some b) : mTru t μ = .ok b μ := by unfold mTru; rw [h]
theorem mTru_none {t : T} {μ : Store} (h : truT t μ = none) : mTru t μ = .bad := by unfold mTru; rw [h]
theorem pvt_tru (hK : X.K = S.K) (ha : PV X S W a fa) (he : ∀ whole, isTrue a X.env whole = (do let v ← whole; standAt a.pos; holding [v] (truthy v))) : PVt X S W a (cTru fa) :=
  PT.weak (pt_truth ha he) fun σ H Q ⟨ρ, ι, μ, he, hs, h⟩ => ev_then he hs h fun x H1 ι1 μ1 t he1 hs1 f1 r1 h1 => by
    cases e : truT t μ1 with
    | none => rw [mTru_none e] at h1; exact h1.elim
    | some k =>
      rw [mTru_some e] at h1
      exact ⟨k, by rw [hK]; exact truT_of e hs1 r1, Pst.now h1 hs1 rfl⟩
/-- and, or, not as tests -/
theorem pvw_one {op : BoolOp} (ha : PVt X S W a ft) : PVw X S W (.BoolOp op [a] pos) ft := by
  cases op
  · exact pw_and1 ha
  · exact pw_or1 ha
theorem pvw_and (ha : PVt X S W a ft) (hb : PVw X S W (.BoolOp .And (b :: rest) pos) fu) : PVw X S W (.BoolOp .And (a :: b :: rest) pos) (cAnd ft fu) :=
  PW.weak (pw_and ha hb) fun σ H Q ⟨ρ, ι, μ, he, hs, h⟩ => tv_then he hs h fun x H1 ι1 μ1 he1 hs1 f1 h1 => by
    cases x with
    | true => exact iteT ⟨ρ, ι1, μ1, he1, hs1, h1⟩
    | false => exact iteF (Pst.now h1 hs1 rfl)
theorem pvw_or (ha : PVt X S W a ft) (hb : PVw X S W (.BoolOp .Or (b :: rest) pos) fu) : PVw X S W (.BoolOp .Or (a :: b :: rest) pos) (cOr ft fu) :=
  PW.weak (pw_or ha hb) fun σ H Q ⟨ρ, ι, μ, he, hs, h⟩ => tv_then he hs h fun x H1 ι1 μ1 he1 hs1 f1 h1 => by
    cases x with
    | false => exact iteF ⟨ρ, ι1, μ1, he1, hs1, h1⟩
    | true => exact iteT (Pst.now h1 hs1 rfl)
theorem pvt_not (ha : PVt X S W a ft) : PVt X S W (.UnaryOp .Not a pos) (cNot ft) :=
  PT.weak (pt_not ha) fun σ H Q ⟨ρ, ι, μ, he, hs, h⟩ => tv_then he hs h fun x H1 ι1 μ1 he1 hs1 f1 h1 => Pst.now h1 hs1 rfl
theorem pv_if (hc : PVt X S W c ft) (ha : PV X S W a fa) (hb : PV X S W b fb) : PV X S W (.IfExp c a b pos) (cIf ft fa fb) :=
  PE.weak (pe_ifExp hc ha hb) fun σ H Q ⟨ρ, ι, μ, he, hs, h⟩ => tv_then he hs h fun x H1 ι1 μ1 he1 hs1 f1 h1 => by
    cases x with
    | true => exact iteT ⟨ρ, ι1, μ1, he1, hs1, h1⟩
    | false => exact iteF ⟨ρ, ι1, μ1, he1, hs1, h1⟩
/-- .. as values, by truth -/
def cAndT (a b : Env → M T) : Env → M T := fun ρ => bnd (a ρ) fun x => bnd (mTru x) fun k => if k then b ρ else ret x
def cOrT (a b : Env → M T) : Env → M T := fun ρ => bnd (a ρ) fun x => bnd (mTru x) fun k => if k then ret x else b ρ
def cNotT (a : Env → M T) : Env → M T := fun ρ => bnd (a ρ) fun x => bnd (mTru x) fun k => ret (.bl (!k))
theorem bnd_ok {α β : Type} {m : M α} {k : α → M β} {μ μ' : Store} {a : α} (h : m μ = .ok a μ') : bnd m k μ = k a μ' := by unfold bnd; rw [h]
theorem bnd_bad {α β : Type} {m : M α} {k : α → M β} {μ : Store} (h : m μ = .bad) : bnd m k μ = .bad := by unfold bnd; rw [h]
theorem pv_andT (hK : X.K = S.K) (ha : PV X S W a fa) (hb : PV X S W (.BoolOp .And (b :: rest) pos) fb) : PV X S W (.BoolOp .And (a :: b :: rest) pos) (cAndT fa fb) :=
  PE.weak (pe_andT ha hb) fun σ H Q ⟨ρ, ι, μ, he, hs, h⟩ => ev_then he hs h fun x H1 ι1 μ1 t he1 hs1 f1 r1 h1 => by
    cases e : truT t μ1 with
    | none => rw [bnd_bad (mTru_none e)] at h1; exact h1.elim
    | some k =>
      rw [bnd_ok (mTru_some e)] at h1
      refine ⟨k, by rw [hK]; exact truT_of e hs1 r1, ?_⟩
      cases k with
      | true => exact iteT ⟨ρ, ι1, μ1, he1, hs1, h1⟩
      | false => exact iteF (Pst.now h1 hs1 r1)
theorem pv_orT (hK : X.K = S.K) (ha : PV X S W a fa) (hb : PV X S W (.BoolOp .Or (b :: rest) pos) fb) : PV X S W (.BoolOp .Or (a :: b :: rest) pos) (cOrT fa fb) :=
  PE.weak (pe_orT ha hb) fun σ H Q ⟨ρ, ι, μ, he, hs, h⟩ => ev_then he hs h fun x H1 ι1 μ1 t he1 hs1 f1 r1 h1 => by
    cases e : truT t μ1 with
    | none => rw [bnd_bad (mTru_none e)] at h1; exact h1.elim
    | some k =>
      rw [bnd_ok (mTru_some e)] at h1
      refine ⟨k, by rw [hK]; exact truT_of e hs1 r1, ?_⟩
      cases k with
      | false => exact iteF ⟨ρ, ι1, μ1, he1, hs1, h1⟩
      | true => exact iteT (Pst.now h1 hs1 r1)
theorem pv_notT (hK : X.K = S.K) (ha : PV X S W a fa) : PV X S W (.UnaryOp .Not a pos) (cNotT fa) :=
  PE.weak (pe_notT ha) fun σ H Q ⟨ρ, ι, μ, he, hs, h⟩ => ev_then he hs h fun x H1 ι1 μ1 t he1 hs1 f1 r1 h1 => by
    cases e : truT t μ1 with
    | none => rw [bnd_bad (mTru_none e)] at h1; exact h1.elim
    | some k =>
      rw [bnd_ok (mTru_some e)] at h1
      exact ⟨k, by rw [hK]; exact truT_of e hs1 r1, Pst.now h1 hs1 (.bl _)⟩
theorem pv_one {op : BoolOp} (ha : PV X S W a fa) : PV X S W (.BoolOp op [a] pos) fa := pe_one ha
def gNeg (x : T) : M T := match x with
  | .int i => ret (.int (-i))
  | _ => bad
theorem pv_neg (ha : PV X S W a fa) : PV X S W (.UnaryOp .USub a pos) (c1 gNeg fa) :=
  PE.weak (pe_un un_neg ha) fun σ H Q ⟨ρ, ι, μ, he, hs, h⟩ => ev_then he hs h fun x H1 ι1 μ1 t he1 hs1 f1 r1 h1 => by
    unfold gNeg at h1
    split at h1
    · cases r1
      exact ⟨_, rfl, Pst.now h1 hs1 (.int _)⟩
    · exact h1.elim
/-- a op b op c -/
def cChain (g g' : T → T → M T) (a b c : Env → M T) : Env → M T := fun ρ => bnd (a ρ) fun x => bnd (b ρ) fun y => bnd (g x y) fun z => match z with
  | .bl true => bnd (c ρ) fun w => g' y w
  | .bl false => ret (.bl false)
  | _ => bad
theorem tChain_of {r r' : R2} {g g' : T → T → M T} (hg : OpT S g r) (hg' : OpT S g' r') {σ : L2.St} {H : Hp} {Q : VK} (h : tEv S W (cChain g g' fa fb fc) σ H Q) : tChain r r' (tEv S W fa) (tEv S W fb) (tEv S W fc) σ H Q := by
  obtain ⟨ρ, ι, μ, he, hs, h⟩ := h
  refine ev_then he hs h fun x H1 ι1 μ1 t he1 hs1 f1 r1 h1 => ev_then he1 hs1 h1 fun y H2 ι2 μ2 u he2 hs2 f2 r2 h2 => ?_
  refine hg W σ H2 ι2 μ2 x y t u _ hs2 (r1.fut f2) r2 ((Pst.seq (rel := Rep S) h2).mono fun z H3 ⟨ι3, μ3, tz, f3, hs3, r3, h3⟩ => ?_)
  cases tz <;> first | exact h3.elim | skip
  rename_i k
  cases r3
  refine ⟨k, rfl, ?_⟩
  cases k with
  | true => exact iteT (ev_then (he2.fut f3) hs3 h3 fun w H4 ι4 μ4 tw he4 hs4 f4 r4 h4 => hg' W σ H4 ι4 μ4 y w u tw Q hs4 (r2.fut (f3.trans f4)) r4 h4)
  | false => exact iteF (Pst.now h3 hs3 (.bl _))
theorem pv_chain {op op' : CmpOp} {r r' : R2} {g g' : T → T → M T} (ho : OpR X (compareOp op) r) (ho' : OpR X (compareOp op') r') (hg : OpT S g r) (hg' : OpT S g' r') (ha : PV X S W a fa) (hb : PV X S W b fb) (hc : PV X S W c fc) (hm : lastMarks [op, op'] [b, c] = false) :
    PV X S W (.Compare a [op, op'] [b, c] pos) (cChain g g' fa fb fc) := PE.weak (pe_chain ho ho' ha hb hc hm) fun σ H Q h => tChain_of hg hg' h
theorem pvt_chain {op op' : CmpOp} {r r' : R2} {g g' : T → T → M T} (ho : OpR X (compareOp op) r) (ho' : OpR X (compareOp op') r') (hg : OpT S g r) (hg' : OpT S g' r') (ha : PV X S W a fa) (hb : PV X S W b fb) (hc : PV X S W c fc) (hm : lastMarks [op, op'] [b, c] = false) :
    PVt X S W (.Compare a [op, op'] [b, c] pos) (cTest (cChain g g' fa fb fc)) := PT.weak (pt_chain ho ho' ha hb hc hm) fun σ H Q h => tChain_of hg hg' (tTest_of h)

/-! ### subscripts -/
def gIx (x y : T) : M T := fun μ => match y with
  | .int i => match seqOf x μ with
    | some ts => match atI ts i with
      | some t => .ok t μ
      | none => .bad
    | none => .bad
  | _ => .bad
theorem atI_reps {H : Hp} {ι : Ids} {vs : List V} {ts : List T} {i : Int} {t : T} (r : Reps S H ι vs ts) (h : atI ts i = some t) : ∃ v, atI vs i = some v ∧ Rep S H ι v t := by
  unfold atI at h ⊢
  rw [r.length]
  obtain ⟨j, h1, h2⟩ := Option.bind_eq_some_iff.mp h
  obtain ⟨v, e, q⟩ := r.get h2
  exact ⟨v, by rw [h1]; exact e, q⟩
def rIxA (K : PySem.W.Frag) : R2 := fun x y H Q => rIxL K x y H Q ∨ rIxT K x y H Q
theorem ix_all : IxR X (rIxA X.K) := ix_list.or ix_tup
theorem opT_ix : OpT S gIx (rIxA S.K) := by
  intro W σ H ι μ x y tx ty Q hs rx ry h
  unfold gIx at h
  split at h
  · split at h
    · rename_i ts e
      split at h
      · rename_i t e2
        cases ry
        obtain ⟨a, vs, rfl, q, rs⟩ := seq_read e hs rx
        obtain ⟨v, e3, rv⟩ := atI_reps rs e2
        rcases q with q | q
        · exact .inr ⟨a, vs, _, v, rfl, rfl, q, e3, Pst.now h hs rv⟩
        · exact .inl ⟨a, vs, _, v, rfl, rfl, q, e3, Pst.now h hs rv⟩
      · exact h.elim
    · exact h.elim
  · exact h.elim
theorem pv_ix (hK : X.K = S.K) (ha : PV X S W a fa) (hb : PV X S W b fb) (hp : PlainIx b) : PV X S W (.Subscript a b pos) (c2 gIx fa fb) :=
  PE.weak (pe_ix ix_all ha hb hp) fun σ H Q h => by rw [hK]; exact tOp_of opT_ix h

/-! ### slices -/
def cutT (xs : List T) (lo hi : Option Int) : List T := (xs.drop (HT.sIx xs.length 0 lo)).take (HT.sIx xs.length xs.length hi - HT.sIx xs.length 0 lo)
theorem cut_reps {H : Hp} {ι : Ids} {vs : List V} {ts : List T} (r : Reps S H ι vs ts) (lo hi : Option Int) : Reps S H ι (cutV vs lo hi) (cutT ts lo hi) := by
  unfold cutV cutT
  rw [r.length]
  exact (r.drop _).take _
def oNone : Env → M (Option Int) := fun _ => ret none
def oSome (a : Env → M T) : Env → M (Option Int) := fun ρ => bnd (a ρ) fun x => match x with
  | .int i => ret (some i)
  | _ => bad
def tOv (S : Sta) (W : WX) (f : Env → M (Option Int)) : TO := fun σ H Q => ∃ ρ ι μ, RepE S H ι σ ρ ∧ StRep S H ι μ ∧ Pst S W σ H ι (fun _ _ b a => b = a) (f ρ μ) Q
theorem PO.weak {e : Option Expr} {t t' : TO} (h : PO X e t) (w : ∀ σ H Q, t' σ H Q → t σ H Q) : PO X e t' := ⟨fun pins s σ H Q I q => h.run pins s σ H Q I (w σ H Q q)⟩
theorem pvo_none : PO X none (tOv S W oNone) := PO.weak po_none fun σ H Q ⟨ρ, ι, μ, he, hs, h⟩ => Pst.now h hs rfl
theorem pvo_some (ha : PV X S W a fa) : PO X (some a) (tOv S W (oSome fa)) := PO.weak (po_some ha) fun σ H Q ⟨ρ, ι, μ, he, hs, h⟩ => ev_then he hs h fun x H1 ι1 μ1 t he1 hs1 f1 r1 h1 => by
  cases r1 <;> first | exact h1.elim | exact ⟨_, rfl, Pst.now h1 hs1 rfl⟩
theorem ov_then {γ δ : Type} {rel : Hp → Ids → δ → γ → Prop} {fo : Env → M (Option Int)} {k : Option Int → M γ} {ρ : Env} {σ : L2.St} {H : Hp} {ι : Ids} {μ : Store} {Q : δ → Hp → Prop} (he : RepE S H ι σ ρ) (hs : StRep S H ι μ) (h : Pst S W σ H ι rel (bnd (fo ρ) k μ) Q)
    {R : Option Int → Hp → Prop} (next : ∀ x H1 ι1 μ1, RepE S H1 ι1 σ ρ → StRep S H1 ι1 μ1 → Fut H ι H1 ι1 → Pst S W σ H1 ι1 rel (k x μ1) Q → R x H1) : tOv S W fo σ H R :=
  ⟨ρ, ι, μ, he, hs, (Pst.seq (rel := fun _ _ b a => b = a) h).mono fun x H1 ⟨ι1, μ1, t, f, s, r, q⟩ => by subst r; exact next x H1 ι1 μ1 (he.fut f) s f q⟩
def mCut (x : T) (lo hi : Option Int) : M T := fun μ => match x with
  | .tup ts => .ok (.tup (cutT ts lo hi)) μ
  | x => match lstOf x μ with
    | some ts => .ok (.lst (cutT ts lo hi)) μ
    | none => .bad
def cSlice (a : Env → M T) (lo hi : Env → M (Option Int)) : Env → M T := fun ρ => bnd (a ρ) fun x => bnd (lo ρ) fun l => bnd (hi ρ) fun h => mCut x l h
theorem whole_cut {ts : List T} {lo hi : Option Int} (h : HT.sIx ts.length 0 lo = 0 ∧ HT.sIx ts.length ts.length hi = ts.length) : cutT ts lo hi = ts := by
  unfold cutT
  rw [h.1, h.2]
  simp
def rSlAll (K : PySem.W.Frag) : V → Option Int → Option Int → Hp → VK → Prop := fun x lo hi H Q => rSlA K x lo hi H Q ∨ rSlL K x lo hi H Q
theorem sl_all : SlR X (rSlAll X.K) := SlR.or sl_tupA sl_list
theorem pv_slice {lo hi : Option Expr} {flo fhi : Env → M (Option Int)} {p2 : Pos} (hK : X.K = S.K) (ha : PV X S W a fa) (hl : PO X lo (tOv S W flo)) (hh : PO X hi (tOv S W fhi)) : PV X S W (.Subscript a (.Slice lo hi none p2) pos) (cSlice fa flo fhi) :=
  PE.weak (pe_slice sl_all ha hl hh) fun σ H Q ⟨ρ, ι, μ, he, hs, h⟩ => ev_then he hs h fun x H1 ι1 μ1 t he1 hs1 f1 r1 h1 => ov_then he1 hs1 h1 fun l H2 ι2 μ2 he2 hs2 f2 h2 => ov_then he2 hs2 h2 fun u H3 ι3 μ3 he3 hs3 f3 h3 => by
    have r3 := (r1.fut f2).fut f3
    rw [hK]
    unfold mCut at h3
    split at h3
    · cases r3 with
      | @tup a vs ts hx q =>
        refine .inl ⟨a, vs, rfl, hx.sq, fun hw => ?_, fun _ p hp => Pst.new h3 hs3 hp (Rep.newT hs3 hp (cut_reps q l u))⟩
        rw [q.length] at hw
        rw [whole_cut hw] at h3
        exact Pst.now h3 hs3 (.tup hx q)
    · split at h3
      · rename_i e
        obtain ⟨a, vs, rfl, q, rs⟩ := lst_read e hs3 r3
        exact .inr ⟨a, vs, rfl, .inl q, fun p hp => Pst.new h3 hs3 hp (Rep.newL hs3 hp (cut_reps rs l u))⟩
      · exact h3.elim

/-! ### built-ins called -/
def CallT (S : Sta) (g : List T → M T) (r : List V → Hp → VK → Prop) : Prop := ∀ (W : WX) (σ : L2.St) (H : Hp) (ι : Ids) (μ : Store) (xs : List V) (ts : List T) (Q : VK), StRep S H ι μ → Reps S H ι xs ts → Pst S W σ H ι (Rep S) (g ts μ) Q → r xs H Q
variable {e : Expr} {es : List Expr} {f : Env → M (List T)} {x : Str} {p : Pos} {id Ty : String} {r : List V → Hp → VK → Prop} {g : List T → M T}
theorem pv_callB (hc : CallR X (.builtin id) r) (hg' : CallT S g r) (hg : Gl X x) (hm : X.mg x = none) (hv : bootBuiltins x = some (.builtin id)) (ha : PVa X S W (e :: es) f) (hn : x ≠ "__name__") (hdb : (x == ("__debug__" : Str)) = false)
    (he : starEach (e :: es) X.env = (false, eval e X.env) :: starEach es X.env) (hpl : (backTo pos (starEach es X.env)).any (·.1) = false) : PV X S W (.Call (.Name x p) (e :: es) [] pos) (cN g f) :=
  PE.weak (pe_callB hc hg hm hv ha hn hdb he hpl) fun σ H Q ⟨ρ, ι, μ, he, hs, h⟩ => av_then he hs h fun vs H1 ι1 μ1 ts he1 hs1 f1 r1 h1 => hg' W σ H1 ι1 μ1 vs ts Q hs1 r1 h1
theorem pv_callTy (hc : CallR X (.type Ty) r) (hg' : CallT S g r) (hg : Gl X x) (hm : X.mg x = none) (hv : bootBuiltins x = some (.type Ty)) (ha : PVa X S W (e :: es) f) (hn : x ≠ "__name__") (hdb : (x == ("__debug__" : Str)) = false)
    (he : starEach (e :: es) X.env = (false, eval e X.env) :: starEach es X.env) (hpl : (backTo pos (starEach es X.env)).any (·.1) = false) : PV X S W (.Call (.Name x p) (e :: es) [] pos) (cN g f) :=
  PE.weak (pe_callTy hc hg hm hv ha hn hdb he hpl) fun σ H Q ⟨ρ, ι, μ, he, hs, h⟩ => av_then he hs h fun vs H1 ι1 μ1 ts he1 hs1 f1 r1 h1 => hg' W σ H1 ι1 μ1 vs ts Q hs1 r1 h1
end

section
variable {S : Sta} {X : Cx}
theorem reps1 {H : Hp} {ι : Ids} {xs : List V} {t : T} (r : Reps S H ι xs [t]) : ∃ x, xs = [x] ∧ Rep S H ι x t := by
  cases r with
  | cons h q => cases q; exact ⟨_, rfl, h⟩
theorem reps2 {H : Hp} {ι : Ids} {xs : List V} {t u : T} (r : Reps S H ι xs [t, u]) : ∃ x y, xs = [x, y] ∧ Rep S H ι x t ∧ Rep S H ι y u := by
  cases r with
  | cons h q =>
    obtain ⟨y, rfl, hy⟩ := reps1 q
    exact ⟨_, _, rfl, h, hy⟩
/-- len of a list, a tuple, a text -/
def bLen (ts : List T) : M T := fun μ => match ts with
  | [.str y] => if y.length ≤ lim then .ok (.int y.length) μ else .bad
  | [t] => match seqOf t μ with
    | some us => .ok (.int us.length) μ
    | none => .bad
  | _ => .bad
theorem callT_len : CallT S bLen (fun xs H Q => ∃ x n, xs = [x] ∧ LenV S.K x H n ∧ Q (.int n) H) := by
  intro W σ H ι μ xs ts Q hs r h
  unfold bLen at h
  split at h
  · obtain ⟨x, rfl, rx⟩ := reps1 r
    cases rx
    split at h
    · rename_i hl
      exact ⟨_, _, rfl, ⟨by rw [lim_eq]; exact hl, rfl⟩, Pst.now h hs (.int _)⟩
    · exact h.elim
  · obtain ⟨x, rfl, rx⟩ := reps1 r
    split at h
    · rename_i e
      obtain ⟨a, vs, rfl, q, rs⟩ := seq_read e hs rx
      rw [← rs.length] at h
      refine ⟨_, vs.length, rfl, ?_, Pst.now h hs (.int _)⟩
      rcases q with q | q
      · exact .inr ⟨vs, q, rfl⟩
      · exact .inl ⟨vs, q, rfl⟩
    · exact h.elim
  · exact h.elim
/-- list(x), tuple(x) of a list, a tuple -/
def bList (ts : List T) : M T := fun μ => match ts with
  | [t] => match seqOf t μ with
    | some us => .ok (.lst us) μ
    | none => .bad
  | _ => .bad
def bTuple (ts : List T) : M T := fun μ => match ts with
  | [t] => match seqOf t μ with
    | some us => .ok (.tup us) μ
    | none => .bad
  | _ => .bad
theorem callT_list : CallT S bList (fun xs H Q => ∃ p ys, xs = [.ref p] ∧ (SqL S.K H p ys ∨ SqT S.K H p ys) ∧ ∀ l, H l = none → Q (.ref l) (upd H l (.lst ys))) := by
  intro W σ H ι μ xs ts Q hs r h
  unfold bList at h
  split at h
  · obtain ⟨x, rfl, rx⟩ := reps1 r
    split at h
    · rename_i e
      obtain ⟨a, vs, rfl, q, rs⟩ := seq_read e hs rx
      exact ⟨a, vs, rfl, q.symm, fun l hl => Pst.new h hs hl (Rep.newL hs hl rs)⟩
    · exact h.elim
  · exact h.elim
theorem callT_tuple : CallT S bTuple (fun xs H Q => ∃ p ys, xs = [.ref p] ∧ ((SqL S.K H p ys ∧ ∀ l, H l = none → Q (.ref l) (upd H l (.tup ys))) ∨ (SqT S.K H p ys ∧ Q (.ref p) H))) := by
  intro W σ H ι μ xs ts Q hs r h
  unfold bTuple at h
  split at h
  · rename_i t
    obtain ⟨x, rfl, rx⟩ := reps1 r
    split at h
    · rename_i e
      cases t with
      | tup us =>
        cases e
        cases rx with
        | tup hx q => exact ⟨_, _, rfl, .inr ⟨hx.sq, Pst.now h hs (.tup hx q)⟩⟩
      | scr us =>
        cases e
        cases rx with
        | scr hx q => exact ⟨_, _, rfl, .inl ⟨hx.sq, fun l hl => Pst.new h hs hl (Rep.newT hs hl q)⟩⟩
      | lst us =>
        obtain ⟨a, vs, rfl, q, rs⟩ := lst_read (t := .lst us) e hs rx
        exact ⟨a, vs, rfl, .inl ⟨.inl q, fun l hl => Pst.new h hs hl (Rep.newT hs hl rs)⟩⟩
      | obj n =>
        obtain ⟨a, vs, rfl, q, rs⟩ := lst_read (t := .obj n) e hs rx
        exact ⟨a, vs, rfl, .inl ⟨.inl q, fun l hl => Pst.new h hs hl (Rep.newT hs hl rs)⟩⟩
      | _ => cases e
    · exact h.elim
  · exact h.elim
/-- int(x) of an int, a bool -/
def bInt (ts : List T) : M T := match ts with
  | [.int i] => ret (.int i)
  | [.bl b] => ret (.int (if b then 1 else 0))
  | _ => bad
theorem callT_int : CallT S bInt (fun xs H Q => (∃ i, xs = [.int i] ∧ Q (.int i) H) ∨ ∃ k, xs = [.bl k] ∧ Q (.int (if k then 1 else 0)) H) := by
  intro W σ H ι μ xs ts Q hs r h
  unfold bInt at h
  split at h
  · obtain ⟨x, rfl, rx⟩ := reps1 r
    cases rx
    exact .inl ⟨_, rfl, Pst.now h hs (.int _)⟩
  · obtain ⟨x, rfl, rx⟩ := reps1 r
    cases rx
    exact .inr ⟨_, rfl, Pst.now h hs (.int _)⟩
  · exact h.elim
/-- isinstance of data and a built-in type -/
def tyName : T → Option String
  | .non => some "NoneType"
  | .bl _ => some "bool"
  | .int _ => some "int"
  | .str _ => some "str"
  | .tup _ => some "tuple"
  | .lst _ => some "list"
  | _ => none
def isiB (a b : String) : Option Bool :=
  if b = "int" then some (a == "int" || a == "bool") else if b = "bool" then some (a == "bool") else if b = "tuple" then some (a == "tuple") else if b = "str" then some (a == "str") else if b = "list" then some (a == "list") else none
theorem tyName_in {t : T} {a : String} (h : tyName t = some a) : a ∈ ["NoneType", "bool", "int", "str", "tuple", "list"] := by
  cases t <;> first | (cases h; done) | (cases h; decide)
theorem isi_table : ∀ a ∈ ["NoneType", "bool", "int", "str", "tuple", "list"], ∀ b ∈ ["int", "bool", "tuple", "str", "list"], kitB a b = isiB a b := by decide +kernel
theorem isiB_in {a b : String} {k : Bool} (h : isiB a b = some k) : b ∈ ["int", "bool", "tuple", "str", "list"] := by
  unfold isiB at h
  split at h
  · rename_i e; subst e; decide
  · split at h
    · rename_i e; subst e; decide
    · split at h
      · rename_i e; subst e; decide
      · split at h
        · rename_i e; subst e; decide
        · split at h
          · rename_i e; subst e; decide
          · cases h
theorem tyName_of {H : Hp} {ι : Ids} {v : V} {t : T} {a : String} (e : tyName t = some a) (r : Rep S H ι v t) : TyX S.K H v (.type a) := by
  cases r with
  | non => cases e; exact .base .non
  | bl b => cases e; exact .base (.bl _)
  | int b => cases e; exact .base (.int _)
  | str b => cases e; exact .base (.str _)
  | tup h q =>
    cases e
    rcases h with ⟨_, h | ⟨o, h⟩⟩ | ⟨o, its, n, h, c, _⟩
    · exact .base (.tup h)
    · exact .fTuple h
    · exact .kTuple h c
  | lst h q =>
    cases e
    rcases h with ⟨_, h | ⟨o, h⟩⟩
    · exact .base (.lst h)
    · exact .base (.frz h)
  | _ => cases e
def bIsi (ts : List T) : M T := match ts with
  | [t, .ty n] => match (tyName t).bind fun a => isiB a n with
    | some b => ret (.bl b)
    | none => bad
  | _ => bad
theorem callT_isi : CallT S bIsi (rIsi S.K) := by
  intro W σ H ι μ xs ts Q hs r h
  unfold bIsi at h
  split at h
  · rename_i t n
    obtain ⟨x, y, rfl, rx, ry⟩ := reps2 r
    cases e : (tyName t).bind fun a => isiB a n with
    | none => rw [e] at h; exact h.elim
    | some b =>
      rw [e] at h
      obtain ⟨a, e1, e2⟩ := Option.bind_eq_some_iff.mp e
      cases ry
      exact ⟨x, _, .type a, .type n, b, rfl, .ty n, tyName_of e1 rx, kit_ty (by rw [isi_table a (tyName_in e1) n (isiB_in e2)]; exact e2), Pst.now h hs (.bl _)⟩
  · exact h.elim
end
end Tw

/-! TwS: sorted of rows of ints, empty ones among them -/
namespace Tw
open PySem PySem.SeqAt
section
variable {A : Around} {s : Shared}
theorem call_tuple_lt {prog : Program} {w : World} {E : Value → Shared → Prop} {Q : Value → Shared → Prop} {l b : Addr} {items items2 : Array Value} {e r : Nat → Bool} (hl : s.heap.IsTuple l items) (hb : s.heap.IsTuple b items2)
    (he : ∀ j (h1 : j < items.size) (h2 : j < items2.size), EqAt A.in1 s items[j] items2[j] (e j)) (hr : ∀ j (h1 : j < items.size) (h2 : j < items2.size), e j = false → RcLt A.in1 s items[j] items2[j] (r j))
    (h : Q (.bool (firstLt e r (decide (items.size < items2.size)) (List.range (min items.size items2.size)))) s) : wpAny (model prog w) A (call (.builtin "tuple.__lt__") [.ref l, .ref b]) Q E s := by
  obtain ⟨⟨cls, dd, data, sl⟩, ho, hc, n, hd⟩ := id hl
  obtain ⟨⟨cls2, dd2, data2, sl2⟩, ho2, hc2, n2, hd2⟩ := id hb
  simp only at hc hd hc2 hd2
  subst hc hd hc2 hd2
  exact call_meets F.slot_tuple_lt ⟨_, ho, rfl⟩ F.entry_tuple_lt (F.args_tuple_lt_2 _ _) (tuple_ltAt l b items items2 n n2 dd dd2 sl sl2 e r) ⟨ho, ho2, he, hr, h⟩
end
open PySem.W PyProof.Rows PySem.Calls
section
variable {prog : Program} {w : World} {A : Around} {E : Value → Shared → Prop} {s : Shared}
/-- < of two tuples of alike data, as sorting asks it of one type -/
theorem oneLt_tup {f : Bool} {xs ys : List PyData} {a b : Value} {as bs : List Addr} {Q : Bool → Shared → Prop} (ra : Reads s.heap a (.tuple xs) as) (rb : Reads s.heap b (.tuple ys) bs) (h : alike (.tuple xs) (.tuple ys) = true)
    (hu : A.units + min (PyData.tuple xs).depth (PyData.tuple ys).depth < cLine) (hq : Q (dataLt (.tuple xs) (.tuple ys)) s) : wpAny (model prog w) A (oneLt' f a b) Q E s := by
  cases f with
  | false => exact oneLt_alike (fun z => by cases z) ra rb h (by simp) hu hq
  | true =>
    have hal : alikeAll xs ys = true := by simpa [alike] using h
    cases ra with
    | @tuple l o vs n _ as₁ h1 h2 h3 h4 =>
      cases rb with
      | @tuple l' o' vs' n' _ bs₁ k1 k2 k3 k4 =>
        have n1 : vs.size = xs.length := by simpa using ReadsAll.length _ _ _ h4
        have n2 : vs'.size = ys.length := by simpa using ReadsAll.length _ _ _ k4
        rw [dataLt_tuple, ← firstLt_toks xs ys hal, ← n1, ← n2] at hq
        rw [oneLt'_eq]
        simp only [if_true]
        refine wpAny_bind (wpAny_cRoomFor (room_here hu) ?_)
        refine wpAny_bind (wpAny_callSpecialIfBound?_slot (T := "tuple") ⟨_, h1, h2⟩ F.slot_tuple_lt (call_tuple_lt (e := pairEq xs ys) (r := fun j => dataLt (xs.getD j .none) (ys.getD j .none)) ⟨_, h1, h2, _, h3⟩ ⟨_, k1, k2, _, k3⟩ (fun j j1 j2 => ?_) (fun j j1 j2 hj => ?_) ?_))
        · have := eqAt_alikeAll xs ys A.in1 s vs.toList vs'.toList _ _ h4 k4 hal (room_in hu) j (by simpa using j1) (by simpa using j2)
          simpa using this
        · have := rcLt_alikeAll xs ys A.in1 s vs.toList vs'.toList _ _ h4 k4 hal (room_in hu) j (by simpa using j1) (by simpa using j2) hj
          simpa using this
        · exact wpAny_truthy_bool hq
/-- the first items, where some tuple is empty -/
theorem firsts_any : ∀ (vs : List Value) (ds : List (List PyData)) {Q : List (Option Value) → Shared → Prop}, EachIs (fun v d => ∃ as, Reads s.heap v (.tuple d) as) vs ds →
    (∀ fs : List (Option Value), fs.length = ds.length → (∀ (i : Nat) (d : List PyData), ds[i]? = some d → ∃ o, fs[i]? = some o ∧ o.isSome = !d.isEmpty) → Q fs s) → wpAny (model prog w) A (vs.mapM firstOfTuple') Q E s
  | [], [], _, _, h => by
    rw [List.mapM_nil]
    exact wpAny_pure (h [] rfl fun i d e => by simp at e)
  | v :: vs, d :: ds, Q, e, h => by
    cases e with
    | cons h1 t =>
      obtain ⟨as, r⟩ := h1
      cases r with
      | @tuple a o xs n _ _ ho hc hd hr =>
        rw [List.mapM_cons]
        refine wpAny_bind ?_
        rw [kas_first_eq]
        refine wpAny_bind (Looks.here (show Looks (model prog w) s.heap (typeOf (.ref a)) o.cls from (Looks.ld ho).andThen .now) ?_)
        rw [hc, if_neg (by first | decide | simp)]
        refine wpAny_bind (listItems_at ho hd (wpAny_pure ?_))
        refine wpAny_bind (firsts_any vs ds (Q := fun bs s' => wpAny (model prog w) A (pure (xs[0]? :: bs)) Q E s') t fun fs hl hf => wpAny_pure (h _ (by simp [hl]) fun i d' e' => ?_))
        cases i with
        | zero =>
          cases e'
          refine ⟨xs[0]?, rfl, ?_⟩
          have n1 : xs.size = d.length := by simpa using SeqAt.ReadsAll.length _ _ _ hr
          cases d with
          | nil => rw [Array.getElem?_eq_none (by rw [n1]; exact Nat.le_refl _)]; rfl
          | cons x r => rw [Array.getElem?_eq_getElem (by rw [n1]; exact Nat.succ_pos _)]; rfl
        | succ i => exact hf i d' e'
  | [], _ :: _, _, e, _ => by cases e
  | _ :: _, [], _, e, _ => by cases e
theorem tups_kind {vs : List Value} {d₀ : List PyData} {ds : List (List PyData)} (h2 : 2 ≤ vs.length) (e : EachIs (fun v d => ∃ as, Reads s.heap v (.tuple d) as) vs (d₀ :: ds)) (hne : ∃ d ∈ d₀ :: ds, d = []) {Q : SortKind → Shared → Prop}
    (h : Q (if d₀.isEmpty then oneType' else general') s) : wpAny (model prog w) A (keyKind' vs.toArray) Q E s := by
  rw [kat_kind_eq, List.mapM_toArray, map_eq_pure_bind]
  refine wpAny_bind (wpAny_bind (firsts_any vs (d₀ :: ds) e fun fs hl hf => wpAny_pure ?_))
  have hall : (fs.toArray.all fun x => x.isSome) = false := by
    obtain ⟨d, hd, rfl⟩ := hne
    obtain ⟨i, hi⟩ := List.mem_iff_getElem?.mp hd
    obtain ⟨o, e1, e2⟩ := hf i [] hi
    rw [List.all_toArray]
    rw [List.all_eq_false]
    exact ⟨o, List.mem_iff_getElem?.mpr ⟨i, e1⟩, by rw [e2]; simp⟩
  rw [if_neg (by rw [hall]; simp)]
  obtain ⟨o, e1, e2⟩ := hf 0 d₀ rfl
  have e3 : (fs.toArray[0]?.bind id).isSome = !d₀.isEmpty := by
    rw [List.getElem?_toArray, e1]
    exact e2
  rw [e3]
  cases hd : d₀.isEmpty with
  | false =>
    rw [hd] at h
    rw [if_pos (by rfl)]
    exact wpAny_pure h
  | true =>
    rw [hd] at h
    rw [if_neg (by simp)]
    rw [oneTypeOnly'_eq, List.mapM_toArray, map_eq_pure_bind]
    refine wpAny_bind (wpAny_bind (wpAny_bind (kas_mapM (r := Value.type "tuple") _ (fun v hv Q' hq => ?_) (wpAny_pure ?_))))
    · obtain ⟨d, hd, as, r⟩ := e.left v hv
      exact (show Looks (model prog w) s.heap (typeOf v) (.type "tuple") from looks_reads (d := .tuple d) r).here hq
    · obtain ⟨v₁, v₂, rest, rfl⟩ : ∃ v₁ v₂ rest, vs = v₁ :: v₂ :: rest := by
        match vs, h2 with
        | [], h2 => simp at h2
        | [_], h2 => simp at h2
        | v₁ :: v₂ :: rest, _ => exact ⟨v₁, v₂, rest, rfl⟩
      have hall : ((List.map (fun _ => Value.type "tuple") (v₁ :: v₂ :: rest)).toArray.all fun x => x == Value.type "tuple") = true := by
        simp only [List.all_toArray, List.all_map, List.all_eq_true]
        intro _ _
        exact beq_self_eq_true _
      have h0 : (List.map (fun _ => Value.type "tuple") (v₁ :: v₂ :: rest)).toArray[0]? = some (Value.type "tuple") := by simp
      rw [h0]
      simp only [hall, if_true]
      exact wpAny_pure (wpAny_pure h)
theorem each_tup {β : Type} {enc : β → List PyData} {h : Heap} : ∀ {vs : List Value} {bs : List β}, EachIs (fun v b => ∃ as, Reads h v (.tuple (enc b)) as) vs bs → EachIs (fun v d => ∃ as, Reads h v (.tuple d) as) vs (bs.map enc)
  | _, _, .nil => .nil
  | _, _, .cons h t => .cons h (each_tup t)
theorem all_nonempty (ds : List (List PyData)) : (∃ d ∈ ds, d = []) ∨ ∀ d ∈ ds, ∃ x r, d = x :: r := by
  by_cases h : ∃ d ∈ ds, d = []
  · exact .inl h
  · refine .inr fun d hd => ?_
    cases d with
    | nil => exact absurd ⟨[], hd, rfl⟩ h
    | cons x r => exact ⟨x, r, rfl⟩
/-- tuples that are alike, empty ones too -/
theorem sortsAt_tups {vs : List Value} {ds : List (List PyData)} (e : EachIs (fun v d => ∃ as, Reads s.heap v (.tuple d) as) vs ds) (hal : AllAlike (ds.map .tuple)) (hu : ∀ d, d ∈ ds → A.units + (PyData.tuple d).depth < cLine) :
    SortsAt prog w A s (dataKind s.heap (ds.map .tuple)) vs := by
  have hu' : ∀ d, d ∈ ds.map PyData.tuple → A.units + d.depth < cLine := fun d hd => by
    obtain ⟨x, hx, rfl⟩ := List.mem_map.mp hd
    exact hu x hx
  have e' : EachIs (fun v d => ∃ as, Reads s.heap v d as) vs (ds.map .tuple) := each_map (R := fun v d => ∃ as, Reads s.heap v d as) PyData.tuple e
  rcases all_nonempty ds with hne | hne
  · refine ⟨fun v hv => ?_, ?_⟩
    · obtain ⟨d, hd, as, r⟩ := e'.left v hv
      exact ⟨_, dataKind_some hal hd r⟩
    · obtain ⟨d₀, ds₀, rfl⟩ : ∃ d₀ ds₀, ds = d₀ :: ds₀ := by
        cases ds with
        | nil => obtain ⟨_, h, _⟩ := hne; cases h
        | cons a b => exact ⟨a, b, rfl⟩
      refine ⟨if d₀.isEmpty then oneType' else general', ?_, fun h2 E Q hq => tups_kind h2 e hne hq⟩
      intro E x y a b Q ha hb hq
      obtain ⟨d, as, hd, ra, rfl⟩ := dataKind_inv ha
      obtain ⟨d', as', hd', rb, rfl⟩ := dataKind_inv hb
      have hdd := hal d hd d' hd'
      have hroom : A.units + min d.depth d'.depth < cLine := Nat.lt_of_le_of_lt (Nat.add_le_add_left (Nat.min_le_left _ _) _) (hu' d hd)
      obtain ⟨x1, _, rfl⟩ := List.mem_map.mp hd
      obtain ⟨x2, _, rfl⟩ := List.mem_map.mp hd'
      cases d₀.isEmpty with
      | true => exact oneLt_tup (f := true) ra rb hdd hroom hq
      | false => exact oneLt_tup (f := false) ra rb hdd hroom hq
  · refine SortsAt.data e' hal (.inl fun d hd => ?_) hu'
    obtain ⟨x, hx, rfl⟩ := List.mem_map.mp hd
    obtain ⟨y, r, rfl⟩ := hne x hx
    exact ⟨y, r, rfl⟩
theorem sorted_tups {β : Type} {R : Value → β → Prop} {enc : β → List PyData} {vs : List Value} {bs : List β} {l : Addr} {Q : Value → Shared → Prop} (hl : s.heap.IsList l vs.toArray) (e : EachIs R vs bs) (er : EachIs (fun v b => ∃ as, Reads s.heap v (.tuple (enc b)) as) vs bs) (hal : AllAlike (bs.map fun b => .tuple (enc b))) (hL : bs.length ≤ sizeLine)
    (hu : ∀ b, b ∈ bs → A.units + 2 + (PyData.tuple (enc b)).depth < cLine) (h : ∀ out, out.length = bs.length → EachIs R out (bs.mergeSort (dataLe false fun b => .tuple (enc b))) → Q (.ref (s.heap.objs.size + 1)) { s with heap := sortedAll s.heap vs (List.toArray out) }) :
    wpAny (model prog w) A (call (.builtin "sorted") [.ref l]) Q E s := by
  have er' : EachIs (fun v b => ∃ as, Reads (sortingHeap (copyHeap s.heap vs) (s.heap.objs.size + 1) vs) v (.tuple (enc b)) as) vs bs := er.mono fun _ _ ⟨as, r⟩ => ⟨as, PyProof.Rows.Reads.keeps (fun _ _ => sorting_copy_old) r⟩
  have em : bs.map (fun b => PyData.tuple (enc b)) = (bs.map enc).map .tuple := by rw [List.map_map]; rfl
  have S := sortsAt_tups (prog := prog) (w := w) (A := A.in1.in1) (s := { s with heap := sortingHeap (copyHeap s.heap vs) (s.heap.objs.size + 1) vs }) (each_tup er') (by rw [← em]; exact hal) (fun d hd => by
    obtain ⟨b, hb, rfl⟩ := List.mem_map.mp hd
    exact hu b hb)
  rw [← em] at S
  exact sorted_vals hl S (by rw [e.length]; exact hL) (h _ (by rw [sortVals_length false rfl]; exact e.length) (sortVals_data (enc := fun b => .tuple (enc b)) false e er' hal))
end
end Tw

/-! TwT: calls of built-ins: sorted, all, any, sum, max, min -/
namespace Tw
open PySem L2
def leRow (p q : List Int) : Bool := decide (p ≤ q)
def leInt (p q : Int) : Bool := decide (p ≤ q)
theorem dataLe_tups : PySem.W.dataLe false (fun b : List Int => .tuple (b.map .int)) = leRow := by
  have := PySem.W.dataLe_rows (β := List Int) id
  funext p q
  have e := congrFun (congrFun this p) q
  have e2 : PySem.W.dataLe false (fun b : List Int => .tuple (b.map .int)) p q = PySem.W.dataLe false (fun b : List Int => .list ((id b).map .int)) p q := by
    show (!PySem.W.dataLt (.tuple (q.map .int)) (.tuple (p.map .int))) = (!PySem.W.dataLt (.list (q.map .int)) (.list (p.map .int)))
    rw [PySem.W.dataLt_tuple, PySem.W.dataLt_list]
  rw [e2, e]
  rfl
section
variable {X : Cx}
theorem each_vals {β : Type} {P : V → β → Prop} : ∀ {us : List Value} {bs : List β}, PySem.W.EachIs (fun v b => ∃ x, RelV x v ∧ P x b) us bs → ∃ xs, Vals xs us ∧ PySem.W.EachIs P xs bs
  | _, _, .nil => ⟨[], .nil, .nil⟩
  | _, _, .cons ⟨x, r, p⟩ t => let ⟨xs, h1, h2⟩ := each_vals t; ⟨x :: xs, .cons r h1, .cons p h2⟩
theorem vals_each {β : Type} {P : V → β → Prop} : ∀ {xs : List V} {us : List Value} {bs : List β}, Vals xs us → PySem.W.EachIs P xs bs → PySem.W.EachIs (fun v b => ∃ x, RelV x v ∧ P x b) us bs
  | _, _, _, .nil, .nil => .nil
  | _, _, _, .cons r rs, .cons p ps => .cons ⟨_, r, p⟩ (vals_each rs ps)
theorem each_len {α β : Type} {P : α → β → Prop} : ∀ {xs : List α} {bs : List β}, PySem.W.EachIs P xs bs → xs.length = bs.length
  | _, _, .nil => rfl
  | _, _, .cons _ t => congrArg (· + 1) (each_len t)
def rSortT (K : PySem.W.Frag) : List V → Hp → VK → Prop := fun vs H Q => ∃ (a : Addr) (xs : List V) (rows : List (List Int)) (P : V → List Int → Prop), vs = [.ref a] ∧ SqL K H a xs ∧ PySem.W.EachIs P xs rows ∧ (∀ x r, P x r → Dp K H x (.tuple (r.map .int))) ∧
  ∀ xs' p, PySem.W.EachIs P xs' (rows.mergeSort leRow) → H p = none → Q (.ref p) (upd H p (.lst xs'))
def rSortI (K : PySem.W.Frag) : List V → Hp → VK → Prop := fun vs H Q => ∃ (a : Addr) (ns : List Int), vs = [.ref a] ∧ SqL K H a (ns.map V.int) ∧ ∀ p, H p = none → Q (.ref p) (upd H p (.lst ((ns.mergeSort leInt).map V.int)))
theorem cr_sortT (hu : X.A.units + 64 < cLine) : CallR X (.builtin "sorted") (rSortT X.K) := by
  intro pins s σ H vs us Q I r h
  obtain ⟨a, xs, rows, P, rfl, hs, he, hd, q⟩ := h
  obtain ⟨its, rv, hl, hz⟩ := I.list hs
  rw [Vals.ref1 r]
  have e1 := vals_each rv he
  have hz2 : rows.length ≤ sizeLine := by rw [← each_len he]; exact hz
  refine sorted_tups (enc := fun b : List Int => b.map .int) (R := fun v b => ∃ x, RelV x v ∧ P x b) hl.isList e1 (e1.mono fun v b ⟨x, rx, px⟩ => Dp.reads I _ x v (hd x b px) rx) ?_ hz2 (fun b _ => ?_) fun out ho eo => ?_
  · exact PySem.W.AllAlike.of fun b b' => by
      have := PySem.W.alike_ints b b'
      simpa [PySem.W.alike] using this
  · have e : (PyData.tuple (b.map .int)).depth = 1 := by
      rw [PyData.depth, PySem.W.depth_ints]
    rw [e]
    omega
  · rw [dataLe_tups] at eo
    obtain ⟨xs', rv', ex⟩ := each_vals eo
    obtain ⟨ep, he'⟩ := PyProof.Rows.sortedAll_at s.heap its out.toArray
    have hlen : xs'.length ≤ sizeLine := by rw [rv'.length, ho]; exact hz2
    exact ⟨.ref _, upd H (s.heap.objs.size + 1) (.lst xs'), I.laid (t' := s.toks) (fun _ _ => PyProof.Rows.sortedAll_old) (Nat.le_succ _) ⟨hlen, out, ep, rv', he'⟩, rfl, q xs' _ ex (I.hok.fresh (Nat.le_succ _))⟩
theorem each_ints : ∀ (ns : List Int), PySem.W.EachIs (fun (x : V) (n : Int) => x = .int n) (ns.map V.int) ns
  | [] => .nil
  | _ :: ns => .cons rfl (each_ints ns)
theorem ints_each : ∀ {xs : List V} {ns : List Int}, PySem.W.EachIs (fun (x : V) (n : Int) => x = .int n) xs ns → xs = ns.map V.int
  | _, _, .nil => rfl
  | _, _, .cons h t => by rw [h, ints_each t]; rfl
theorem cr_sortI (hu : X.A.units + 64 < cLine) : CallR X (.builtin "sorted") (rSortI X.K) := by
  intro pins s σ H vs us Q I r h
  obtain ⟨a, ns, rfl, hs, q⟩ := h
  obtain ⟨its, rv, hl, hz⟩ := I.list hs
  rw [Vals.ref1 r]
  have e1 := vals_each rv (each_ints ns)
  have hz2 : ns.length ≤ sizeLine := by rw [List.length_map] at hz; exact hz
  have er : PySem.W.EachIs (fun v (b : Int) => ∃ as, Reads s.heap v (PyData.int b) as) its ns := e1.mono fun v b ⟨x, rx, px⟩ => by
    subst px
    obtain ⟨t, rfl⟩ := rx
    exact ⟨_, .int b t⟩
  have hal : PySem.W.AllAlike (ns.map PyData.int) := PySem.W.AllAlike.of fun b b' => by simp [PySem.W.alike]
  have hk : PySem.W.Sortable (ns.map PyData.int) := PySem.W.Sortable.others fun b => ⟨by simp, by simp⟩
  have hb : ∀ b, b ∈ ns → X.A.units + 2 + (PyData.int b).depth < cLine := fun b _ => by
    have e : (PyData.int b).depth = 0 := by rw [PyData.depth]
    rw [e]
    omega
  refine PySem.W.sorted_data (enc := PyData.int) (R := fun v b => ∃ x, RelV x v ∧ x = V.int b) hl.isList e1 er hal hk hz2 hb fun out ho eo => ?_
  rw [PySem.W.dataLe_int (fun b => b)] at eo
  obtain ⟨xs', rv', ex⟩ := each_vals eo
  have := ints_each ex
  subst this
  obtain ⟨ep, he'⟩ := PyProof.Rows.sortedAll_at s.heap its out.toArray
  have hlen : ((ns.mergeSort leInt).map V.int).length ≤ sizeLine := by rw [List.length_map, List.length_mergeSort]; exact hz2
  exact ⟨.ref _, upd H (s.heap.objs.size + 1) (.lst ((ns.mergeSort leInt).map V.int)), I.laid (t' := s.toks) (fun _ _ => PyProof.Rows.sortedAll_old) (Nat.le_succ _) ⟨hlen, out, ep, rv', he'⟩, rfl, q _ (I.hok.fresh (Nat.le_succ _))⟩
theorem CallR.or2 {f : Value} {r r' : List V → Hp → VK → Prop} (h : CallR X f r) (h' : CallR X f r') : CallR X f (fun xs H Q => r xs H Q ∨ r' xs H Q) := fun pins s σ H vs us Q I rv q => q.elim (h pins s σ H vs us Q I rv) (h' pins s σ H vs us Q I rv)
end
/-! ### readings of trees -/
def intsT : List T → Option (List Int)
  | [] => some []
  | .int i :: ts => (intsT ts).map (i :: ·)
  | _ => none
def blsT : List T → Option (List Bool)
  | [] => some []
  | .bl i :: ts => (blsT ts).map (i :: ·)
  | _ => none
def rowsT : List T → Option (List (List Int))
  | [] => some []
  | .tup a :: ts => match intsT a, rowsT ts with
    | some r, some rs => some (r :: rs)
    | _, _ => none
  | _ => none
theorem intsT_of : ∀ {ts : List T} {ns : List Int}, intsT ts = some ns → ts = ns.map T.int
  | [], _, h => by cases h; rfl
  | .int i :: ts, _, h => by
    obtain ⟨r, e, rfl⟩ := Option.map_eq_some_iff.mp h
    rw [intsT_of e]; rfl
  | .non :: _, _, h => by cases h
  | .bl _ :: _, _, h => by cases h
  | .str _ :: _, _, h => by cases h
  | .ty _ :: _, _, h => by cases h
  | .cls _ :: _, _, h => by cases h
  | .fn _ :: _, _, h => by cases h
  | .tup _ :: _, _, h => by cases h
  | .lst _ :: _, _, h => by cases h
  | .dic _ _ :: _, _, h => by cases h
  | .ins _ _ :: _, _, h => by cases h
  | .obj _ :: _, _, h => by cases h
  | .scr _ :: _, _, h => by cases h
theorem intsT_map : ∀ (ns : List Int), intsT (ns.map T.int) = some ns
  | [] => rfl
  | n :: ns => by show (intsT (ns.map T.int)).map (n :: ·) = _; rw [intsT_map ns]; rfl
theorem blsT_of : ∀ {ts : List T} {ns : List Bool}, blsT ts = some ns → ts = ns.map T.bl
  | [], _, h => by cases h; rfl
  | .bl i :: ts, _, h => by
    obtain ⟨r, e, rfl⟩ := Option.map_eq_some_iff.mp h
    rw [blsT_of e]; rfl
  | .non :: _, _, h => by cases h
  | .int _ :: _, _, h => by cases h
  | .str _ :: _, _, h => by cases h
  | .ty _ :: _, _, h => by cases h
  | .cls _ :: _, _, h => by cases h
  | .fn _ :: _, _, h => by cases h
  | .tup _ :: _, _, h => by cases h
  | .lst _ :: _, _, h => by cases h
  | .dic _ _ :: _, _, h => by cases h
  | .ins _ _ :: _, _, h => by cases h
  | .obj _ :: _, _, h => by cases h
  | .scr _ :: _, _, h => by cases h
theorem blsT_map : ∀ (ns : List Bool), blsT (ns.map T.bl) = some ns
  | [] => rfl
  | n :: ns => by show (blsT (ns.map T.bl)).map (n :: ·) = _; rw [blsT_map ns]; rfl
@[reducible] def rowT (r : List Int) : T := .tup (r.map T.int)
theorem rowsT_of : ∀ {ts : List T} {ns : List (List Int)}, rowsT ts = some ns → ts = ns.map rowT
  | [], _, h => by cases h; rfl
  | .tup a :: ts, _, h => by
    unfold rowsT at h
    split at h
    · rename_i r rs e1 e2
      cases h
      rw [rowsT_of e2, intsT_of e1]; rfl
    · cases h
  | .int _ :: _, _, h => by cases h
  | .non :: _, _, h => by cases h
  | .bl _ :: _, _, h => by cases h
  | .str _ :: _, _, h => by cases h
  | .ty _ :: _, _, h => by cases h
  | .cls _ :: _, _, h => by cases h
  | .fn _ :: _, _, h => by cases h
  | .lst _ :: _, _, h => by cases h
  | .dic _ _ :: _, _, h => by cases h
  | .ins _ _ :: _, _, h => by cases h
  | .obj _ :: _, _, h => by cases h
  | .scr _ :: _, _, h => by cases h
theorem rowsT_map : ∀ (ns : List (List Int)), rowsT (ns.map rowT) = some ns
  | [] => rfl
  | n :: ns => by
    show (match intsT (n.map T.int), rowsT (ns.map rowT) with | some r, some rs => some (r :: rs) | _, _ => none) = _
    rw [rowsT_map ns, intsT_map n]
section
variable {S : Sta} {H : Hp} {ι : Ids} {X : Cx}
theorem reps_bls : ∀ {vs : List V} {ns : List Bool}, Reps S H ι vs (ns.map T.bl) → vs = ns.map V.bl
  | _, [], .nil => rfl
  | _, _ :: _, .cons h r => by cases h; rw [reps_bls r]; rfl
theorem reps_each : ∀ {vs : List V} {rows : List (List Int)}, Reps S H ι vs (rows.map rowT) → PySem.W.EachIs (fun x r => Rep S H ι x (rowT r)) vs rows
  | _, [], .nil => .nil
  | _, _ :: _, .cons h r => .cons h (reps_each r)
theorem each_reps : ∀ {vs : List V} {rows : List (List Int)}, PySem.W.EachIs (fun x r => Rep S H ι x (rowT r)) vs rows → Reps S H ι vs (rows.map rowT)
  | _, _, .nil => .nil
  | _, _, .cons h r => .cons h (each_reps r)
theorem pds_ints : ∀ ns : List Int, pds (ns.map T.int) = some (ns.map PyData.int)
  | [] => by simp only [List.map_nil, pds]
  | n :: ns => by simp only [List.map_cons, pds, pd, pds_ints ns]
theorem dp_row {x : V} {r : List Int} (h : Rep S H ι x (rowT r)) : Dp S.K H x (.tuple (r.map .int)) :=
  pd_dp (by unfold rowT; simp only [pd, pds_ints, Option.map_some]) h
/-- sorted(xs) of rows of ints, of ints -/
def bSorted (ts : List T) : M T := fun μ => match ts with
  | [t] => match lstOf t μ with
    | some us => match rowsT us with
      | some rs => .ok (.lst ((rs.mergeSort leRow).map rowT)) μ
      | none => match intsT us with
        | some ns => .ok (.lst ((ns.mergeSort leInt).map T.int)) μ
        | none => .bad
    | none => .bad
  | _ => .bad
theorem callT_sorted : CallT S bSorted (fun xs H Q => rSortT S.K xs H Q ∨ rSortI S.K xs H Q) := by
  intro W σ H ι μ xs ts Q hs r h
  unfold bSorted at h
  split at h
  · obtain ⟨x, rfl, rx⟩ := reps1 r
    split at h
    · rename_i us e
      obtain ⟨a, vs, rfl, q, rs⟩ := lst_read e hs rx
      split at h
      · rename_i rows er
        have := rowsT_of er
        subst this
        refine .inl ⟨a, vs, rows, fun x r => Rep S H ι x (rowT r), rfl, .inl q, reps_each rs, fun x r hr => dp_row hr, fun xs' p ex hp => Pst.new h hs hp (Rep.newL hs hp (each_reps ex))⟩
      · split at h
        · rename_i ns ei
          have := intsT_of ei
          subst this
          have := reps_ints rs
          subst this
          exact .inr ⟨a, ns, rfl, .inl q, fun p hp => Pst.new h hs hp (Rep.newL hs hp (reps_of_ints _))⟩
        · exact h.elim
    · exact h.elim
  · exact h.elim
def bAll (ts : List T) : M T := fun μ => match ts with
  | [t] => match (lstOf t μ).bind blsT with
    | some bs => .ok (.bl (bs.all id)) μ
    | none => .bad
  | _ => .bad
def bAny (ts : List T) : M T := fun μ => match ts with
  | [t] => match (lstOf t μ).bind blsT with
    | some bs => .ok (.bl (bs.any id)) μ
    | none => .bad
  | _ => .bad
def bSum (ts : List T) : M T := fun μ => match ts with
  | [t] => match (lstOf t μ).bind intsT with
    | some bs => .ok (.int bs.sum) μ
    | none => .bad
  | _ => .bad
theorem callT_all : CallT S bAll (rAll S.K) := by
  intro W σ H ι μ xs ts Q hs r h
  unfold bAll at h
  split at h
  · obtain ⟨x, rfl, rx⟩ := reps1 r
    split at h
    · rename_i bs e
      obtain ⟨us, e1, e2⟩ := Option.bind_eq_some_iff.mp e
      obtain ⟨a, vs, rfl, q, rs⟩ := lst_read e1 hs rx
      have := blsT_of e2
      subst this
      have := reps_bls rs
      subst this
      exact ⟨a, bs, rfl, .inl q, Pst.now h hs (.bl _)⟩
    · exact h.elim
  · exact h.elim
theorem callT_any : CallT S bAny (rAny S.K) := by
  intro W σ H ι μ xs ts Q hs r h
  unfold bAny at h
  split at h
  · obtain ⟨x, rfl, rx⟩ := reps1 r
    split at h
    · rename_i bs e
      obtain ⟨us, e1, e2⟩ := Option.bind_eq_some_iff.mp e
      obtain ⟨a, vs, rfl, q, rs⟩ := lst_read e1 hs rx
      have := blsT_of e2
      subst this
      have := reps_bls rs
      subst this
      exact ⟨a, bs, rfl, .inl q, Pst.now h hs (.bl _)⟩
    · exact h.elim
  · exact h.elim
theorem callT_sum : CallT S bSum (rSum S.K) := by
  intro W σ H ι μ xs ts Q hs r h
  unfold bSum at h
  split at h
  · obtain ⟨x, rfl, rx⟩ := reps1 r
    split at h
    · rename_i bs e
      obtain ⟨us, e1, e2⟩ := Option.bind_eq_some_iff.mp e
      obtain ⟨a, vs, rfl, q, rs⟩ := lst_read e1 hs rx
      have := intsT_of e2
      subst this
      have := reps_ints rs
      subst this
      exact ⟨a, bs, rfl, .inl q, Pst.now h hs (.int _)⟩
    · exact h.elim
  · exact h.elim
end
end Tw

/-! TwU: max, min -/
namespace Tw
open PySem L2
section
variable {X : Cx}
theorem alike_intsAll (ns : List Int) : PySem.W.AlikeAll (ns.map PyData.int) := ⟨fun x hx y hy => by
  obtain ⟨a, _, rfl⟩ := List.mem_map.mp hx
  obtain ⟨b, _, rfl⟩ := List.mem_map.mp hy
  simp [PySem.W.alike], fun x hx => by
  obtain ⟨a, _, rfl⟩ := List.mem_map.mp hx
  simp⟩
theorem dpAll_ints {K : PySem.W.Frag} {H : Hp} : ∀ (ns : List Int), DpAll K H (ns.map V.int) (ns.map PyData.int)
  | [] => .nil
  | n :: ns => .cons (.int n) (dpAll_ints ns)
def rMM (K : PySem.W.Frag) (g : Int → List Int → Int) : List V → Hp → VK → Prop := fun vs H Q => ∃ (a : Addr) (n : Int) (ns : List Int), vs = [V.ref a] ∧ (SqT K H a ((n :: ns).map V.int) ∨ SqL K H a ((n :: ns).map V.int)) ∧ Q (.int (g n ns)) H
def rMMd (K : PySem.W.Frag) (g : Int → List Int → Int) : List V → List V → Hp → VK → Prop := fun vs zs H Q => ∃ (a : Addr) (ns : List Int) (d : V), vs = [V.ref a] ∧ zs = [d] ∧ (SqT K H a (ns.map V.int) ∨ SqL K H a (ns.map V.int)) ∧ Q (match ns with
  | [] => d
  | n :: r => .int (g n r)) H
def mxI (n : Int) (ns : List Int) : Int := ns.foldl max n
def mnI (n : Int) (ns : List Int) : Int := ns.foldl min n
theorem depth_ints' (ns : List Int) : PyData.depthAll (ns.map .int) = 0 := PySem.W.depth_ints ns
theorem cr_mx (hc : X.calm = true) (hu : X.A.units + 64 < cLine) : CallR X (.builtin "max") (rMM X.K mxI) := by
  intro pins s σ H vs us Q I r h
  obtain ⟨a, n, ns, rfl, hs, q⟩ := h
  rw [Vals.ref1 r]
  have hb : X.A.units + 1 + PyData.depthAll (PyData.int n :: ns.map .int) < cLine := by
    have := depth_ints' (n :: ns)
    rw [List.map_cons] at this
    rw [this]; omega
  have fin : ∀ (v : Value) (h' : Heap) (tk : Nat) (bs : List Addr), Reads h' v (PySem.W.maxD (.int n) (ns.map .int)) bs → (∀ b o, s.heap.get? b = some o → h'.get? b = some o) → EP X pins σ Q v { s with heap := h', toks := tk } := fun v h' tk bs rd hk => by
    rw [PySem.W.maxD_ints] at rd
    cases rd with
    | int _ t => exact ⟨.int _, H, I.kept hk, ⟨t, rfl⟩, q⟩
  rcases hs with hs | hs
  · obtain ⟨its, rv, hl, hz⟩ := I.tuple hs
    obtain ⟨as, hr⟩ := Dp.readsAll I _ _ its (dpAll_ints (n :: ns)) rv
    exact PySem.W.max_tuple_data (x := .int n) (xs := ns.map .int) (I.ok.hd hc) hl (by simpa using hr) (alike_intsAll (n :: ns)) hb fun i v h' tk bs _ rd hk => fin v h' tk bs rd hk
  · obtain ⟨its, rv, hl, hz⟩ := I.list hs
    obtain ⟨as, hr⟩ := Dp.readsAll I _ _ its (dpAll_ints (n :: ns)) rv
    exact PySem.W.max_list_data (x := .int n) (xs := ns.map .int) (I.ok.hd hc) hl.isList (by simpa using hr) (alike_intsAll (n :: ns)) hb fun i v h' tk bs _ rd hk => fin v h' tk bs rd hk
theorem cr_mxd (hc : X.calm = true) (hu : X.A.units + 64 < cLine) : CallRK X (.builtin "max") ["default"] (rMMd X.K mxI) := by
  intro pins s σ H vs zs us ws Q I r rz h
  obtain ⟨a, ns, d, rfl, rfl, hs, q⟩ := h
  rw [Vals.ref1 r]
  obtain ⟨w, rfl, rw'⟩ := rz.one
  have hb : X.A.units + 1 + PyData.depthAll (ns.map .int) < cLine := by rw [depth_ints']; omega
  have e0 : ns.map PyData.int = [] → ∀ (h' : Heap) (tk : Nat), (∀ b o, s.heap.get? b = some o → h'.get? b = some o) → EP X pins σ Q w { s with heap := h', toks := tk } := fun e h' tk hk => by
    have e' : ns = [] := by simpa using e
    subst e'
    exact ⟨d, H, I.kept hk, rw', q⟩
  have fin : ∀ (y : PyData) (ys : List PyData) (i : Nat) (v : Value) (h' : Heap) (tk : Nat) (bs : List Addr), ns.map PyData.int = y :: ys → Reads h' v (PySem.W.maxD y ys) bs → (∀ b o, s.heap.get? b = some o → h'.get? b = some o) → EP X pins σ Q v { s with heap := h', toks := tk } := fun y ys i v h' tk bs e rd hk => by
    cases ns with
    | nil => cases e
    | cons n r =>
      cases e
      rw [PySem.W.maxD_ints] at rd
      cases rd with
      | int _ t => exact ⟨.int _, H, I.kept hk, ⟨t, rfl⟩, q⟩
  rcases hs with hs | hs
  · obtain ⟨its, rv, hl, hz⟩ := I.tuple hs
    obtain ⟨as, hr⟩ := Dp.readsAll I _ _ its (dpAll_ints ns) rv
    exact PySem.W.max_tuple_default (I.ok.hd hc) hl (by simpa using hr) (alike_intsAll ns) hb e0 fun y ys i v h' tk bs e _ rd hk => fin y ys i v h' tk bs e rd hk
  · obtain ⟨its, rv, hl, hz⟩ := I.list hs
    obtain ⟨as, hr⟩ := Dp.readsAll I _ _ its (dpAll_ints ns) rv
    exact PySem.W.max_list_default (I.ok.hd hc) hl.isList (by simpa using hr) (alike_intsAll ns) hb e0 fun y ys i v h' tk bs e _ rd hk => fin y ys i v h' tk bs e rd hk
theorem cr_mn (hc : X.calm = true) (hu : X.A.units + 64 < cLine) : CallR X (.builtin "min") (rMM X.K mnI) := by
  intro pins s σ H vs us Q I r h
  obtain ⟨a, n, ns, rfl, hs, q⟩ := h
  rw [Vals.ref1 r]
  have hb : X.A.units + 1 + PyData.depthAll (PyData.int n :: ns.map .int) < cLine := by
    have := depth_ints' (n :: ns)
    rw [List.map_cons] at this
    rw [this]; omega
  have fin : ∀ (v : Value) (h' : Heap) (tk : Nat) (bs : List Addr), Reads h' v (PySem.W.minD (.int n) (ns.map .int)) bs → (∀ b o, s.heap.get? b = some o → h'.get? b = some o) → EP X pins σ Q v { s with heap := h', toks := tk } := fun v h' tk bs rd hk => by
    rw [PySem.W.minD_ints] at rd
    cases rd with
    | int _ t => exact ⟨.int _, H, I.kept hk, ⟨t, rfl⟩, q⟩
  rcases hs with hs | hs
  · obtain ⟨its, rv, hl, hz⟩ := I.tuple hs
    obtain ⟨as, hr⟩ := Dp.readsAll I _ _ its (dpAll_ints (n :: ns)) rv
    exact PySem.W.min_tuple_data (x := .int n) (xs := ns.map .int) (I.ok.hd hc) hl (by simpa using hr) (alike_intsAll (n :: ns)) hb fun i v h' tk bs _ rd hk => fin v h' tk bs rd hk
  · obtain ⟨its, rv, hl, hz⟩ := I.list hs
    obtain ⟨as, hr⟩ := Dp.readsAll I _ _ its (dpAll_ints (n :: ns)) rv
    exact PySem.W.min_list_data (x := .int n) (xs := ns.map .int) (I.ok.hd hc) hl.isList (by simpa using hr) (alike_intsAll (n :: ns)) hb fun i v h' tk bs _ rd hk => fin v h' tk bs rd hk
theorem cr_mnd (hc : X.calm = true) (hu : X.A.units + 64 < cLine) : CallRK X (.builtin "min") ["default"] (rMMd X.K mnI) := by
  intro pins s σ H vs zs us ws Q I r rz h
  obtain ⟨a, ns, d, rfl, rfl, hs, q⟩ := h
  rw [Vals.ref1 r]
  obtain ⟨w, rfl, rw'⟩ := rz.one
  have hb : X.A.units + 1 + PyData.depthAll (ns.map .int) < cLine := by rw [depth_ints']; omega
  have e0 : ns.map PyData.int = [] → ∀ (h' : Heap) (tk : Nat), (∀ b o, s.heap.get? b = some o → h'.get? b = some o) → EP X pins σ Q w { s with heap := h', toks := tk } := fun e h' tk hk => by
    have e' : ns = [] := by simpa using e
    subst e'
    exact ⟨d, H, I.kept hk, rw', q⟩
  have fin : ∀ (y : PyData) (ys : List PyData) (i : Nat) (v : Value) (h' : Heap) (tk : Nat) (bs : List Addr), ns.map PyData.int = y :: ys → Reads h' v (PySem.W.minD y ys) bs → (∀ b o, s.heap.get? b = some o → h'.get? b = some o) → EP X pins σ Q v { s with heap := h', toks := tk } := fun y ys i v h' tk bs e rd hk => by
    cases ns with
    | nil => cases e
    | cons n r =>
      cases e
      rw [PySem.W.minD_ints] at rd
      cases rd with
      | int _ t => exact ⟨.int _, H, I.kept hk, ⟨t, rfl⟩, q⟩
  rcases hs with hs | hs
  · obtain ⟨its, rv, hl, hz⟩ := I.tuple hs
    obtain ⟨as, hr⟩ := Dp.readsAll I _ _ its (dpAll_ints ns) rv
    exact PySem.W.min_tuple_default (I.ok.hd hc) hl (by simpa using hr) (alike_intsAll ns) hb e0 fun y ys i v h' tk bs e _ rd hk => fin y ys i v h' tk bs e rd hk
  · obtain ⟨its, rv, hl, hz⟩ := I.list hs
    obtain ⟨as, hr⟩ := Dp.readsAll I _ _ its (dpAll_ints ns) rv
    exact PySem.W.min_list_default (I.ok.hd hc) hl.isList (by simpa using hr) (alike_intsAll ns) hb e0 fun y ys i v h' tk bs e _ rd hk => fin y ys i v h' tk bs e rd hk
end
section
variable {S : Sta} {X : Cx} {W : WX}
/-- max, min of two ints, of a row of ints -/
def bMM (p : Int → Int → Int) (g : Int → List Int → Int) (ts : List T) : M T := fun μ => match ts with
  | [.int i, .int j] => .ok (.int (p i j)) μ
  | [t] => match (seqOf t μ).bind intsT with
    | some (n :: ns) => .ok (.int (g n ns)) μ
    | _ => .bad
  | _ => .bad
def mx2 (i j : Int) : Int := if j > i then j else i
def mn2 (i j : Int) : Int := if j < i then j else i
def bMax : List T → M T := bMM mx2 mxI
def bMin : List T → M T := bMM mn2 mnI
def rMM2 (p : Int → Int → Int) : List V → Hp → VK → Prop := fun xs H Q => ∃ i j, xs = [.int i, .int j] ∧ Q (.int (p i j)) H
theorem callT_mm (p : Int → Int → Int) (g : Int → List Int → Int) : CallT S (bMM p g) (fun xs H Q => rMM2 p xs H Q ∨ rMM S.K g xs H Q) := by
  intro W σ H ι μ xs ts Q hs r h
  unfold bMM at h
  split at h
  · obtain ⟨x, y, rfl, rx, ry⟩ := reps2 r
    cases rx; cases ry
    exact .inl ⟨_, _, rfl, Pst.now h hs (.int _)⟩
  · obtain ⟨x, rfl, rx⟩ := reps1 r
    split at h
    · rename_i n ns e
      obtain ⟨us, e1, e2⟩ := Option.bind_eq_some_iff.mp e
      obtain ⟨a, vs, rfl, q, rs⟩ := seq_read e1 hs rx
      have := intsT_of e2
      subst this
      have := reps_ints rs
      subst this
      exact .inr ⟨a, n, ns, rfl, q, Pst.now h hs (.int _)⟩
    · exact h.elim
  · exact h.elim
/-- max(xs, default=d) -/
def kMM (g : Int → List Int → Int) (ts : List T) (d : T) : M T := fun μ => match ts with
  | [t] => match (seqOf t μ).bind intsT with
    | some [] => .ok d μ
    | some (n :: ns) => .ok (.int (g n ns)) μ
    | none => .bad
  | _ => .bad
def cKw (g : List T → T → M T) (a : Env → M (List T)) (d : Env → M T) : Env → M T := fun ρ => bnd (a ρ) fun ts => bnd (d ρ) fun u => g ts u
def tKw1 (K : PySem.W.Frag) (g : Int → List Int → Int) : List V → List V → Hp → VK → Prop := rMMd K g
theorem pv_mmd {id : String} {x : Str} {e d : Expr} {fa : Env → M (List T)} {fd : Env → M T} {g : Int → List Int → Int} {p pos kpos : Pos} (hK : X.K = S.K) (hc : CallRK X (.builtin id) ["default"] (rMMd X.K g)) (hg : Gl X x) (hm : X.mg x = none) (hv : bootBuiltins x = some (.builtin id))
    (ha : PVa X S W [e] fa) (hd : PV X S W d fd) (hn : x ≠ "__name__") (hdb : (x == ("__debug__" : Str)) = false) (hst : starEach [e] X.env = [(false, eval e X.env)]) :
    PV X S W (.Call (.Name x p) [e] [⟨some "default", d, kpos⟩] pos) (cKw (kMM g) fa fd) :=
  PE.weak (pe_callBK hc hg hm hv ha (pk_cons hd pk_nil) hn hdb (by rw [hst]; rfl) (by rw [hst]; rfl) rfl rfl rfl) fun σ H Q ⟨ρ, ι, μ, he, hs, h⟩ => av_then he hs h fun vs H1 ι1 μ1 ts he1 hs1 f1 r1 h1 => ev_then he1 hs1 h1 fun y H2 ι2 μ2 u he2 hs2 f2 r2 h2 => by
    have r1' := r1.fut f2
    unfold kMM at h2
    show rMMd X.K g vs [y] H2 Q
    rw [hK]
    split at h2
    · obtain ⟨x, rfl, rx⟩ := reps1 r1'
      split at h2
      · rename_i e
        obtain ⟨us, e1, e2⟩ := Option.bind_eq_some_iff.mp e
        obtain ⟨a, vs, rfl, q, rs⟩ := seq_read e1 hs2 rx
        have := intsT_of e2
        subst this
        have := reps_ints rs
        subst this
        exact ⟨a, [], y, rfl, rfl, q, Pst.now h2 hs2 r2⟩
      · rename_i n ns e
        obtain ⟨us, e1, e2⟩ := Option.bind_eq_some_iff.mp e
        obtain ⟨a, vs, rfl, q, rs⟩ := seq_read e1 hs2 rx
        have := intsT_of e2
        subst this
        have := reps_ints rs
        subst this
        exact ⟨a, n :: ns, y, rfl, rfl, q, Pst.now h2 hs2 (.int _)⟩
      · exact h2.elim
    · exact h2.elim
end
end Tw

/-! Tw6: statements, loops, comprehensions -/
namespace Tw
open PySem L2

inductive Out where
  | nx (ρ : Env) | bk (ρ : Env) | ct (ρ : Env) | rt (t : T) | xx (ρ : Env) (e : Exc)
section
variable (S : Sta) (W : WX)
def PstS (D : Ends) (H : Hp) (ι : Ids) (r : Res Out) : Prop := match r with
  | .ok (.nx ρ) μ => ∀ σ' H' ι', Fut H ι H' ι' → StRep S H' ι' μ → RepE S H' ι' σ' ρ → D.nx σ' H'
  | .ok (.bk ρ) μ => ∀ σ' H' ι', Fut H ι H' ι' → StRep S H' ι' μ → RepE S H' ι' σ' ρ → D.bk σ' H'
  | .ok (.ct ρ) μ => ∀ σ' H' ι', Fut H ι H' ι' → StRep S H' ι' μ → RepE S H' ι' σ' ρ → D.ct σ' H'
  | .ok (.rt t) μ => ∀ v H' ι', Fut H ι H' ι' → StRep S H' ι' μ → Rep S H' ι' v t → D.rt v H'
  | .ok (.xx ρ e) μ => ∀ σ' cls d H' ι', Fut H ι H' ι' → StRep S H' ι' μ → RepE S H' ι' σ' ρ → RepX S H' ι' cls d e → W cls d σ' H'
  | _ => False
end
/-- a value first; an exception leaves at these slots -/
def bndS {α : Type} (m : M α) (ρ : Env) (k : α → M Out) : M Out := fun μ => match m μ with
  | .ok a μ' => k a μ'
  | .ex e μ' => .ok (.xx ρ e) μ'
  | .bad => .bad
section
variable {S : Sta} {W : WX} {H H1 : Hp} {ι ι1 : Ids} {D : Ends}
theorem PstS.later {r : Res Out} (f : Fut H ι H1 ι1) (h : PstS S W D H ι r) : PstS S W D H1 ι1 r := by
  cases r with
  | ok o μ =>
    cases o with
    | nx ρ => exact fun σ' H' ι' f' => h σ' H' ι' (f.trans f')
    | bk ρ => exact fun σ' H' ι' f' => h σ' H' ι' (f.trans f')
    | ct ρ => exact fun σ' H' ι' f' => h σ' H' ι' (f.trans f')
    | rt t => exact fun σ' H' ι' f' => h σ' H' ι' (f.trans f')
    | xx ρ e => exact fun σ' c d H' ι' f' => h σ' c d H' ι' (f.trans f')
  | ex e μ => exact h
  | bad => exact h
theorem PstS.seq {α β : Type} {rel : Hp → Ids → β → α → Prop} {m : M α} {k : α → M Out} {ρ : Env} {σ : L2.St} {μ : Store} (he : RepE S H ι σ ρ) (h : PstS S W D H ι (bndS m ρ k μ)) :
    Pst S W σ H ι rel (m μ) (fun b H1 => ∃ ι1 μ1 a, Fut H ι H1 ι1 ∧ StRep S H1 ι1 μ1 ∧ rel H1 ι1 b a ∧ PstS S W D H1 ι1 (k a μ1)) := by
  unfold bndS at h
  cases e : m μ with
  | ok a μ1 =>
    rw [e] at h
    exact fun b H1 ι1 f s r => ⟨ι1, μ1, a, f, s, r, h.later f⟩
  | ex x μ1 =>
    rw [e] at h
    exact fun cls d H' ι' f s r => h σ cls d H' ι' f s (he.fut f) r
  | bad =>
    rw [e] at h
    exact h
end
/-- a statement -/
def tSv (S : Sta) (W : WX) (f : Env → M Out) : TS := fun D σ H => ∃ ρ ι μ, RepE S H ι σ ρ ∧ StRep S H ι μ ∧ PstS S W D H ι (f ρ μ)

section
variable {X : Cx} {S : Sta} {W : WX} {e c : Expr} {fe : Env → M T} {ft : Env → M Bool} {pos : Pos} {st : Stmt} {rest : List Stmt} {g k : Env → M Out}
abbrev PVs (X : Cx) (S : Sta) (W : WX) (st : Stmt) (f : Env → M Out) : Prop := PS X st (tSv S W f)
abbrev PVss (X : Cx) (S : Sta) (W : WX) (sts : List Stmt) (f : Env → M Out) : Prop := PSs X sts (tSv S W f)
theorem es_then {D : Ends} {k : T → M Out} {ρ : Env} {σ : L2.St} {H : Hp} {ι : Ids} {μ : Store} (he : RepE S H ι σ ρ) (hs : StRep S H ι μ) (h : PstS S W D H ι (bndS (fe ρ) ρ k μ))
    {R : VK} (next : ∀ x H1 ι1 μ1 t, RepE S H1 ι1 σ ρ → StRep S H1 ι1 μ1 → Fut H ι H1 ι1 → Rep S H1 ι1 x t → PstS S W D H1 ι1 (k t μ1) → R x H1) : tEv S W fe σ H R :=
  ⟨ρ, ι, μ, he, hs, (PstS.seq (rel := Rep S) he h).mono fun x H1 ⟨ι1, μ1, t, f, s, r, q⟩ => next x H1 ι1 μ1 t (he.fut f) s f r q⟩
theorem ts_then {D : Ends} {k : Bool → M Out} {ρ : Env} {σ : L2.St} {H : Hp} {ι : Ids} {μ : Store} (he : RepE S H ι σ ρ) (hs : StRep S H ι μ) (h : PstS S W D H ι (bndS (ft ρ) ρ k μ))
    {R : Bool → Hp → Prop} (next : ∀ x H1 ι1 μ1, RepE S H1 ι1 σ ρ → StRep S H1 ι1 μ1 → Fut H ι H1 ι1 → PstS S W D H1 ι1 (k x μ1) → R x H1) : tTv S W ft σ H R :=
  ⟨ρ, ι, μ, he, hs, (PstS.seq (rel := fun _ _ b a => b = a) he h).mono fun x H1 ⟨ι1, μ1, t, f, s, r, q⟩ => by subst r; exact next x H1 ι1 μ1 (he.fut f) s f q⟩

/-! ### blocks -/
def sNil : Env → M Out := fun ρ => ret (.nx ρ)
def sSeq (a b : Env → M Out) : Env → M Out := fun ρ => bnd (a ρ) fun o => match o with
  | .nx ρ' => b ρ'
  | o => ret o
theorem pss_of_nil : PVss X S W [] sNil := PSs.weak pss_nil fun D σ H ⟨ρ, ι, μ, he, hs, h⟩ => h σ H ι (Fut.refl H ι) hs he
theorem pss_of_cons (h1 : PVs X S W st g) (h2 : PVss X S W rest k) : PVss X S W (st :: rest) (sSeq g k) :=
  PSs.weak (pss_cons h1 h2) fun D σ H ⟨ρ, ι, μ, he, hs, h⟩ => by
    refine ⟨ρ, ι, μ, he, hs, ?_⟩
    have h' : PstS S W D H ι (bnd (g ρ) (fun o => match o with | .nx ρ' => k ρ' | o => ret o) μ) := h
    unfold bnd at h'
    cases e : g ρ μ with
    | ok o μ1 =>
      rw [e] at h'
      cases o with
      | nx ρ1 => exact fun σ' H' ι' f s r => ⟨ρ1, ι', μ1, r, s, h'.later f⟩
      | bk ρ1 => exact h'
      | ct ρ1 => exact h'
      | rt t => exact h'
      | xx ρ1 x => exact h'
    | ex x μ1 => rw [e] at h'; exact h'.elim
    | bad => rw [e] at h'; exact h'.elim
def sPass : Env → M Out := fun ρ => ret (.nx ρ)
def sBreak : Env → M Out := fun ρ => ret (.bk ρ)
def sCont : Env → M Out := fun ρ => ret (.ct ρ)
def sBad : Env → M Out := fun _ => bad
theorem ps_of_pass : PVs X S W (.Pass pos) sPass := PS.weak ps_pass fun D σ H ⟨ρ, ι, μ, he, hs, h⟩ => h σ H ι (Fut.refl H ι) hs he
theorem ps_of_break : PVs X S W (.Break pos) sBreak := PS.weak ps_break fun D σ H ⟨ρ, ι, μ, he, hs, h⟩ => h σ H ι (Fut.refl H ι) hs he
theorem ps_of_cont : PVs X S W (.Continue pos) sCont := PS.weak ps_continue fun D σ H ⟨ρ, ι, μ, he, hs, h⟩ => h σ H ι (Fut.refl H ι) hs he
theorem ps_of_bad : PVs X S W st sBad := PS.weak ps_never fun D σ H ⟨ρ, ι, μ, he, hs, h⟩ => h
def sExpr (a : Env → M T) : Env → M Out := fun ρ => bndS (a ρ) ρ fun _ => ret (.nx ρ)
theorem ps_of_expr (he : PV X S W e fe) (hw : swapsWith e none pos.line X.env = pure false) : PVs X S W (.Expr e pos) (sExpr fe) :=
  PS.weak (ps_expr he hw) fun D σ H ⟨ρ, ι, μ, he, hs, h⟩ => es_then he hs h fun x H1 ι1 μ1 t he1 hs1 f1 r1 h1 => h1 σ H1 ι1 (Fut.refl _ _) hs1 he1
def sRet (a : Env → M T) : Env → M Out := fun ρ => bndS (a ρ) ρ fun t => ret (.rt t)
theorem ps_of_ret (he : PV X S W e fe) : PVs X S W (.Return (some e) pos) (sRet fe) :=
  PS.weak (ps_ret he) fun D σ H ⟨ρ, ι, μ, he, hs, h⟩ => es_then he hs h fun x H1 ι1 μ1 t he1 hs1 f1 r1 h1 => h1 x H1 ι1 (Fut.refl _ _) hs1 r1
def sRetN : Env → M Out := fun _ => ret (.rt .non)
theorem ps_of_retN : PVs X S W (.Return none pos) sRetN := PS.weak ps_retN fun D σ H ⟨ρ, ι, μ, he, hs, h⟩ => h .non H ι (Fut.refl H ι) hs .non
def sIf (c : Env → M Bool) (a b : Env → M Out) : Env → M Out := fun ρ => bndS (c ρ) ρ fun x => if x then a ρ else b ρ
theorem ps_of_if {a b : List Stmt} (hc : PVt X S W c ft) (ha : PVss X S W a g) (hb : PVss X S W b k) : PVs X S W (.If c a b pos) (sIf ft g k) :=
  PS.weak (ps_if hc ha hb) fun D σ H ⟨ρ, ι, μ, he, hs, h⟩ => ts_then he hs h fun x H1 ι1 μ1 he1 hs1 f1 h1 => by
    cases x with
    | true => exact iteT ⟨ρ, ι1, μ1, he1, hs1, h1⟩
    | false => exact iteF ⟨ρ, ι1, μ1, he1, hs1, h1⟩

/-! ### targets -/
/-- v is bound: the slots is alone are stored -/
def tGv (S : Sta) (is : List Nat) (f : T → Env → Option Env) : TG := fun v σ H Q => ∃ ρ ι μ t ρ', RepE S H ι σ ρ ∧ StRep S H ι μ ∧ Rep S H ι v t ∧ f t ρ = some ρ' ∧ ∀ σ', RepE S H ι σ' ρ' → (∀ j, j ∉ is → σ'[j]? = σ[j]?) → σ'.length = σ.length → Q σ' H
def tGvs (S : Sta) (is : List Nat) (f : List T → Env → Option Env) : TGs := fun vs σ H Q => ∃ ρ ι μ ts ρ', RepE S H ι σ ρ ∧ StRep S H ι μ ∧ Reps S H ι vs ts ∧ f ts ρ = some ρ' ∧ ∀ σ', RepE S H ι σ' ρ' → (∀ j, j ∉ is → σ'[j]? = σ[j]?) → σ'.length = σ.length → Q σ' H
theorem PG.weak {tg : Expr} {t t' : TG} (h : PG X tg t) (w : ∀ v σ H Q, t' v σ H Q → t v σ H Q) : PG X tg t' := ⟨fun pins s σ H v u Q I r q => h.run pins s σ H v u Q I r (w v σ H Q q)⟩
theorem PGs.weak {tg : List Expr} {t t' : TGs} (h : PGs X tg t) (w : ∀ v σ H Q, t' v σ H Q → t v σ H Q) : PGs X tg t' := ⟨fun pins s σ H v u Q I r q => h.run pins s σ H v u Q I r (w v σ H Q q)⟩
def gN (i : Nat) : T → Env → Option Env := fun t ρ => some (ρ.set i (some t))
def gsNil : List T → Env → Option Env := fun ts ρ => match ts with
  | [] => some ρ
  | _ => none
def gsCons (a : T → Env → Option Env) (r : List T → Env → Option Env) : List T → Env → Option Env := fun ts ρ => match ts with
  | t :: ts => (a t ρ).bind (r ts)
  | _ => none
def gTp (r : List T → Env → Option Env) : T → Env → Option Env := fun t ρ => match t with
  | .tup ts => r ts ρ
  | _ => none
theorem pg_of_name {i : Nat} {x : Str} (hN : X.N.Nodup) (hi : X.N[i]? = some x) (hx : Loc X.env.scope x) (hf : X.fn x = true ∨ X.env.scope.names.lookup x = some .local) : PG X (.Name x pos) (tGv S [i] (gN i)) :=
  PG.weak (pg_name hN hi hx hf) fun v σ H Q ⟨ρ, ι, μ, t, ρ', he, hs, r, ef, h⟩ => by
    cases ef
    exact h _ (he.set r) (fun j hj => List.getElem?_set_ne fun z => hj (by simp [z])) (List.length_set ..)
theorem pgs_of_nil : PGs X [] (tGvs S [] gsNil) := PGs.weak pgs_nil fun v σ H Q ⟨ρ, ι, μ, ts, ρ', he, hs, r, ef, h⟩ => by
  cases r with
  | nil => cases ef; exact ⟨rfl, h σ he (fun _ _ => rfl) rfl⟩
  | cons _ _ => cases ef
theorem pgs_of_cons {es : List Expr} {is js : List Nat} {f : T → Env → Option Env} {r : List T → Env → Option Env} (h1 : PG X e (tGv S is f)) (h2 : PGs X es (tGvs S js r))
    (hst : (assignEach (e :: es) X.env).map (·.2) = assign e X.env :: (assignEach es X.env).map (·.2)) : PGs X (e :: es) (tGvs S (is ++ js) (gsCons f r)) :=
  PGs.weak (pgs_cons h1 h2 hst) fun v σ H Q ⟨ρ, ι, μ, ts, ρ', he, hs, rr, ef, h⟩ => by
    cases rr with
    | nil => cases ef
    | @cons v vs t ts rv rvs =>
      obtain ⟨ρ1, e1, e2⟩ := Option.bind_eq_some_iff.mp ef
      refine ⟨v, vs, rfl, ρ, ι, μ, t, ρ1, he, hs, rv, e1, fun σ1 he1 k1 l1 => ⟨ρ1, ι, μ, ts, ρ', he1, hs, rvs, e2, fun σ2 he2 k2 l2 => h σ2 he2 (fun j hj => ?_) (l2.trans l1)⟩⟩
      have hj' : j ∉ is ∧ j ∉ js := by simpa using hj
      exact (k2 j hj'.2).trans (k1 j hj'.1)
theorem pg_of_tup {es : List Expr} {k n : Nat} {is : List Nat} {r : List T → Env → Option Env} (hK : X.K = S.K) (hc : X.calm = true) (h : PGs X es (tGvs S is r)) (hl : ∀ ts ρ ρ', r ts ρ = some ρ' → ts.length = n)
    (hn : (assignEach es X.env).length = n) (hst : (assignEach es X.env).findIdx? (·.1) = none) : PG X (.Tuple es k pos) (tGv S is (gTp r)) :=
  PG.weak (pg_tup hc h hn hst) fun v σ H Q ⟨ρ, ι, μ, t, ρ', he, hs, rr, ef, h⟩ => by
    cases t with
    | tup ts =>
      cases rr with
      | tup hx q => exact ⟨_, _, rfl, by rw [hK]; exact hx.sq, by rw [q.length]; exact hl ts ρ ρ' ef, ρ, ι, μ, ts, ρ', he, hs, q, ef, h⟩
    | _ => cases ef
/-- target = value -/
def sAsg (a : Env → M T) (f : T → Env → Option Env) : Env → M Out := fun ρ => bndS (a ρ) ρ fun t => match f t ρ with
  | some ρ' => ret (.nx ρ')
  | none => bad
theorem asg_then {is : List Nat} {f : T → Env → Option Env} {D : Ends} {σ : L2.St} {H : Hp} (h : tSv S W (sAsg fe f) D σ H) : tAsg (tEv S W fe) (tGv S is f) D σ H := by
  obtain ⟨ρ, ι, μ, he, hs, h⟩ := h
  refine es_then he hs h fun x H1 ι1 μ1 t he1 hs1 f1 r1 h1 => ?_
  cases e : f t ρ with
  | none => rw [e] at h1; exact h1.elim
  | some ρ' =>
    rw [e] at h1
    exact ⟨ρ, ι1, μ1, t, ρ', he1, hs1, r1, e, fun σ' he' _ _ => h1 σ' H1 ι1 (Fut.refl _ _) hs1 he'⟩
theorem ps_of_asg {tg : Expr} {is : List Nat} {f : T → Env → Option Env} (he : PV X S W e fe) (hg : PG X tg (tGv S is f)) (hs : swapsWithSole [tg] e pos.line X.env = pure false) (hw : swappedStores [tg] e X.env = pure none)
    (h1 : (assignEach [tg] X.env).map (·.2) = [assign tg X.env]) : PVs X S W (.Assign [tg] e pos) (sAsg fe f) :=
  PS.weak (ps_asg he hg hs hw h1) fun D σ H h => asg_then h
def sSet (i : Nat) (a : Env → M T) : Env → M Out := fun ρ => bndS (a ρ) ρ fun t => ret (.nx (ρ.set i (some t)))
theorem set_then {i : Nat} {D : Ends} {σ : L2.St} {H : Hp} (h : tSv S W (sSet i fe) D σ H) : tAsg (tEv S W fe) (gName i) D σ H := by
  obtain ⟨ρ, ι, μ, he, hs, h⟩ := h
  exact es_then he hs h fun x H1 ι1 μ1 t he1 hs1 f1 r1 h1 => h1 _ H1 ι1 (Fut.refl _ _) hs1 (he1.set r1)
theorem ps_of_set {i : Nat} {x : Str} {pos' : Pos} (hN : X.N.Nodup) (hi : X.N[i]? = some x) (hx : Loc X.env.scope x) (he : PV X S W e fe) (hs : swapsWith e (some (.Name x pos')) pos.line X.env = pure false) (hf : X.fn x = true ∨ X.env.scope.names.lookup x = some .local) :
    PVs X S W (.Assign [.Name x pos'] e pos) (sSet i fe) := PS.weak (ps_set hN hi hx he hs hf) fun D σ H h => set_then h
/-- a, b = x, y -/
def sPar (i j : Nat) (a b : Env → M T) : Env → M Out := fun ρ => bndS (aCons a (aCons b aNil) ρ) ρ fun ts => match ts with
  | [t, u] => ret (.nx ((ρ.set i (some t)).set j (some u)))
  | _ => bad
theorem ps_of_par {i j : Nat} {x y : Str} {a b : Expr} {fa fb : Env → M T} {px py pt : Pos} {kt k2 : Nat} {pt2 : Pos} (hc : X.calm = true) (hN : X.N.Nodup) (hi : X.N[i]? = some x) (hj : X.N[j]? = some y) (hij : i ≠ j)
    (hx : X.env.scope.names.lookup x = some .local) (hy : X.env.scope.names.lookup y = some .local) (ha : PVa X S W [a, b] (aCons fa (aCons fb aNil)))
    (hw : swappedStores [.Tuple [.Name x px, .Name y py] kt pt] (.Tuple [a, b] k2 pt2) X.env = pure (some [x, y]))
    (hs : swapsWithSole [.Tuple [.Name x px, .Name y py] kt pt] (.Tuple [a, b] k2 pt2) pos.line X.env = pure false) :
    PVs X S W (.Assign [.Tuple [.Name x px, .Name y py] kt pt] (.Tuple [a, b] k2 pt2) pos) (sPar i j fa fb) :=
  PS.weak (ps_par hc hN hi hj hij hx hy ha hw hs) fun D σ H ⟨ρ, ι, μ, he, hs, h⟩ =>
    ⟨ρ, ι, μ, he, hs, (PstS.seq (rel := Reps S) he h).mono fun vs H1 ⟨ι1, μ1, ts, f, s, r, q⟩ => by
      split at q
      · obtain ⟨v, w, rfl, rv, rw'⟩ := reps2 r
        exact ⟨v, w, rfl, q _ H1 ι1 (Fut.refl _ _) s (((he.fut f).set rv).set rw')⟩
      · exact q.elim⟩

/-! ### walks -/
/-- the walk gives these, one after another, whatever is made and changed meanwhile -/
def Wlk (S : Sta) (J : It) (ts : List T) (H : Hp) (ι : Ids) : Prop := ∀ Hc ιc μc, Fu0 H ι Hc ιc → StRep S Hc ιc μc →
  (∀ (i : Nat) t, ts[i]? = some t → J.go i Hc ∧ ∀ x H2, J.yld i Hc x H2 → (∀ b o, Hc b = some o → H2 b = some o) ∧ Rep S H2 ιc x t) ∧ J.stop ts.length Hc
theorem Wlk.later {J : It} {ts : List T} {H H1 : Hp} {ι ι1 : Ids} (w : Wlk S J ts H ι) (f : Fut H ι H1 ι1) : Wlk S J ts H1 ι1 := fun Hc ιc μc g s => w Hc ιc μc (f.toFu0.trans g) s
def tIv (S : Sta) (W : WX) (f : Env → M (List T)) : TI := fun σ H R => ∃ ρ ι μ, RepE S H ι σ ρ ∧ StRep S H ι μ ∧ Pst S W σ H ι (fun H' ι' J ts => Wlk S J ts H' ι') (f ρ μ) R
abbrev PVi (X : Cx) (S : Sta) (W : WX) (tg iter : Expr) (f : Env → M (List T)) : Prop := PI X tg iter (tIv S W f)
theorem PI.weak {tg iter : Expr} {t t' : TI} (h : PI X tg iter t) (w : ∀ σ H R, t' σ H R → t σ H R) : PI X tg iter t' := ⟨fun pins s σ H R I q => h.run pins s σ H R I (w σ H R q)⟩
/-- the items of a tuple, of a list that no one changes -/
def mIt (t : T) : M (List T) := match t with
  | .tup ts => ret ts
  | .lst ts => ret ts
  | _ => bad
def iSeq (a : Env → M T) : Env → M (List T) := fun ρ => bnd (a ρ) mIt
theorem wlk_tup {K : PySem.W.Frag} {a : Addr} {vs : List V} {ts : List T} {H : Hp} {ι : Ids} (hK : K = S.K) (hx : RT S.K H ι a vs) (q : Reps S H ι vs ts) (uniq : ∀ H xs ys, SqT K H a xs → SqT K H a ys → True := by intros; trivial) :
    Wlk S (Itt K a) ts H ι := fun Hc ιc μc f s => by
  subst hK
  have hc := (hx.fut f).sq
  refine ⟨fun i t e => ?_, vs, hc, Nat.le_of_eq q.length⟩
  obtain ⟨v, e1, r1⟩ := q.get e
  exact ⟨⟨vs, v, hc, e1⟩, fun x H2 ⟨h1, h2⟩ => by
    subst h1
    have := h2 vs hc
    rw [e1] at this
    cases this
    exact ⟨fun _ _ z => z, r1.fut0 f⟩⟩
theorem wlk_lst {K : PySem.W.Frag} {a : Addr} {vs : List V} {ts : List T} {H : Hp} {ι : Ids} (hK : K = S.K) (hx : RL S.K H ι a vs) (q : Reps S H ι vs ts) : Wlk S (Itl K a) ts H ι := fun Hc ιc μc f s => by
  subst hK
  have hc := (hx.fut f).sq
  refine ⟨fun i t e => ?_, vs, hc, Nat.le_of_eq q.length⟩
  obtain ⟨v, e1, r1⟩ := q.get e
  exact ⟨⟨vs, v, hc, e1⟩, fun x H2 ⟨h1, h2⟩ => by
    subst h1
    have := h2 vs hc
    rw [e1] at this
    cases this
    exact ⟨fun _ _ z => z, r1.fut0 f⟩⟩
/-- over a list or a tuple -/
def iSeqB (K : PySem.W.Frag) (tl : TE) : TI := fun σ H R => tl σ H fun x H1 => ∃ a, x = .ref a ∧ (((∃ xs, SqL K H1 a xs) ∧ R (Itl K a) H1) ∨ ((∃ xs, SqT K H1 a xs) ∧ R (Itt K a) H1))
theorem pi_seqB {tg l : Expr} {tl : TE} (hl : PE X l tl) : PI X tg l (iSeqB X.K tl) := by
  refine ⟨fun pins s σ H R I h => ?_⟩
  refine thn (hl.run pins s σ H _ I h) fun v s1 ⟨x, H1, I1, r1, q1⟩ => ?_
  obtain ⟨a, e, ⟨⟨xs, hq⟩, q⟩ | ⟨⟨xs, hq⟩, q⟩⟩ := q1
  · subst e
    cases r1
    obtain ⟨its, rv, p, hz⟩ := I1.list hq
    refine wpAny_pyIter_list p.isList ?_
    refine ⟨s1.heap.objs.size, [s1.heap.objs.size], _, _, H1, rfl, I1.kept (t' := s1.toks) fun b o e => Heap.get?_push_of_some _ e, turn_list a _, ⟨_, Heap.get?_push_size _ rfl, rfl, rfl⟩, fun b hb => ?_, q⟩
    have e : b = s1.heap.objs.size := by simpa using hb
    subst e
    exact I1.fpOk (Nat.le_refl _) (I1.hok.fresh (Nat.le_refl _))
  · subst e
    cases r1
    obtain ⟨its, rv, p, hz⟩ := I1.tuple hq
    refine wpAny_pyIter_tuple (show s1.heap.IsTuple a its.toArray from p) ?_
    refine ⟨s1.heap.objs.size, [s1.heap.objs.size], _, _, H1, rfl, I1.kept (t' := s1.toks) fun b o e => Heap.get?_push_of_some _ e, turn_tuple a _, ⟨_, Heap.get?_push_size _ rfl, rfl, rfl⟩, fun b hb => ?_, q⟩
    have e : b = s1.heap.objs.size := by simpa using hb
    subst e
    exact I1.fpOk (Nat.le_refl _) (I1.hok.fresh (Nat.le_refl _))
theorem pvi_seq {tg l : Expr} {fa : Env → M T} (hK : X.K = S.K) (hl : PV X S W l fa) : PVi X S W tg l (iSeq fa) :=
  PI.weak (pi_seqB hl) fun σ H R ⟨ρ, ι, μ, he, hs, h⟩ => ev_then he hs h fun x H1 ι1 μ1 t he1 hs1 f1 r1 h1 => by
    rw [hK]
    cases r1 with
    | tup hx q => exact ⟨_, rfl, .inr ⟨⟨_, hx.sq⟩, h1 _ H1 ι1 (Fut.refl _ _) hs1 (wlk_tup rfl hx q)⟩⟩
    | lst hx q => exact ⟨_, rfl, .inl ⟨⟨_, hx.sq⟩, h1 _ H1 ι1 (Fut.refl _ _) hs1 (wlk_lst rfl hx q)⟩⟩
    | _ => exact h1.elim
/-- range(n), range(a, b) -/
def rgT (i j : Int) : List T := (List.range (j - i).toNat).map fun k => T.int (i + (k : Nat))
theorem rgT_length (i j : Int) : (rgT i j).length = (j - i).toNat := by unfold rgT; rw [List.length_map, List.length_range]
theorem rgT_get {i j : Int} {k : Nat} {t : T} (h : (rgT i j)[k]? = some t) : k < (j - i).toNat ∧ t = .int (i + (k : Nat)) := by
  unfold rgT at h
  rw [List.getElem?_map] at h
  obtain ⟨a, h1, h2⟩ := Option.map_eq_some_iff.mp h
  obtain ⟨h3, h4⟩ := List.getElem?_eq_some_iff.mp h1
  rw [List.length_range] at h3
  rw [List.getElem_range] at h4
  subst h4
  exact ⟨h3, h2.symm⟩
@[irreducible] def inR (i : Int) : Bool := decide (-(2 ^ 62) ≤ i) && decide (i < 2 ^ 62)
theorem inR_iff {i : Int} (h : inR i = true) : -(2 ^ 62) ≤ i ∧ i < 2 ^ 62 := by
  unfold inR at h
  rw [Bool.and_eq_true, decide_eq_true_eq, decide_eq_true_eq] at h
  exact h
def mRg1 (ts : List T) : M (List T) := match ts with
  | [.int j] => if inR j then ret (rgT 0 j) else bad
  | _ => bad
def mRg2 (ts : List T) : M (List T) := match ts with
  | [.int i, .int j] => if inR i && inR j then ret (rgT i j) else bad
  | _ => bad
def iRg1 (a : Env → M (List T)) : Env → M (List T) := fun ρ => bnd (a ρ) mRg1
def iRg2 (a : Env → M (List T)) : Env → M (List T) := fun ρ => bnd (a ρ) mRg2
theorem wlk_range {i j : Int} {H : Hp} {ι : Ids} : Wlk S (Itr i (j - i).toNat) (rgT i j) H ι := fun Hc ιc μc f s => by
  refine ⟨fun k t e => ?_, Nat.le_of_eq (rgT_length i j).symm⟩
  obtain ⟨h1, rfl⟩ := rgT_get e
  exact ⟨h1, fun x H2 ⟨e1, e2⟩ => by
    subst e1; subst e2
    exact ⟨fun _ _ z => z, .int _⟩⟩
theorem pvi_range1 {tg a : Expr} {fa : Env → M (List T)} {p : Pos} (hg : Gl X "range") (hm : X.mg "range" = none) (ha : PVa X S W [a] fa) (hst : starEach [a] X.env = [(false, eval a X.env)]) : PVi X S W tg (.Call (.Name "range" p) [a] [] pos) (iRg1 fa) :=
  PI.weak (pi_range1 hg hm ha hst) fun σ H R ⟨ρ, ι, μ, he, hs, h⟩ => av_then he hs h fun vs H1 ι1 μ1 ts he1 hs1 f1 r1 h1 => by
    unfold mRg1 at h1
    split at h1
    · obtain ⟨x, rfl, rx⟩ := reps1 r1
      cases rx
      rename_i j
      split at h1
      · rename_i hj
        refine ⟨j, rfl, (inR_iff hj).1, (inR_iff hj).2, h1 _ H1 ι1 (Fut.refl _ _) hs1 ?_⟩
        have := wlk_range (S := S) (i := 0) (j := j) (H := H1) (ι := ι1)
        rw [Int.sub_zero] at this
        exact this
      · exact h1.elim
    · exact h1.elim
theorem pvi_range2 {tg a b : Expr} {fa : Env → M (List T)} {p : Pos} (hg : Gl X "range") (hm : X.mg "range" = none) (ha : PVa X S W [a, b] fa) (hst : starEach [a, b] X.env = [(false, eval a X.env), (false, eval b X.env)]) (hst2 : starEach [b] X.env = [(false, eval b X.env)]) :
    PVi X S W tg (.Call (.Name "range" p) [a, b] [] pos) (iRg2 fa) :=
  PI.weak (pi_range2 hg hm ha hst hst2) fun σ H R ⟨ρ, ι, μ, he, hs, h⟩ => av_then he hs h fun vs H1 ι1 μ1 ts he1 hs1 f1 r1 h1 => by
    unfold mRg2 at h1
    split at h1
    · obtain ⟨x, y, rfl, rx, ry⟩ := reps2 r1
      cases rx
      cases ry
      rename_i i j
      split at h1
      · rename_i hj
        rw [Bool.and_eq_true] at hj
        exact ⟨i, j, rfl, ⟨(inR_iff hj.1).1, (inR_iff hj.1).2, (inR_iff hj.2).1, (inR_iff hj.2).2⟩, h1 _ H1 ι1 (Fut.refl _ _) hs1 wlk_range⟩
      · exact h1.elim
    · exact h1.elim
/-- pairs -/
def prs (ts us : List T) : List T := (ts.zip us).map fun p => .tup [p.1, p.2]
theorem prs_get {ts us : List T} {k : Nat} {t : T} (h : (prs ts us)[k]? = some t) : ∃ a b, ts[k]? = some a ∧ us[k]? = some b ∧ t = .tup [a, b] := by
  unfold prs at h
  rw [List.getElem?_map] at h
  obtain ⟨⟨a, b⟩, h1, rfl⟩ := Option.map_eq_some_iff.mp h
  obtain ⟨h3, h4⟩ := List.getElem?_zip_eq_some.mp h1
  exact ⟨a, b, h3, h4, rfl⟩
def enT (ts : List T) : List T := prs ((List.range ts.length).map fun k => T.int (k : Nat)) ts
theorem enT_get {ts : List T} {k : Nat} {t : T} (h : (enT ts)[k]? = some t) : ∃ a, ts[k]? = some a ∧ t = .tup [.int (k : Nat), a] := by
  obtain ⟨a, b, h1, h2, rfl⟩ := prs_get h
  rw [List.getElem?_map] at h1
  obtain ⟨c, h3, rfl⟩ := Option.map_eq_some_iff.mp h1
  obtain ⟨h4, h5⟩ := List.getElem?_eq_some_iff.mp h3
  rw [List.getElem_range] at h5
  subst h5
  exact ⟨b, h2, rfl⟩
theorem enT_length (ts : List T) : (enT ts).length = ts.length := by
  unfold enT prs
  simp
theorem prs_length (ts us : List T) : (prs ts us).length = min ts.length us.length := by
  unfold prs
  simp
theorem rep_pair {H : Hp} {ι : Ids} {μ : Store} {p : Addr} {x y : V} {a b : T} (s : StRep S H ι μ) (hp : H p = none) (rx : Rep S H ι x a) (ry : Rep S H ι y b) : (∀ c o, H c = some o → upd H p (.tup [x, y]) c = some o) ∧ Rep S (upd H p (.tup [x, y])) ι (.ref p) (.tup [a, b]) :=
  ⟨fun c o e => by rw [upd_ne (ne_of_none e hp)]; exact e, Rep.newT s hp (.cons rx (.cons ry .nil))⟩
theorem wlk_enum {K : PySem.W.Frag} {a : Addr} {vs : List V} {ts : List T} {H : Hp} {ι : Ids} (hK : K = S.K) (hx : RL S.K H ι a vs) (q : Reps S H ι vs ts) : Wlk S (Ite K a) (enT ts) H ι := fun Hc ιc μc f s => by
  subst hK
  have hc := (hx.fut f).sq
  refine ⟨fun i t e => ?_, vs, hc, by rw [enT_length, q.length]; exact Nat.le_refl _⟩
  obtain ⟨b, e0, rfl⟩ := enT_get e
  obtain ⟨v, e1, r1⟩ := q.get e0
  exact ⟨⟨vs, v, hc, e1⟩, fun x H2 ⟨p, w, h1, hp, h2, h3⟩ => by
    subst h1; subst h2
    have := h3 vs hc
    rw [e1] at this
    cases this
    exact rep_pair s hp (.int _) (r1.fut0 f)⟩
theorem wlk_zip {K : PySem.W.Frag} {a b : Addr} {vs ws : List V} {ts us : List T} {H : Hp} {ι : Ids} (hK : K = S.K) (hx : RL S.K H ι a vs) (q : Reps S H ι vs ts) (hy : RL S.K H ι b ws) (q' : Reps S H ι ws us) : Wlk S (Itz K a b) (prs ts us) H ι := fun Hc ιc μc f s => by
  subst hK
  have hc := (hx.fut f).sq
  have hc' := (hy.fut f).sq
  refine ⟨fun i t e => ?_, vs, ws, hc, hc', by rw [prs_length, q.length, q'.length]; omega⟩
  obtain ⟨c, d, e0, e0', rfl⟩ := prs_get e
  obtain ⟨v, e1, r1⟩ := q.get e0
  obtain ⟨w, e1', r1'⟩ := q'.get e0'
  exact ⟨⟨vs, ws, v, w, hc, hc', e1, e1'⟩, fun x H2 ⟨p, y, z, h1, hp, h2, h3, h4⟩ => by
    subst h1; subst h2
    have := h3 vs hc
    rw [e1] at this
    cases this
    have := h4 ws hc'
    rw [e1'] at this
    cases this
    exact rep_pair s hp (r1.fut0 f) (r1'.fut0 f)⟩
theorem wlk_zipT {K : PySem.W.Frag} {a b : Addr} {vs ws : List V} {ts us : List T} {H : Hp} {ι : Ids} (hK : K = S.K) (hx : RT S.K H ι a vs) (q : Reps S H ι vs ts) (hy : RT S.K H ι b ws) (q' : Reps S H ι ws us) : Wlk S (RZ.ItzT K a b) (prs ts us) H ι := fun Hc ιc μc f s => by
  subst hK
  have hc := (hx.fut f).sq
  have hc' := (hy.fut f).sq
  refine ⟨fun i t e => ?_, vs, ws, hc, hc', by rw [prs_length, q.length, q'.length]; omega⟩
  obtain ⟨c, d, e0, e0', rfl⟩ := prs_get e
  obtain ⟨v, e1, r1⟩ := q.get e0
  obtain ⟨w, e1', r1'⟩ := q'.get e0'
  exact ⟨⟨vs, ws, v, w, hc, hc', e1, e1'⟩, fun x H2 ⟨p, y, z, h1, hp, h2, h3, h4⟩ => by
    subst h1; subst h2
    have := h3 vs hc
    rw [e1] at this
    cases this
    have := h4 ws hc'
    rw [e1'] at this
    cases this
    exact rep_pair s hp (r1.fut0 f) (r1'.fut0 f)⟩
def mZip (ts : List T) : M (List T) := match ts with
  | [.lst a, .lst b] => ret (prs a b)
  | [.tup a, .tup b] => ret (prs a b)
  | _ => bad
def iZp (a : Env → M (List T)) : Env → M (List T) := fun ρ => bnd (a ρ) mZip
theorem pvi_zip {e e2 : Expr} {fa : Env → M (List T)} {p tpos : Pos} {elts : List Expr} {kk : Nat} (hK : X.K = S.K) (hg : Gl X "zip") (hm : X.mg "zip" = none) (ha : PVa X S W [e, e2] fa) (hst : starEach [e, e2] X.env = (false, eval e X.env) :: starEach [e2] X.env) (hst2 : ((backTo pos (starEach [e2] X.env)).any fun x => x.1) = false) :
    PVi X S W (.Tuple elts kk tpos) (.Call (.Name "zip" p) [e, e2] [] pos) (iZp fa) :=
  PI.weak (RZ.pi_zipA hg hm ha hst hst2) fun σ H R ⟨ρ, ι, μ, he, hs, h⟩ => av_then he hs h fun vs H1 ι1 μ1 ts he1 hs1 f1 r1 h1 => by
    rw [hK]
    unfold mZip at h1
    split at h1
    · obtain ⟨x, y, rfl, rx, ry⟩ := reps2 r1
      cases rx with
      | lst hx q => cases ry with
        | lst hy q' => exact ⟨_, _, _, _, rfl, .inl ⟨hx.sq, hy.sq, h1 _ H1 ι1 (Fut.refl _ _) hs1 (wlk_zip rfl hx q hy q')⟩⟩
    · obtain ⟨x, y, rfl, rx, ry⟩ := reps2 r1
      cases rx with
      | tup hx q => cases ry with
        | tup hy q' => exact ⟨_, _, _, _, rfl, .inr ⟨hx.sq, hy.sq, h1 _ H1 ι1 (Fut.refl _ _) hs1 (wlk_zipT rfl hx q hy q')⟩⟩
    · exact h1.elim

/-! ### for -/
def forL : List T → (T → Env → M Out) → Env → M Out
  | [], _, ρ => ret (.nx ρ)
  | t :: ts, step, ρ => bnd (step t ρ) fun o => match o with
    | .nx ρ' => forL ts step ρ'
    | .ct ρ' => forL ts step ρ'
    | .bk ρ' => ret (.nx ρ')
    | .rt u => ret (.rt u)
    | .xx ρ' e => ret (.xx ρ' e)
def stp (f : T → Env → Option Env) (b : Env → M Out) (t : T) (ρ : Env) : M Out := match f t ρ with
  | some ρ2 => b ρ2
  | none => bad
theorem stp_some {f : T → Env → Option Env} {b : Env → M Out} {t : T} {ρ ρ2 : Env} (h : f t ρ = some ρ2) : stp f b t ρ = b ρ2 := by unfold stp; rw [h]
theorem stp_none {f : T → Env → Option Env} {b : Env → M Out} {t : T} {ρ : Env} (h : f t ρ = none) : stp f b t ρ = bad := by unfold stp; rw [h]
def sFor (it : Env → M (List T)) (f : T → Env → Option Env) (b : Env → M Out) : Env → M Out := fun ρ => bndS (it ρ) ρ fun ts => forL ts (stp f b) ρ
theorem ps_of_for {tg iter : Expr} {body : List Stmt} {fi : Env → M (List T)} {is : List Nat} {f : T → Env → Option Env} (hp : PassesOwn (model X.prog X.w) X.A X.env X.xe) (hc : X.calm = true) (hi : PVi X S W tg iter fi) (hg : PG X tg (tGv S is f)) (hb : PVss X S W body g)
    (hfs : ∀ x, foldedSetIterable iter X.env x = pure x) : PVs X S W (.For tg iter body [] pos) (sFor fi f g) :=
  PS.weak (ps_for hp hc hi hg hb hfs) fun D σ H ⟨ρ, ι, μ, he, hs, h⟩ => by
    refine ⟨ρ, ι, μ, he, hs, (PstS.seq (rel := fun H' ι' J ts => Wlk S J ts H' ι') he h).mono fun J H1 ⟨ι1, μ1, ts, f1, hs1, w, h1⟩ => ?_⟩
    refine ⟨fun i m σ H => m = ts.length - i ∧ i ≤ ts.length ∧ ∃ ι μ ρ, Fut H1 ι1 H ι ∧ StRep S H ι μ ∧ RepE S H ι σ ρ ∧ PstS S W D H ι (forL (ts.drop i) (stp f g) ρ μ),
      ⟨ts.length, by simp, Nat.zero_le _, ι1, μ1, ρ, Fut.refl _ _, hs1, he.fut f1, by rw [List.drop_zero]; exact h1⟩, ?_⟩
    rintro i m σ2 H2 ⟨rfl, hi2, ι2, μ2, ρ2, f2, hs2, he2, h2⟩
    obtain ⟨go, stop⟩ := w H2 ι2 μ2 f2.toFu0 hs2
    by_cases hlt : i < ts.length
    · refine .inr ?_
      have et : ts[i]? = some ts[i] := List.getElem?_eq_getElem hlt
      obtain ⟨g1, g2⟩ := go i _ et
      rw [List.drop_eq_getElem_cons hlt] at h2
      refine ⟨g1, fun σ' H' => ∃ ι μ ρ, Fut H1 ι1 H' ι ∧ StRep S H' ι μ ∧ RepE S H' ι σ' ρ ∧ PstS S W D H' ι (forL (ts.drop (i + 1)) (stp f g) ρ μ),
        fun σ' H' n => ⟨ts.length - (i + 1), by omega, rfl, hlt, n⟩, fun x H3 y => ?_⟩
      obtain ⟨k3, r3⟩ := g2 x H3 y
      have f3 : Fut H2 ι2 H3 ι2 := Fut.grow hs2.tk k3
      have hs3 : StRep S H3 ι2 μ2 := hs2.same k3
      have h3 := PstS.later f3 h2
      unfold forL at h3
      cases ef : f ts[i] ρ2 with
      | none => unfold bnd at h3; rw [stp_none ef] at h3; exact h3.elim
      | some ρ3 =>
        refine ⟨ρ2, ι2, μ2, ts[i], ρ3, he2.fut f3, hs3, r3, ef, fun σ4 he4 _ _ => ⟨ρ3, ι2, μ2, he4, hs3, ?_⟩⟩
        unfold bnd at h3
        rw [stp_some ef] at h3
        cases eg : g ρ3 μ2 with
        | bad => rw [eg] at h3; exact h3.elim
        | ex e2 μ4 => rw [eg] at h3; exact h3.elim
        | ok o μ4 =>
          rw [eg] at h3
          cases o with
          | nx ρ4 => exact fun σ' H' ι' f' s' r' => ⟨ι', μ4, ρ4, (f2.trans f3).trans f', s', r', h3.later f'⟩
          | ct ρ4 => exact fun σ' H' ι' f' s' r' => ⟨ι', μ4, ρ4, (f2.trans f3).trans f', s', r', h3.later f'⟩
          | bk ρ4 => exact h3
          | rt u => exact h3
          | xx ρ4 e => exact h3
    · have e : i = ts.length := by omega
      subst e
      rw [List.drop_length] at h2
      exact .inl ⟨stop, h2 σ2 H2 ι2 (Fut.refl _ _) hs2 he2⟩
/-- while, at most so many turns -/
def whileL : Nat → (Env → M Bool) → (Env → M Out) → Env → M Out
  | 0, _, _, _ => bad
  | n + 1, c, b, ρ => bndS (c ρ) ρ fun k => if k then bnd (b ρ) fun o => match o with
    | .nx ρ' => whileL n c b ρ'
    | .ct ρ' => whileL n c b ρ'
    | .bk ρ' => ret (.nx ρ')
    | .rt u => ret (.rt u)
    | .xx ρ' e => ret (.xx ρ' e) else ret (.nx ρ)
theorem ps_of_while {body : List Stmt} (n : Nat) (hp : PassesOwn (model X.prog X.w) X.A X.env X.xe) (hc : PVt X S W c ft) (hb : PVss X S W body g) : PVs X S W (.While c body [] pos) (whileL n ft g) :=
  PS.weak (ps_while hp hc hb) fun D σ H ⟨ρ, ι, μ, he, hs, h⟩ => by
    refine ⟨fun m σ H => ∃ ρ ι μ, RepE S H ι σ ρ ∧ StRep S H ι μ ∧ PstS S W D H ι (whileL m ft g ρ μ), ⟨n, ρ, ι, μ, he, hs, h⟩, ?_⟩
    rintro m σ1 H1 ⟨ρ1, ι1, μ1, he1, hs1, h1⟩
    cases m with
    | zero => exact h1.elim
    | succ m =>
      refine ts_then he1 hs1 h1 fun x H2 ι2 μ2 he2 hs2 f2 h2 => ?_
      cases x with
      | false => exact iteF (h2 σ1 H2 ι2 (Fut.refl _ _) hs2 he2)
      | true =>
        refine iteT ⟨fun σ' H' => ∃ ρ ι μ, RepE S H' ι σ' ρ ∧ StRep S H' ι μ ∧ PstS S W D H' ι (whileL m ft g ρ μ), fun σ' H' q => ⟨m, Nat.lt_succ_self _, q⟩, ρ1, ι2, μ2, he2, hs2, ?_⟩
        have h3 : PstS S W D H2 ι2 (bnd (g ρ1) (fun o => match o with | .nx ρ' => whileL m ft g ρ' | .ct ρ' => whileL m ft g ρ' | .bk ρ' => ret (.nx ρ') | .rt u => ret (.rt u) | .xx ρ' e => ret (.xx ρ' e)) μ2) := h2
        unfold bnd at h3
        cases eg : g ρ1 μ2 with
        | bad => rw [eg] at h3; exact h3.elim
        | ex e2 μ4 => rw [eg] at h3; exact h3.elim
        | ok o μ4 =>
          rw [eg] at h3
          cases o with
          | nx ρ4 => exact fun σ' H' ι' f' s' r' => ⟨ρ4, ι', μ4, r', s', h3.later f'⟩
          | ct ρ4 => exact fun σ' H' ι' f' s' r' => ⟨ρ4, ι', μ4, r', s', h3.later f'⟩
          | bk ρ4 => exact h3
          | rt u => exact h3
          | xx ρ4 e => exact h3
end
end Tw

/-! TwV: stores at subscripts, methods of lists and dicts, dicts -/
namespace Tw
open PySem L2
/-! ### keys -/
def keyT : T → Option Key
  | .int i => some (.inl i)
  | .str x => some (.inr x)
  | _ => none
def unKey : Key → T
  | .inl i => .int i
  | .inr x => .str x
theorem keyT_of {S : Sta} {H : Hp} {ι : Ids} {v : V} {t : T} {k : Key} (e : keyT t = some k) (r : Rep S H ι v t) : v = kV k := by
  cases r <;> first | (cases e; done) | (cases e; rfl)
theorem rep_key {S : Sta} {H : Hp} {ι : Ids} (k : Key) : Rep S H ι (kV k) (unKey k) := by
  cases k with
  | inl i => exact .int i
  | inr x => exact .str x
theorem reps_keys {S : Sta} {H : Hp} {ι : Ids} : ∀ (ks : List Key), Reps S H ι (ks.map kV) (ks.map unKey)
  | [] => .nil
  | k :: ks => .cons (rep_key k) (reps_keys ks)
/-- what stands at a key -/
def getL {α : Type} : List Key → List α → Key → Option α
  | k' :: ks, x :: xs, k => if k' = k then some x else getL ks xs k
  | _, _, _ => none
def setL {α : Type} : List Key → List α → Key → α → List α
  | k' :: ks, x :: xs, k, y => (if k' = k then y else x) :: setL ks xs k y
  | _, xs, _, _ => xs
def hasL (ks : List Key) (k : Key) : Bool := ks.any fun k' => decide (k' = k)
def putL {α : Type} (ks : List Key) (xs : List α) (k : Key) (y : α) : List Key × List α := if hasL ks k then (ks, setL ks xs k y) else (ks ++ [k], xs ++ [y])
theorem setL_length {α : Type} : ∀ (ks : List Key) (xs : List α) (k : Key) (y : α), (setL ks xs k y).length = xs.length
  | [], [], _, _ => rfl
  | [], _ :: _, _, _ => rfl
  | _ :: _, [], _, _ => rfl
  | _ :: ks, _ :: xs, k, y => congrArg (· + 1) (setL_length ks xs k y)
theorem putL_length {α : Type} {ks : List Key} {xs : List α} {k : Key} {y : α} (h : ks.length = xs.length) : (putL ks xs k y).1.length = (putL ks xs k y).2.length := by
  unfold putL
  split
  · rw [setL_length]; exact h
  · simp [h]
theorem valV_zip : ∀ {ks : List Key} {vs : List V} (k : Key), ks.length = vs.length → valV (ks.zip vs) k = getL ks vs k
  | [], [], _, _ => rfl
  | k' :: ks, v :: vs, k, h => by
    rw [List.zip_cons_cons]
    unfold getL
    by_cases e : k' = k
    · rw [if_pos e, valV_pos e]
    · rw [if_neg e, valV_neg e, valV_zip k (by simpa using h)]
  | [], _ :: _, _, h => by simp at h
  | _ :: _, [], _, h => by simp at h
theorem any_zip : ∀ {ks : List Key} {vs : List V} (k : Key), ks.length = vs.length → ((ks.zip vs).any fun kv => decide (kv.1 = k)) = hasL ks k
  | [], [], _, _ => rfl
  | k' :: ks, v :: vs, k, h => by
    unfold hasL
    rw [List.zip_cons_cons, List.any_cons, List.any_cons, any_zip k (by simpa using h)]
    rfl
  | [], _ :: _, _, h => by simp at h
  | _ :: _, [], _, h => by simp at h
theorem map_zip : ∀ {ks : List Key} {vs : List V} (k : Key) (y : V), ks.length = vs.length → (ks.zip vs).map (fun kv => if kv.1 = k then (kv.1, y) else kv) = ks.zip (setL ks vs k y)
  | [], [], _, _, _ => rfl
  | k' :: ks, v :: vs, k, y, h => by
    show (if k' = k then (k', y) else (k', v)) :: (ks.zip vs).map (fun kv => if kv.1 = k then (kv.1, y) else kv) = (k' :: ks).zip ((if k' = k then y else v) :: setL ks vs k y)
    rw [map_zip k y (by simpa using h), List.zip_cons_cons]
    by_cases e : k' = k
    · rw [if_pos e, if_pos e]
    · rw [if_neg e, if_neg e]
  | [], _ :: _, _, _, h => by simp at h
  | _ :: _, [], _, _, h => by simp at h
theorem putK_zip {ks : List Key} {vs : List V} (k : Key) (y : V) (h : ks.length = vs.length) : putK (ks.zip vs) k y = (putL ks vs k y).1.zip (putL ks vs k y).2 := by
  unfold putK putL
  rw [any_zip k h]
  by_cases e : hasL ks k = true
  · rw [if_pos e, if_pos e, map_zip k y h]
  · rw [if_neg e, if_neg e]
    show ks.zip vs ++ [(k, y)] = (ks ++ [k]).zip (vs ++ [y])
    rw [List.zip_append h]
    rfl
theorem putL_keys {α β : Type} (ks : List Key) (xs : List α) (zs : List β) (k : Key) (y : α) (z : β) : (putL ks xs k y).1 = (putL ks zs k z).1 := by
  unfold putL
  split <;> rfl
section
variable {S : Sta} {H : Hp} {ι : Ids}
theorem getL_reps : ∀ {ks : List Key} {vs : List V} {ts : List T} {k : Key} {t : T}, Reps S H ι vs ts → getL ks ts k = some t → ∃ v, getL ks vs k = some v ∧ Rep S H ι v t
  | [], _, _, _, _, _, e => by simp [getL] at e
  | _ :: _, _, _, _, _, .nil, e => by simp [getL] at e
  | k' :: ks, _, _, k, t, .cons h r, e => by
    unfold getL at e ⊢
    by_cases c : k' = k
    · rw [if_pos c] at e ⊢
      cases e
      exact ⟨_, rfl, h⟩
    · rw [if_neg c] at e ⊢
      exact getL_reps r e
theorem getL_none : ∀ {ks : List Key} {vs : List V} {ts : List T} {k : Key}, Reps S H ι vs ts → getL ks ts k = none → getL ks vs k = none
  | [], _, _, _, _, e => by simp [getL]
  | _ :: _, _, _, _, .nil, e => by simp [getL]
  | k' :: ks, _, _, k, .cons h r, e => by
    unfold getL at e ⊢
    by_cases c : k' = k
    · rw [if_pos c] at e
      cases e
    · rw [if_neg c] at e ⊢
      exact getL_none r e
theorem setL_reps {v : V} {t : T} (h : Rep S H ι v t) {k : Key} : ∀ {ks : List Key} {vs : List V} {ts : List T}, Reps S H ι vs ts → Reps S H ι (setL ks vs k v) (setL ks ts k t)
  | [], _, _, .nil => .nil
  | [], _, _, .cons a b => .cons a b
  | _ :: _, _, _, .nil => .nil
  | k' :: ks, _, _, .cons a b => by
    unfold setL
    by_cases c : k' = k
    · rw [if_pos c, if_pos c]; exact .cons h (setL_reps h b)
    · rw [if_neg c, if_neg c]; exact .cons a (setL_reps h b)
theorem putL_reps {v : V} {t : T} (h : Rep S H ι v t) {k : Key} {ks : List Key} {vs : List V} {ts : List T} (r : Reps S H ι vs ts) : Reps S H ι (putL ks vs k v).2 (putL ks ts k t).2 := by
  unfold putL
  split
  · exact setL_reps h r
  · exact r.snoc h
end
/-! ### in, not in, of dicts too -/
def gIn (neg : Bool) (x y : T) : M T := fun μ => match dicOf y μ, keyT x with
  | some (ks, ts), some k => .ok (.bl (if neg then !(getL ks ts k).isSome else (getL ks ts k).isSome)) μ
  | some _, none => .bad
  | none, _ => gInS neg x y μ
def rDIn (neg : Bool) : R2 := fun y x H Q => ∃ a o, x = .ref a ∧ DGet H a y o ∧ Q (.bl (if neg then !o.isSome else o.isSome)) H
theorem op_dIn {X : Cx} (hu : X.A.units + 1 < cLine) : OpR X (compareOp .In) (rDIn false) := by
  intro pins s σ H x y v u Q I rx ry h
  obtain ⟨a, o, rfl, g, q⟩ := h
  cases ry
  exact d_in hu I g rx fun s' I' => ⟨.bl _, H, I', rfl, q⟩
theorem op_dNotIn {X : Cx} (hu : X.A.units + 1 < cLine) : OpR X (compareOp .NotIn) (rDIn true) := by
  intro pins s σ H x y v u Q I rx ry h
  obtain ⟨a, o, rfl, g, q⟩ := h
  cases ry
  exact d_notIn hu I g rx fun s' I' => ⟨.bl _, H, I', rfl, q⟩
theorem getL_some {S : Sta} {H : Hp} {ι : Ids} {ks : List Key} {vs : List V} {ts : List T} {k : Key} (r : Reps S H ι vs ts) : (getL ks vs k).isSome = (getL ks ts k).isSome := by
  cases e : getL ks ts k with
  | none => rw [getL_none r e]; rfl
  | some t =>
    obtain ⟨v, e2, _⟩ := getL_reps r e
    rw [e2]; rfl
theorem opT_in {S : Sta} (neg : Bool) : OpT S (gIn neg) (fun x y H Q => rIn S.K neg x y H Q ∨ rDIn neg x y H Q) := by
  intro W σ H ι μ x y tx ty Q hs rx ry h
  unfold gIn at h
  split at h
  · rename_i ks ts k e1 e2
    obtain ⟨a, vs, rfl, hl, hr, rr⟩ := dic_read e1 hs ry
    have := keyT_of e2 rx
    subst this
    refine .inr ⟨a, _, rfl, .inl ⟨_, k, hr, rfl, rfl⟩, ?_⟩
    rw [valV_zip k hl, getL_some rr]
    exact Pst.now h hs (.bl _)
  · exact h.elim
  · exact .inl (opT_inS neg W σ H ι μ x y tx ty Q hs rx ry h)
/-! ### subscripts of dicts -/
def gIxD (x y : T) : M T := fun μ => match dicOf x μ, keyT y with
  | some (ks, ts), some k => match getL ks ts k with
    | some t => .ok t μ
    | none => .bad
  | some _, none => .bad
  | none, _ => gIx x y μ
def rIxD : R2 := fun x y H Q => ∃ a v, x = .ref a ∧ DGet H a y (some v) ∧ Q v H
theorem ix_dict {X : Cx} (hu : X.A.units + 1 < cLine) : IxR X rIxD := by
  intro value slice pins s σ H x y v u Q I rx ry h hs
  obtain ⟨a, v, rfl, g, q⟩ := h
  obtain rfl := (show _ = Value.ref a from rx)
  unfold PyProof.Rows.subscriptTail
  have hT := dict_typeIs I g
  refine wpAny_bind ?_
  rw [getitemInPython_of_ne hT.not_modules]
  refine wpAny_bind (wpAny_specialOf hT PySem.F.slot_dict_getitem.lookup ?_)
  have h₂ : wpAny (model X.prog X.w) X.A (getItem (.ref a) u) (EP X pins σ Q) X.xe s := d_getItem hu I g ry fun w' s3 I3 rw' => ⟨v, H, I3, rw', q⟩
  have fin : wpAny (model X.prog X.w) X.A (subscripted slice false (.ref a) u) (fun r s₃ => wpAny (model X.prog X.w) X.A (letTemporaryGo value (.ref a) r >>= fun _ => pure r) (EP X pins σ Q) X.xe s₃) X.xe s := by
    rw [hs]
    exact wpAny_operating (wpAny_mono h₂ (fun r s₃ h₃ => wpAny_bind (wpAny_letTemporaryGo (wpAny_pure h₃))) fun _ _ x => x)
  first
    | exact wpAny_pure (wpAny_bind fin)
    | exact wpAny_bind (wpAny_pure (wpAny_bind fin))
    | exact wpAny_bind fin
def rIxE (K : PySem.W.Frag) : R2 := fun x y H Q => rIxA K x y H Q ∨ rIxD x y H Q
theorem opT_ixD {S : Sta} : OpT S gIxD (rIxE S.K) := by
  intro W σ H ι μ x y tx ty Q hs rx ry h
  unfold gIxD at h
  split at h
  · rename_i ks ts k e1 e2
    split at h
    · rename_i t e3
      obtain ⟨a, vs, rfl, hl, hr, rr⟩ := dic_read e1 hs rx
      have := keyT_of e2 ry
      subst this
      obtain ⟨v, e4, rv⟩ := getL_reps rr e3
      exact .inr ⟨a, v, rfl, .inl ⟨_, k, hr, rfl, by rw [valV_zip k hl, e4]⟩, Pst.now h hs rv⟩
    · exact h.elim
  · exact h.elim
  · exact .inl (opT_ix W σ H ι μ x y tx ty Q hs rx ry h)
section
variable {X : Cx} {S : Sta} {W : WX} {a b e : Expr} {fa fb fe : Env → M T} {pos : Pos}
theorem pv_ixD {k : Nat} (hr : Room k X.A) (hK : X.K = S.K) (ha : PV X S W a fa) (hb : PV X S W b fb) (hp : PlainIx b) : PV X S W (.Subscript a b pos) (c2 gIxD fa fb) :=
  PE.weak (pe_ix (ix_all.or (ix_dict (by have := hr.units; omega))) ha hb hp) fun σ H Q h => by rw [hK]; exact tOp_of opT_ixD h

/-! ### x[i] = e -/
def mPut (o i v : T) : M Unit := fun μ => match o with
  | .obj n => match μ[n]? with
    | some (some (.lst ts)) => match i with
      | .int k => match ixN ts.length k with
        | some j => .ok () (μ.set n (some (.lst (ts.set j v))))
        | none => .bad
      | _ => .bad
    | some (some (.dic ks ts)) => match keyT i with
      | some k => if ks.length < lim then .ok () (μ.set n (some (.dic (putL ks ts k v).1 (putL ks ts k v).2))) else .bad
      | none => .bad
    | _ => .bad
  | _ => .bad
def rSetD : TSet := fun o i v H Q => ∃ a H', o = .ref a ∧ DPut H a i v H' ∧ Q H'
theorem set_dict (hu : X.A.units + 1 < cLine) : PSet X rSetD := by
  intro pins s σ H o i v ov iv u Q I ro ri rv h
  obtain ⟨a, H', rfl, g, q⟩ := h
  cases ro
  exact d_setItem hu I g ri rv fun s' I' => ⟨H', I', q⟩
theorem PSet.or {t t' : TSet} (h : PSet X t) (h' : PSet X t') : PSet X (fun o i v H Q => t o i v H Q ∨ t' o i v H Q) := fun pins s σ H o i v ov iv u Q I ro ri rv q => q.elim (h pins s σ H o i v ov iv u Q I ro ri rv) (h' pins s σ H o i v ov iv u Q I ro ri rv)
/-- what a store does -/
theorem put_ok {H : Hp} {ι : Ids} {μ μ' : Store} {o i v : V} {to ti tv : T} {R : Hp → Prop} (hs : StRep S H ι μ) (ro : Rep S H ι o to) (ri : Rep S H ι i ti) (rv : Rep S H ι v tv) (h : mPut to ti tv μ = .ok () μ')
    (q : ∀ H' ι', Fut H ι H' ι' → StRep S H' ι' μ' → R H') : rSetL o i v H R ∨ rSetD o i v H R := by
  unfold mPut at h
  split at h
  · rename_i n
    split at h
    · rename_i ts hm
      split at h
      · split at h
        · rename_i j hj
          cases h
          obtain ⟨p, rfl, hp, vs, hH, rr⟩ := hs.at hm ro
          cases ri
          refine .inl ⟨p, vs, _, j, rfl, rfl, hH, by rw [rr.length]; exact hj, q _ ι (Fut.write (inL hp) (hs.nlk hp)) (hs.put hm (fun k z => by cases z) hp ⟨_, upd_same, ?_⟩)⟩
          have f := Fut.write (o := .lst (vs.set j v)) (inL hp) (hs.nlk hp) (H := H)
          exact (rr.fut f).set (rv.fut f) j
        · cases h
      · cases h
    · rename_i ks ts hm
      split at h
      · rename_i k hk
        split at h
        · rename_i hl
          cases h
          obtain ⟨p, rfl, hp, vs, hlen, hH, rr⟩ := hs.at hm ro
          have := keyT_of hk ri
          subst this
          refine .inr ⟨p, _, rfl, .inl ⟨_, k, hH, rfl, ?_, rfl⟩, ?_⟩
          · rw [List.length_zip, ← hlen, Nat.min_self, lim_eq]; exact hl
          · have f := Fut.write (o := .dK (putK (ks.zip vs) k v)) (inL hp) (hs.nlk hp) (H := H)
            refine q _ ι f (hs.put hm (fun k z => by cases z) hp ⟨(putL ks vs k v).2, ?_, ?_, putL_reps (rv.fut f) (rr.fut f)⟩)
            · rw [putL_keys ks ts vs k tv v]
              exact putL_length hlen
            · rw [putL_keys ks ts vs k tv v, ← putK_zip k v hlen]
              exact upd_same
        · cases h
      · cases h
    · cases h
  · cases h
def sStore (e a i : Env → M T) : Env → M Out := fun ρ => bndS (e ρ) ρ fun v => bndS (a ρ) ρ fun o => bndS (i ρ) ρ fun k => bndS (mPut o k v) ρ fun _ => ret (.nx ρ)
theorem mPut_noX {o i v : T} {μ μ' : Store} {x : Exc} : mPut o i v μ ≠ .ex x μ' := by
  intro h
  unfold mPut at h
  repeat' split at h
  all_goals cases h
theorem ps_of_store {p2 : Pos} {k : Nat} (hr : Room k X.A) (he : PV X S W e fe) (ha : PV X S W a fa) (hb : PV X S W b fb) (hs : swapsWithSole [.Subscript a b p2] e pos.line X.env = pure false) (hw : swappedStores [.Subscript a b p2] e X.env = pure none)
    (hg : ∀ v, assign (.Subscript a b p2) X.env v = (do
      let ov ← holding [v] (eval a X.env)
      let iv ← holding [v, ov] (eval b X.env)
      standAt p2
      holding [v, ov, iv] (setItem ov iv v)
      release [v, ov, iv] [])) : PVs X S W (.Assign [.Subscript a b p2] e pos) (sStore fe fa fb) :=
  PS.weak (ps_asg he (pg_sub ha hb (PSet.or set_list (set_dict (by have := hr.units; omega))) hg) hs hw rfl) fun D σ H ⟨ρ, ι, μ, he, hs, h⟩ => by
    refine es_then he hs h fun v H1 ι1 μ1 tv he1 hs1 f1 r1 h1 => ?_
    refine es_then he1 hs1 h1 fun o H2 ι2 μ2 to he2 hs2 f2 r2 h2 => ?_
    refine es_then he2 hs2 h2 fun i H3 ι3 μ3 ti he3 hs3 f3 r3 h3 => ?_
    unfold bndS at h3
    cases em : mPut to ti tv μ3 with
    | bad => rw [em] at h3; exact h3.elim
    | ex x μ4 => exact absurd em mPut_noX
    | ok u μ4 =>
      rw [em] at h3
      exact put_ok hs3 (r2.fut f3) r3 ((r1.fut f2).fut f3) em fun H' ι' f' s' => h3 σ H' ι' f' s' (he3.fut f')
end
/-! ### methods -/
def MtT (S : Sta) (g : T → List T → M T) (r : V → List V → Hp → VK → Prop) : Prop := ∀ (W : WX) (σ : L2.St) (H : Hp) (ι : Ids) (μ : Store) (x : V) (xs : List V) (t : T) (ts : List T) (Q : VK), StRep S H ι μ → Rep S H ι x t → Reps S H ι xs ts → Pst S W σ H ι (Rep S) (g t ts μ) Q → r x xs H Q
/-- the receiver is of that type -/
def tyOk (Ty : String) (t : T) (μ : Store) : Bool := if Ty = "list" then (lstOf t μ).isSome else if Ty = "dict" then (match t with
  | .obj _ => (dicOf t μ).isSome
  | _ => false) else if Ty = "str" then (match t with
  | .str _ => true
  | _ => false) else false
def mTy (Ty : String) (t : T) : M Unit := fun μ => if tyOk Ty t μ then .ok () μ else .bad
theorem tyOk_of {S : Sta} {H : Hp} {ι : Ids} {μ : Store} {Ty : String} {t : T} {x : V} (e : tyOk Ty t μ = true) (s : StRep S H ι μ) (r : Rep S H ι x t) : tyV S.K Ty x H := by
  unfold tyOk at e
  split at e
  · rename_i h
    subst h
    cases q : lstOf t μ with
    | none => rw [q] at e; cases e
    | some ts =>
      obtain ⟨a, vs, rfl, h1, h2⟩ := lst_read q s r
      exact .inl ⟨rfl, vs, .inl h1⟩
  · split at e
    · rename_i h
      subst h
      split at e
      · rename_i n
        cases q : dicOf (.obj n) μ with
        | none => rw [q] at e; cases e
        | some p =>
          have q' : (match μ[n]? with | some (some (MO.dic ks ts)) => some (ks, ts) | _ => none) = some p := q
          split at q'
          · rename_i ks ts hm
            obtain ⟨a, rfl, _, vs, _, hH, _⟩ := s.at hm r
            exact .inr (.inr (.inl ⟨rfl, .inl ⟨_, hH⟩⟩))
          · cases q'
      · cases e
    · split at e
      · rename_i h
        subst h
        split at e
        · cases r; rfl
        · cases e
      · cases e
def cMeth (Ty : String) (g : T → List T → M T) (o : Env → M T) (a : Env → M (List T)) : Env → M T := fun ρ => bnd (o ρ) fun x => bnd (mTy Ty x) fun _ => bnd (a ρ) fun ts => g x ts
section
variable {X : Cx} {S : Sta} {W : WX} {o e : Expr} {es : List Expr} {fo : Env → M T} {fa : Env → M (List T)} {name : Str} {apos cpos : Pos} {Ty id : String} {g : T → List T → M T} {r : V → List V → Hp → VK → Prop}
theorem pv_meth (hK : X.K = S.K) (pa : PlainAttrs Ty) (slot : Slot Ty name id) (hty : typeOf (.builtin id) = pure (.type "method_descriptor")) (hm : MtR X id r) (hg : MtT S g r) (ho : PV X S W o fo) (ha : PVa X S W (e :: es) fa)
    (hbase : attributeBase o name X.env (eval o X.env) = eval o X.env)
    (hfew : ((backTo cpos (starEach (e :: es) X.env)).all (fun x => !x.1) && (backToKw cpos (keywordEach [] X.env)).all (fun x => x.1.isSome)
      && decide ((e :: es).length + ([] : List Keyword).length + (if ([] : List Keyword).isEmpty then 0 else 1) < 30)) = true)
    (hline : (apos.endLine == cpos.line) = true) (hs : starEach (e :: es) X.env = (false, eval e X.env) :: starEach es X.env) (hplain : (backTo cpos (starEach es X.env)).any (·.1) = false) :
    PV X S W (.Call (.Attribute o name apos) (e :: es) [] cpos) (cMeth Ty g fo fa) :=
  PE.weak (pe_bm pa slot hty hm ho ha hbase hfew hline hs hplain) fun σ H Q ⟨ρ, ι, μ, he, hs, h⟩ => ev_then he hs h fun x H1 ι1 μ1 t he1 hs1 f1 r1 h1 => by
    cases et : tyOk Ty t μ1 with
    | false =>
      have : mTy Ty t μ1 = .bad := by unfold mTy; rw [et]; rfl
      rw [bnd_bad this] at h1
      exact h1.elim
    | true =>
      have : mTy Ty t μ1 = .ok () μ1 := by unfold mTy; rw [et]; rfl
      rw [bnd_ok this] at h1
      refine ⟨by rw [hK]; exact tyOk_of et hs1 r1, ?_⟩
      exact av_then (k := fun ts => g t ts) he1 hs1 h1 fun vs H2 ι2 μ2 ts he2 hs2 f2 r2 h2 => hg W σ H2 ι2 μ2 x vs t ts Q hs2 (r1.fut f2) r2 h2
end
/-- xs.append(y) -/
def mApp (t : T) (ts : List T) : M T := fun μ => match t, ts with
  | .obj n, [y] => match μ[n]? with
    | some (some (.lst us)) => if us.length < lim then .ok .non (μ.set n (some (.lst (us ++ [y])))) else .bad
    | _ => .bad
  | _, _ => .bad
theorem mtT_app {S : Sta} : MtT S mApp rAppend := by
  intro W σ H ι μ x xs t ts Q hs r rs h
  unfold mApp at h
  split at h
  · rename_i n y
    split at h
    · rename_i us hm
      split at h
      · rename_i hl
        obtain ⟨p, rfl, hp, vs, hH, rr⟩ := hs.at hm r
        obtain ⟨v, rfl, rv⟩ := reps1 rs
        have f := Fut.write (o := .lst (vs ++ [v])) (inL hp) (hs.nlk hp) (H := H)
        exact ⟨p, vs, v, rfl, rfl, hH, by rw [rr.length, lim_eq]; exact hl, h .non _ ι f (hs.put hm (fun k z => by cases z) hp ⟨_, upd_same, (rr.fut f).snoc (rv.fut f)⟩) .non⟩
      · exact h.elim
    · exact h.elim
  · exact h.elim
/-! ### d.update(pairs) -/
def pairsT : List T → Option (List (Key × T))
  | [] => some []
  | .tup [k, v] :: ts => match keyT k, pairsT ts with
    | some k, some r => some ((k, v) :: r)
    | _, _ => none
  | _ => none
def mergeL {α : Type} : List (Key × α) → List Key × List α → List Key × List α
  | [], p => p
  | (k, v) :: r, p => mergeL r (putL p.1 p.2 k v)
theorem mergeL_length {α : Type} : ∀ (r : List (Key × α)) (p : List Key × List α), p.1.length = p.2.length → (mergeL r p).1.length = (mergeL r p).2.length
  | [], _, h => h
  | (_, _) :: r, p, h => mergeL_length r _ (putL_length h)
theorem mergeL_zip : ∀ (r : List (Key × V)) (p : List Key × List V), p.1.length = p.2.length → mergeK (p.1.zip p.2) r = (mergeL r p).1.zip (mergeL r p).2
  | [], _, _ => rfl
  | (k, v) :: r, p, h => by
    show mergeK (putK (p.1.zip p.2) k v) r = _
    rw [putK_zip k v h]
    exact mergeL_zip r _ (putL_length h)
def mUpd (t : T) (ts : List T) : M T := fun μ => match t, ts with
  | .obj n, [.lst us] => match μ[n]?, pairsT us with
    | some (some (.dic ks xs)), some ps => if ks.length + ps.length ≤ lim then .ok .non (μ.set n (some (.dic (mergeL ps (ks, xs)).1 (mergeL ps (ks, xs)).2))) else .bad
    | _, _ => .bad
  | _, _ => .bad
def rUpd (K : PySem.W.Frag) : V → List V → Hp → VK → Prop := fun x vs H Q => ∃ (d a : Addr) (kvs : List (Key × V)) (ps : List Addr) (more : List (Key × V)), x = .ref d ∧ vs = [.ref a] ∧ H d = some (.dK kvs) ∧ SqL K H a (ps.map V.ref) ∧ Paired (fun p kv => SqT K H p [kV kv.1, kv.2]) ps more ∧
  kvs.length + more.length ≤ sizeLine ∧ Q .non (upd H d (.dK (mergeK kvs more)))
section
variable {X : Cx}
theorem pairs_vals {pins : List (Addr × Obj)} {σ : L2.St} {H : Hp} {s : Shared} (I : Inv X pins σ H s) : ∀ {ps : List Addr} {kvs : List (Key × V)}, Paired (fun p kv => SqT X.K H p [kV kv.1, kv.2]) ps kvs →
    ∃ (prs : List (Key × Value)) (ws : List (Value × Value)), KV kvs prs ∧ prs.length = ps.length ∧ ws.length = ps.length ∧ ∀ (j : Nat) (u v : Value), ws[j]? = some (u, v) → ∃ (b : Addr) (k : Key), ps[j]? = some b ∧ PyProof.Rows.IsTup s.heap b #[u, v] ∧ prs[j]? = some (k, v) ∧ (mixKind X.prog X.w).is k u = true
  | _, _, .nil => ⟨[], [], .nil, rfl, rfl, fun j u v e => by simp at e⟩
  | _, _, .cons (a := p) (b := kv) h t => by
    obtain ⟨prs, ws, r, hl, hl2, hp⟩ := pairs_vals I t
    obtain ⟨its, rv, ht, _⟩ := I.tuple h
    obtain ⟨u, y, ei, ru, ry⟩ := vals2 rv
    subst ei
    refine ⟨(kv.1, y) :: prs, (u, y) :: ws, .cons ⟨rfl, ry⟩ r, by rw [List.length_cons, List.length_cons, hl], by rw [List.length_cons, List.length_cons, hl2], fun j u' v' e => ?_⟩
    cases j with
    | zero =>
      cases e
      exact ⟨p, kv.1, rfl, ht, rfl, kV_is (P := X.prog) (w := X.w) ru⟩
    | succ j =>
      obtain ⟨b, k, e1, e2, e3, e4⟩ := hp j u' v' (by simpa using e)
      exact ⟨b, k, by simpa using e1, e2, by simpa using e3, e4⟩
theorem mt_upd (hc : X.calm = true) : MtR X "dict.update" (rUpd X.K) := by
  intro pins s σ H x xs v us Q I rx rv h
  obtain ⟨d, a, kvs, ps, more, rfl, rfl, hd, hq, hp, hz, q⟩ := h
  cases rx
  obtain ⟨u, rfl, ru⟩ := rv.one
  cases ru
  obtain ⟨its, ri, ⟨o, n, ho, hcl, hdd, hdat⟩, hz2⟩ := I.list hq
  have ei := refs_at ri
  subst ei
  obtain ⟨prs, ws, rel, hl, hl2, hpr⟩ := pairs_vals I hp
  obtain ⟨z, hsys, vs, rk, dd⟩ := dk_of I.hok hd
  have hl3 : prs.length = more.length := rel.length.symm
  have hcd : ∀ o', s.heap.get? d = some o' → o'.cls = .type "dict" := fun o' e => by
    obtain ⟨q, _, _, hq, hx, _⟩ := dd
    rw [hq] at e
    cases e
    exact hx.1
  have hne : d ≠ a := fun z => by
    subst z
    have := hcd o ho
    rw [hcl] at this
    exact absurd this (by decide)
  have hnp : d ∉ ps := fun z => by
    obtain ⟨j, hj⟩ := List.mem_iff_getElem?.mp z
    have hjl : j < ws.length := by rw [hl2]; exact (List.getElem?_eq_some_iff.mp hj).1
    obtain ⟨b, k, e1, ⟨o', e2, e3, _⟩, _⟩ := hpr j ws[j].1 ws[j].2 (List.getElem?_eq_getElem hjl)
    rw [hj] at e1
    cases e1
    have := hcd o' e2
    rw [e3] at this
    exact absurd this (by decide)
  have P := PairArg.list (prog := X.prog) (w := X.w) a (ps.map Value.ref).toArray (fun j => ps.getD j 0) ws
  refine call_update_pairs (knd := mixKind X.prog X.w) (kvs := prs) P (I.ok.hd hc) ⟨⟨o, n, ho, hcl, hdd, hdat⟩, ?_⟩ ?_ ⟨by rw [hl, hl2], fun i key v hr => ?_⟩ dd (by rw [← rk.length, hl2, ← hl, hl3]; exact hz) fun h' tk hd' hk => ?_
  · refine ⟨by simp [hl2], fun j k v e => ?_⟩
    obtain ⟨b, k', e1, e2, e3, e4⟩ := hpr j k v e
    have eg : ps.getD j 0 = b := by rw [List.getD_eq_getElem?_getD, e1]; rfl
    show (ps.map Value.ref).toArray[j]? = some (.ref (ps.getD j 0)) ∧ PairAt s.heap (ps.getD j 0) k v
    rw [eg]
    refine ⟨by simp [e1], .inl ?_⟩
    exact e2
  · intro hm
    rcases List.mem_cons.mp hm with e | e
    · exact hne e
    · obtain ⟨j, hj, e2⟩ := List.mem_map.mp e
      rw [List.mem_range, hl2] at hj
      rw [List.getD_eq_getElem?_getD, List.getElem?_eq_getElem hj] at e2
      exact hnp (e2 ▸ List.getElem_mem hj)
  · obtain ⟨b, k', e1, e2, e3, e4⟩ := hpr i key v hr
    exact ⟨k', e3, e4⟩
  · refine ⟨.non, upd H d (.dK (mergeK kvs more)), ?_, rfl, q⟩
    have he : ∃ q, h'.get? d = some q := let ⟨q, _, _, hq, _⟩ := hd'; ⟨q, hq⟩
    have hzz : (mergeK kvs more).length ≤ sizeLine := Nat.le_trans (length_mergeK more kvs) hz
    exact I.write (x := d) (e := d) (by rw [hd]; trivial) (.inl rfl) (fun b o hb e => hk b o hb (by simp) e) he (dk_new hzz hsys (rel.merge rk) hd')
end
section
variable {S : Sta} {H : Hp} {ι : Ids}
theorem pairsT_of : ∀ {us : List T} {vs : List V} {ps : List (Key × T)}, pairsT us = some ps → Reps S H ι vs us → ∃ (as : List Addr) (more : List (Key × V)), vs = as.map V.ref ∧ Paired (fun p kv => SqT S.K H p [kV kv.1, kv.2]) as more ∧ more.map (·.1) = ps.map (·.1) ∧ Reps S H ι (more.map (·.2)) (ps.map (·.2))
  | [], _, _, e, r => by
    cases e
    cases r
    exact ⟨[], [], rfl, .nil, rfl, .nil⟩
  | u :: us, _, _, e, r => by
    unfold pairsT at e
    split at e
    · rename_i eq; cases eq
    · rename_i k v ts eq
      cases eq
      split at e
      · rename_i k' r' e1 e2
        cases e
        cases r with
        | cons h q =>
          obtain ⟨as, more, rfl, h1, h2, h3⟩ := pairsT_of e2 q
          cases h with
          | @tup a ws _ hx qx =>
            obtain ⟨x, y, rfl, rx, ry⟩ := reps2 qx
            have := keyT_of e1 rx
            subst this
            exact ⟨a :: as, (k', y) :: more, rfl, .cons hx.sq h1, by rw [List.map_cons, List.map_cons, h2], .cons ry h3⟩
      · cases e
    · cases e
theorem mergeL_reps : ∀ {ps : List (Key × T)} {more : List (Key × V)} {p : List Key × List V} {q : List Key × List T}, more.map (·.1) = ps.map (·.1) → Reps S H ι (more.map (·.2)) (ps.map (·.2)) → p.1 = q.1 → Reps S H ι p.2 q.2 →
    (mergeL more p).1 = (mergeL ps q).1 ∧ Reps S H ι (mergeL more p).2 (mergeL ps q).2
  | [], [], _, _, _, _, e, r => ⟨e, r⟩
  | [], _ :: _, _, _, h, _, _, _ => by simp at h
  | _ :: _, [], _, _, h, _, _, _ => by simp at h
  | (k, t) :: ps, (k', v) :: more, p, q, h, rr, e, r => by
    rw [List.map_cons, List.map_cons] at h
    injection h with h1 h2
    obtain rfl : k' = k := h1
    cases rr with
    | cons rv rs =>
      show (mergeL more (putL p.1 p.2 k' v)).1 = (mergeL ps (putL q.1 q.2 k' t)).1 ∧ Reps S H ι (mergeL more (putL p.1 p.2 k' v)).2 (mergeL ps (putL q.1 q.2 k' t)).2
      refine mergeL_reps h2 rs ?_ ?_
      · rw [e]; exact putL_keys _ _ _ _ _ _
      · rw [e]; exact putL_reps rv r
theorem paired_len {α β : Type} {F : α → β → Prop} : ∀ {a : List α} {b : List β}, Paired F a b → a.length = b.length
  | _, _, .nil => rfl
  | _, _, .cons _ t => congrArg (· + 1) (paired_len t)
theorem mtT_upd : MtT S mUpd (rUpd S.K) := by
  intro W σ H ι μ x xs t ts Q hs r rs h
  unfold mUpd at h
  split at h
  · rename_i n us
    split at h
    · rename_i ks zs ps hm hp
      split at h
      · rename_i hl
        obtain ⟨d, rfl, hd, vs, hlen, hH, rr⟩ := hs.at hm r
        obtain ⟨v, rfl, rv⟩ := reps1 rs
        cases rv with
        | @lst a ws _ hx q =>
          obtain ⟨as, more, rfl, h1, h2, h3⟩ := pairsT_of hp q
          have f := Fut.write (o := .dK (mergeK (ks.zip vs) more)) (inL hd) (hs.nlk hd) (H := H)
          have hml : more.length = ps.length := by have := congrArg List.length h2; simpa using this
          refine ⟨d, a, ks.zip vs, as, more, rfl, rfl, hH, hx.sq, h1, ?_, h .non _ ι f (hs.put hm (fun k z => by cases z) hd ⟨(mergeL more (ks, vs)).2, ?_, ?_, ?_⟩) .non⟩
          · rw [List.length_zip, ← hlen, Nat.min_self, hml, lim_eq]; exact hl
          · rw [← (mergeL_reps (H := H) (ι := ι) h2 h3 rfl rr (q := (ks, zs)) (p := (ks, vs))).1]
            exact mergeL_length more (ks, vs) hlen
          · rw [← (mergeL_reps (H := H) (ι := ι) h2 h3 rfl rr (q := (ks, zs)) (p := (ks, vs))).1, ← mergeL_zip more (ks, vs) hlen]
            exact upd_same
          · exact (mergeL_reps h2 (h3.fut f) rfl (rr.fut f) (q := (ks, zs)) (p := (ks, vs))).2
      · exact h.elim
    · exact h.elim
  · exact h.elim
/-- list(d) -/
def bListD (ts : List T) : M T := fun μ => match ts with
  | [.obj n] => match μ[n]? with
    | some (some (.dic ks _)) => .ok (.lst (ks.map unKey)) μ
    | _ => bList [.obj n] μ
  | ts => bList ts μ
theorem map_zip1 : ∀ {ks : List Key} {vs : List V}, ks.length = vs.length → (ks.zip vs).map (fun kv => kV kv.1) = ks.map kV
  | [], [], _ => rfl
  | k :: ks, v :: vs, h => by rw [List.zip_cons_cons, List.map_cons, List.map_cons, map_zip1 (by simpa using h)]
  | [], _ :: _, h => by simp at h
  | _ :: _, [], h => by simp at h
theorem callT_listD : CallT S bListD (fun xs H Q => (∃ p ys, xs = [.ref p] ∧ (SqL S.K H p ys ∨ SqT S.K H p ys) ∧ ∀ l, H l = none → Q (.ref l) (upd H l (.lst ys))) ∨ rListD xs H Q) := by
  intro W σ H ι μ xs ts Q hs r h
  unfold bListD at h
  split at h
  · rename_i n
    split at h
    · rename_i ks zs hm
      obtain ⟨x, rfl, rx⟩ := reps1 r
      obtain ⟨d, rfl, hd, vs, hlen, hH, rr⟩ := hs.at hm rx
      refine .inr ⟨d, ks.zip vs, rfl, hH, fun q hq => ?_⟩
      rw [map_zip1 hlen]
      exact Pst.new h hs hq (Rep.newL hs hq (reps_keys ks))
    · exact .inl (callT_list W σ H ι μ xs _ Q hs r h)
  · exact .inl (callT_list W σ H ι μ xs _ Q hs r h)
end
/-! ### {k: v, ..} -/
def prL : List ((Env → M T) × (Env → M T)) → Env → M (List (T × T))
  | [], _ => ret []
  | (a, b) :: r, ρ => bnd (a ρ) fun x => bnd (b ρ) fun y => bnd (prL r ρ) fun zs => ret ((x, y) :: zs)
def keysT : List (T × T) → Option (List (Key × T))
  | [] => some []
  | (k, v) :: r => match keyT k, keysT r with
    | some k, some r => some ((k, v) :: r)
    | _, _ => none
def mFin (n : Nat) (ps : List (T × T)) : M T := fun μ => match μ[n]?, keysT ps with
  | some (some (.dic [] [])), some kvs => if kvs.length ≤ 15 then .ok (.obj n) (μ.set n (some (.dic (mergeL kvs ([], [])).1 (mergeL kvs ([], [])).2))) else .bad
  | _, _ => .bad
def cDisp (fs : List ((Env → M T) × (Env → M T))) : Env → M T := fun ρ μ => bnd (prL fs ρ) (mFin μ.length) (μ ++ [some (.dic [] [])])
inductive RepP (S : Sta) (H : Hp) (ι : Ids) : List (V × V) → List (T × T) → Prop
  | nil : RepP S H ι [] []
  | cons {x y : V} {t u : T} {vs : List (V × V)} {ts : List (T × T)} : Rep S H ι x t → Rep S H ι y u → RepP S H ι vs ts → RepP S H ι ((x, y) :: vs) ((t, u) :: ts)
theorem keysT_of {S : Sta} {H : Hp} {ι : Ids} : ∀ {ps : List (T × T)} {vs : List (V × V)} {kvs : List (Key × T)}, keysT ps = some kvs → RepP S H ι vs ps → ∃ more : List (Key × V), vs = more.map (fun kv => (kV kv.1, kv.2)) ∧ more.map (·.1) = kvs.map (·.1) ∧ Reps S H ι (more.map (·.2)) (kvs.map (·.2))
  | [], _, _, e, r => by
    cases e
    cases r
    exact ⟨[], rfl, rfl, .nil⟩
  | (k, v) :: ps, _, _, e, r => by
    unfold keysT at e
    split at e
    · rename_i k' r' e1 e2
      cases e
      cases r with
      | cons rx ry rr =>
        obtain ⟨more, rfl, h1, h2⟩ := keysT_of e2 rr
        have := keyT_of e1 rx
        subst this
        exact ⟨(k', _) :: more, rfl, by rw [List.map_cons, List.map_cons, h1], .cons ry h2⟩
    · cases e
section
variable {X : Cx} {S : Sta} {W : WX} {pos : Pos}
theorem pr_then {ρ : Env} {σ : L2.St} : ∀ {fs : List ((Env → M T) × (Env → M T))} {γ δ : Type} {rel : Hp → Ids → δ → γ → Prop} {k : List (T × T) → M γ} {H : Hp} {ι : Ids} {μ : Store} {Q : δ → Hp → Prop}, RepE S H ι σ ρ → StRep S H ι μ → Pst S W σ H ι rel (bnd (prL fs ρ) k μ) Q →
    ∀ {R : List (V × V) → Hp → Prop}, (∀ x H1 ι1 μ1 t, RepE S H1 ι1 σ ρ → StRep S H1 ι1 μ1 → Fut H ι H1 ι1 → RepP S H1 ι1 x t → Pst S W σ H1 ι1 rel (k t μ1) Q → R x H1) →
    tPairs (fs.map fun p => (tEv S W p.1, tEv S W p.2)) σ H R
  | [], _, _, _, _, _, _, _, _, he, hs, h, _, next => next [] _ _ _ [] he hs (Fut.refl _ _) .nil h
  | (a, b) :: fs, γ, δ, rel, k, H, ι, μ, Q, he, hs, h, R, next => by
    have h' : Pst S W σ H ι rel (bnd (a ρ) (fun x => bnd (b ρ) fun y => bnd (prL fs ρ) fun zs => k ((x, y) :: zs)) μ) Q := by
      have e : bnd (prL ((a, b) :: fs) ρ) k μ = bnd (a ρ) (fun x => bnd (b ρ) fun y => bnd (prL fs ρ) fun zs => k ((x, y) :: zs)) μ := by
        show bnd (bnd (a ρ) fun x => bnd (b ρ) fun y => bnd (prL fs ρ) fun zs => ret ((x, y) :: zs)) k μ = _
        unfold bnd
        cases a ρ μ with
        | bad => rfl
        | ex e μ => rfl
        | ok x μ1 =>
          dsimp only
          cases b ρ μ1 with
          | bad => rfl
          | ex e μ => rfl
          | ok y μ2 =>
            dsimp only
            cases prL fs ρ μ2 with
            | bad => rfl
            | ex e μ => rfl
            | ok z μ3 => rfl
      rw [← e]; exact h
    exact ev_then he hs h' fun x H1 ι1 μ1 t he1 hs1 f1 r1 h1 => ev_then he1 hs1 h1 fun y H2 ι2 μ2 u he2 hs2 f2 r2 h2 =>
      pr_then he2 hs2 h2 fun ps H3 ι3 μ3 ts he3 hs3 f3 r3 h3 => next _ H3 ι3 μ3 _ he3 hs3 (f1.trans (f2.trans f3)) (.cons ((r1.fut f2).fut f3) (r2.fut f3) r3) h3
theorem pv_disp {keys : List (Option Expr)} {values : List Expr} {fs : List ((Env → M T) × (Env → M T))} (h : PPs X pos keys values (fs.map fun p => (tEv S W p.1, tEv S W p.2))) (hall : keys.all (·.isSome) = true) (hl : keys.length = values.length) (h0 : keys ≠ []) (h15 : keys.length ≤ 15) :
    PV X S W (.Dict keys values pos) (cDisp fs) :=
  PE.weak (pe_disp h hall hl h0 h15) fun σ H Q ⟨ρ, ι, μ, he, hs, h⟩ p hp => by
    have f0 : Fut H ι (upd H p (.dK [])) (ι.snoc p) := Fut.newM hs.tk hp
    have s0 : StRep S (upd H p (.dK [])) (ι.snoc p) (μ ++ [some (.dic [] [])]) := hs.newM hp ⟨[], rfl, upd_same, .nil⟩
    have hn : (ι.snoc p).l[μ.length]? = some (some p) := by show (ι.l ++ [some p])[μ.length]? = _; rw [← hs.len, List.getElem?_append_right (Nat.le_refl _), Nat.sub_self]; rfl
    refine pr_then (he.fut f0) s0 (Pst.later f0 h) fun ps H2 ι2 μ2 ts he2 hs2 f2 r2 h2 => ?_
    unfold mFin at h2
    split at h2
    · rename_i kvs hm hk
      split at h2
      · rename_i hle
        obtain ⟨p', hp', vs, hlen, hH, rr⟩ := hs2.obj _ _ hm
        have hpp : p' = p := by
          rcases f2.ids _ _ hn with z | z
          · rw [hp'] at z; cases z; rfl
          · rw [hp'] at z; cases z
        subst hpp
        obtain ⟨more, rfl, h1, h3⟩ := keysT_of hk r2
        cases rr
        refine ⟨hH, more, rfl, by have := congrArg List.length h1; simp at this; omega, ?_⟩
        have f := Fut.write (o := .dK (mergeK [] more)) (inL hp') (hs2.nlk hp') (H := H2)
        refine h2 (.ref p') _ ι2 f (hs2.put hm (fun k z => by cases z) hp' ⟨(mergeL more ([], [])).2, ?_, ?_, ?_⟩) (.obj hp')
        · rw [← (mergeL_reps (H := H2) (ι := ι2) h1 h3 rfl .nil (q := ([], [])) (p := ([], []))).1]
          exact mergeL_length more ([], []) rfl
        · rw [← (mergeL_reps (H := H2) (ι := ι2) h1 h3 rfl .nil (q := ([], [])) (p := ([], []))).1, ← mergeL_zip more ([], []) rfl]
          exact upd_same
        · exact (mergeL_reps h1 (h3.fut f) rfl .nil (q := ([], [])) (p := ([], []))).2
      · exact h2.elim
    · exact h2.elim
end
end Tw

/-! TwE: enumerate over a tuple -/
namespace Tw
open PySem L2 PyProof.Rows
set_option maxHeartbeats 4000000 in
theorem meets_enum1 {v : Value} {o : Obj} {H : Heap → Prop} (B : Begins v o H) :
    Meets (Builtin.«enumerate.__new__» ⟨[.type "enumerate", v], []⟩) (fun _ R s => H s.heap ∧
      R (.ok (.ret (.ref (s.heap.push o).objs.size))) { s with heap := (s.heap.push o).push { cls := .type "enumerate", data := .fields #[.none, .bool false, .ref s.heap.objs.size, rawInt 0, .none, .none] } }) :=
  .of_wp fun prog w A R s h => by
    obtain ⟨hp, g, d, tk, os⟩ := s; obtain ⟨h1, h⟩ := h
    have hsub := sub_enumerate
    have q1 : ∀ {A' : Around} {E : Value → Shared → Prop} {Q : Value → Shared → Prop}, Q (.ref hp.objs.size) ⟨hp.push o, g, d, tk, os⟩ → wpAny (model prog w) A' (pyIter v) Q E ⟨hp, g, d, tk, os⟩ :=
      fun q => B.iter prog w _ _ ⟨hp, g, d, tk, os⟩ _ h1 q
    wp_walk using q1
    refine wpAny_stack_any fun st => wpAny_pure ?_
    split
    · rename_i c _ _ _ _ _
      cases (c == Value.type "enumerate")
      · wp_walk using q1
        exact ⟨_, rfl, h⟩
      · wp_walk using q1
        exact ⟨_, rfl, h⟩
    · wp_walk using q1
      exact ⟨_, rfl, h⟩
section
variable {prog : Program} {w : World} {A : Around} {E : Value → Shared → Prop} {s : Shared}
theorem enum_begins1 {v : Value} {o : Obj} {H : Heap → Prop} {Q : Value → Shared → Prop} (B : Begins v o H) (h1 : H s.heap)
    (h : ∀ h', IsEnum h' (s.heap.objs.size + 1) s.heap.objs.size 0 .none → h'.get? s.heap.objs.size = some o → h'.objs.size = s.heap.objs.size + 2 →
      (∀ b o, s.heap.get? b = some o → h'.get? b = some o) → Q (.ref (s.heap.objs.size + 1)) { s with heap := h' }) :
    wpAny (model prog w) A (call (.type "enumerate") [v]) Q E s := by
  refine callType_new F.called_enumerate (by decide) (F.typeCall_enumerate_1 _) (F.newCall_enumerate_1 _) (fun obj => F.args_object_init_2 obj _) F.entry_enumerate_new
    (meets_enum1 B) ⟨h1, ?_⟩
  have hz : (s.heap.push o).objs.size = s.heap.objs.size + 1 := Heap.size_push ..
  show _ ∧ _
  rw [hz]
  have he : IsEnum ((s.heap.push o).push { cls := .type "enumerate", data := .fields #[.none, .bool false, .ref s.heap.objs.size, rawInt 0, .none, .none] }) (s.heap.objs.size + 1) s.heap.objs.size 0 .none := by
    have := Heap.get?_push_size (s.heap.push o) (o := { cls := .type "enumerate", data := .fields #[.none, .bool false, .ref s.heap.objs.size, rawInt 0, .none, .none] }) rfl
    rw [hz] at this; exact this
  refine ⟨⟨_, he, rfl⟩, h _ he (Heap.get?_push_of_some _ (Heap.get?_push_size _ B.free)) (by rw [Heap.size_push, hz]) fun b o x => Heap.get?_push_of_some _ (Heap.get?_push_of_some _ x)⟩
end
/-- the tuple at a, each item in a new pair -/
def IteT (K : PySem.W.Frag) (a : Addr) : It :=
  ⟨fun i H => ∃ (xs : List V) (x : V), SqT K H a xs ∧ xs[i]? = some x, fun i H v H' => ∃ T x, v = .ref T ∧ H T = none ∧ H' = upd H T (.tup [.int (i : Nat), x]) ∧ ∀ xs, SqT K H a xs → xs[i]? = some x, fun i H => ∃ xs : List V, SqT K H a xs ∧ xs.length = i⟩
theorem turn_enumT {P : Program} {w : World} {K : PySem.W.Frag} {elts : List Expr} {kk : Nat} {tpos : Pos} (a e it : Addr) (hae : a ≠ e) (hai : a ≠ it) :
    Turn P w K (.Tuple elts kk tpos) (IteT K a) [e, it] e (fun i h => (∃ old, IsEnum h e it ((i : Nat) : Int) old) ∧ h.IsTupleIter it a i ∧ e ≠ it) where
  mem := by simp
  obj := fun i h st b hb => by
    obtain ⟨⟨old, he⟩, ⟨o, ho, hc, hd⟩, _⟩ := st
    have e' : b = e ∨ b = it := by simpa using hb
    rcases e' with z | z
    · rw [z]; exact ⟨_, he, fun v q => nomatch q⟩
    · rw [z]; exact ⟨o, ho, fun v q => by rw [hd] at q; cases q⟩
  keep := fun i h h' st k => let ⟨⟨old, he⟩, hi, hne⟩ := st; ⟨⟨old, k e (by simp) _ he⟩, hi.at fun o q => k it (by simp) o q, hne⟩
  item := by
    intro X hP hw hK hc i pins s σ H E I hf st hg
    subst hP hw hK
    obtain ⟨⟨old, he⟩, hit, hne⟩ := st
    obtain ⟨xs, x, hq, hx⟩ := hg
    obtain ⟨its, rv, p, hz⟩ := I.tuple hq
    obtain ⟨u, hu, ru⟩ := rv.get hx
    have hel : e < s.heap.objs.size := Heap.lt_size he
    have hil : it < s.heap.objs.size := by obtain ⟨_, q, _⟩ := hit; exact Heap.lt_size q
    have D := Draws.tuple (prog := X.prog) (w := X.w) (A := X.A.in1) (I.ok.hd hc) it a hai its.toArray
    have hlt : i < its.toArray.size := by
      have := (List.getElem?_eq_some_iff.mp hu).1
      simpa using this
    refine wpAny_pyNext_enum_itemD D he ⟨hit, p⟩ hlt hne (by simp only [List.mem_cons, List.mem_nil_iff, or_false, not_or]; exact ⟨hne, Ne.symm hae⟩) fun x' h' tk hP ho hit' hT hsz hk => ?_
    have hxu : x' = u := by
      have h1 : its[i]? = some x' := by simpa using hP
      rw [hu] at h1
      exact (Option.some.inj h1).symm
    subst hxu
    refine ⟨_, rfl, wpAny_letOwnedTupleGo_enum (s := { s with heap := h', toks := tk + 1 }) ho fun h'' he' sb => ?_⟩
    have hT2 : h''.get? s.heap.objs.size = some { cls := .type "tuple", data := .seq #[.int i tk, x'] } := (sb.2 _ (Nat.ne_of_gt hel)).trans hT
    have new : ObjOk X.prog X.w (upd H s.heap.objs.size (.tup [.int (i : Nat), x])) h'' s.heap.objs.size (.tup [.int (i : Nat), x]) :=
      ⟨by show 2 ≤ sizeLine; decide, [.int i tk, x'], .cons ⟨_, rfl⟩ (.cons ru .nil), ⟨_, hT2, rfl, _, rfl⟩⟩
    have I1 : Inv X pins σ (upd H s.heap.objs.size (.tup [.int (i : Nat), x])) { s with heap := h'', toks := tk + 1 } :=
      I.turnedNew (ch := [e, it]) (fun b ob hb q => (sb.2 b (fun z => hb (by simp [z]))).trans (hk b ob (fun z => hb (by simp [z])) (fun z => hb (by simp [z])) q)) hf (Nat.le_refl _) new
    refine ⟨.ref s.heap.objs.size, _, I1, rfl, ⟨_, x, rfl, I.hok.fresh (Nat.le_refl _), rfl, fun ys hy => ?_⟩, ⟨⟨x', ?_⟩, hit'.1.at fun o q => (sb.2 it (Ne.symm hne)).trans q, hne⟩, fun b hb => ?_⟩
    · rw [I.tuple_inj hy hq]; exact hx
    · have e1 : ((i + 1 : Nat) : Int) = (i : Int) + 1 := by omega
      rw [e1]; exact he'
    · have hb' : b < s.heap.objs.size := by
        have e' : b = e ∨ b = it := by simpa using hb
        rcases e' with z | z
        · rw [z]; exact hel
        · rw [z]; exact hil
      rw [upd_ne (Nat.ne_of_lt hb')]
      exact (hf b hb).1
  done := by
    intro X hP hw hK hc i pins s σ H E I hf st hg
    subst hP hw hK
    obtain ⟨⟨old, he⟩, hit, hne⟩ := st
    obtain ⟨xs, hq, hx⟩ := hg
    obtain ⟨its, rv, p, hz⟩ := I.tuple hq
    obtain ⟨f0, f1, f2, f3, f4, f5⟩ := hf it (by simp)
    have hl := rv.length
    have D := Draws.tuple (prog := X.prog) (w := X.w) (A := X.A.in1) (I.ok.hd hc) it a hai its.toArray
    have en : its.toArray.size = i := by rw [List.size_toArray]; omega
    exact wpAny_pyNext_enum_endD D he ⟨by rw [en]; exact hit, p⟩ fun h' eb => ⟨rfl, I.turned (t' := s.toks) (fun b o hb q => eb b o hb q) f0 f1 f3 f4 f5⟩
  self := fun A i s Q E st h => let ⟨⟨_, he⟩, _⟩ := st; wpAny_pyIter_enum he h
def iEnumA (K : PySem.W.Frag) (ta : TA) : TI := fun σ H R => ta σ H fun vs H1 => ∃ a xs, vs = [.ref a] ∧ ((SqL K H1 a xs ∧ R (Ite K a) H1) ∨ (SqT K H1 a xs ∧ R (IteT K a) H1))
theorem pi_enumA {X : Cx} {e : Expr} {ta : TA} {p pos tpos : Pos} {elts : List Expr} {kk : Nat} (hg : Gl X "enumerate") (hm : X.mg "enumerate" = none) (ha : PA X [e] ta) (hs : starEach [e] X.env = [(false, eval e X.env)]) :
    PI X (.Tuple elts kk tpos) (.Call (.Name "enumerate" p) [e] [] pos) (iEnumA X.K ta) := by
  refine ⟨fun pins s σ H R I h => ?_⟩
  refine Call_ (ld_blt I hg hm boot_enumerate (PyProof.Rows.callWith_type1 (thn (ha.run pos pins s σ H _ I h) fun us s1 ⟨vs, H1, I1, r1, q1⟩ => ?_) hs rfl))
  obtain ⟨a, xs, ex, q⟩ := q1
  subst ex
  cases r1 with
  | cons r rr =>
    cases rr
    cases r
    have fpo : ∀ b, b ∈ [s1.heap.objs.size + 1, s1.heap.objs.size] → FpOk X pins H1 b := fun b hb => by
      have e' : b = s1.heap.objs.size + 1 ∨ b = s1.heap.objs.size := by simpa using hb
      have hle : s1.heap.objs.size ≤ b := by
        rcases e' with z | z
        · rw [z]; exact Nat.le_add_right _ _
        · rw [z]; exact Nat.le_refl _
      exact I1.fpOk hle (I1.hok.fresh hle)
    rcases q with ⟨hq, q⟩ | ⟨hq, q⟩
    · obtain ⟨its, rv, p', hz⟩ := I1.list hq
      refine call_enumerate_list p'.isList fun h' he hit hsz hk => wpAny_pyIter_enum he ?_
      have I2 : Inv X pins σ H1 { s1 with heap := h' } := I1.kept (t' := s1.toks) hk
      exact ⟨s1.heap.objs.size + 1, [s1.heap.objs.size + 1, s1.heap.objs.size], _, _, H1, rfl, I2, turn_enum a (s1.heap.objs.size + 1) s1.heap.objs.size, ⟨⟨.none, he⟩, hit, Nat.succ_ne_self _⟩, fpo, q⟩
    · obtain ⟨its, rv, p', hz⟩ := I1.tuple hq
      have hal : a < s1.heap.objs.size := by obtain ⟨_, q, _⟩ := p'; exact Heap.lt_size q
      refine enum_begins1 (begins_tuple a its.toArray) p' fun h' he hit hsz hk => wpAny_pyIter_enum he ?_
      have I2 : Inv X pins σ H1 { s1 with heap := h' } := I1.kept (t' := s1.toks) hk
      exact ⟨s1.heap.objs.size + 1, [s1.heap.objs.size + 1, s1.heap.objs.size], _, _, H1, rfl, I2, turn_enumT a (s1.heap.objs.size + 1) s1.heap.objs.size (Nat.ne_of_lt (Nat.lt_succ_of_lt hal)) (Nat.ne_of_lt hal), ⟨⟨.none, he⟩, ⟨_, hit, rfl, rfl⟩, Nat.succ_ne_self _⟩, fpo, q⟩
section
variable {S : Sta} {X : Cx} {W : WX} {pos : Pos}
theorem wlk_enumT {K : PySem.W.Frag} {a : Addr} {vs : List V} {ts : List T} {H : Hp} {ι : Ids} (hK : K = S.K) (hx : RT S.K H ι a vs) (q : Reps S H ι vs ts) : Wlk S (IteT K a) (enT ts) H ι := fun Hc ιc μc f s => by
  subst hK
  have hc := (hx.fut f).sq
  refine ⟨fun i t e => ?_, vs, hc, by rw [enT_length, q.length]⟩
  obtain ⟨b, e0, rfl⟩ := enT_get e
  obtain ⟨v, e1, r1⟩ := q.get e0
  exact ⟨⟨vs, v, hc, e1⟩, fun x H2 ⟨p, w, h1, hp, h2, h3⟩ => by
    subst h1; subst h2
    have := h3 vs hc
    rw [e1] at this
    cases this
    exact rep_pair s hp (.int _) (r1.fut0 f)⟩
def mEnu (ts : List T) : M (List T) := match ts with
  | [.lst a] => ret (enT a)
  | [.tup a] => ret (enT a)
  | _ => bad
def iEn (a : Env → M (List T)) : Env → M (List T) := fun ρ => bnd (a ρ) mEnu
theorem pvi_enum {e : Expr} {fa : Env → M (List T)} {p tpos : Pos} {elts : List Expr} {kk : Nat} (hK : X.K = S.K) (hg : Gl X "enumerate") (hm : X.mg "enumerate" = none) (ha : PVa X S W [e] fa) (hst : starEach [e] X.env = [(false, eval e X.env)]) :
    PVi X S W (.Tuple elts kk tpos) (.Call (.Name "enumerate" p) [e] [] pos) (iEn fa) :=
  PI.weak (pi_enumA hg hm ha hst) fun σ H R ⟨ρ, ι, μ, he, hs, h⟩ => av_then he hs h fun vs H1 ι1 μ1 ts he1 hs1 f1 r1 h1 => by
    rw [hK]
    unfold mEnu at h1
    split at h1
    · obtain ⟨x, rfl, rx⟩ := reps1 r1
      cases rx with
      | lst hx q => exact ⟨_, _, rfl, .inl ⟨hx.sq, h1 _ H1 ι1 (Fut.refl _ _) hs1 (wlk_enum rfl hx q)⟩⟩
    · obtain ⟨x, rfl, rx⟩ := reps1 r1
      cases rx with
      | tup hx q => exact ⟨_, _, rfl, .inr ⟨hx.sq, h1 _ H1 ι1 (Fut.refl _ _) hs1 (wlk_enumT rfl hx q)⟩⟩
    · exact h1.elim
end
end Tw

/-! Tw7: list comprehensions -/
namespace Tw
open PySem L2

def wipeE (ρ : Env) : List Nat → Env
  | [] => ρ
  | v :: vs => (wipeE ρ vs).set v none
theorem wipe_in {σ : L2.St} {i : Nat} : ∀ {vs : List Nat}, i ∈ vs → i < σ.length → (wipe σ vs)[i]? = some none
  | v :: vs, h, hl => by
    unfold wipe
    by_cases hi : v = i
    · subst hi
      exact List.getElem?_set_self (by rw [wipe_length]; exact hl)
    · rw [List.getElem?_set_ne hi]
      refine wipe_in ?_ hl
      rcases List.mem_cons.mp h with e | e
      · exact absurd e.symm hi
      · exact e
theorem wipe_get {σ : L2.St} {i : Nat} (vs : List Nat) : (wipe σ vs)[i]? = if i ∈ vs then (if i < σ.length then some none else none) else σ[i]? := by
  by_cases h : i ∈ vs
  · rw [if_pos h]
    by_cases hl : i < σ.length
    · rw [if_pos hl, wipe_in h hl]
    · rw [if_neg hl]
      exact List.getElem?_eq_none (by rw [wipe_length]; omega)
  · rw [if_neg h, wipe_out h]
theorem wipe_ext {σ σ' : L2.St} {vs : List Nat} (hl : σ'.length = σ.length) (h : ∀ j, j ∉ vs → σ'[j]? = σ[j]?) : wipe σ' vs = wipe σ vs := by
  apply List.ext_getElem?
  intro i
  rw [wipe_get, wipe_get, hl]
  split
  · rfl
  · rename_i hi
    exact h i hi
theorem wipe_wipe {σ : L2.St} {vs : List Nat} : wipe (wipe σ vs) vs = wipe σ vs := wipe_ext (wipe_length σ vs) fun j hj => wipe_out hj
theorem wipeE_length (ρ : Env) : ∀ vs : List Nat, (wipeE ρ vs).length = ρ.length
  | [] => rfl
  | v :: vs => by unfold wipeE; rw [List.length_set, wipeE_length ρ vs]
theorem wipeE_some {ρ : Env} {i : Nat} {x : T} : ∀ {vs : List Nat}, (wipeE ρ vs)[i]? = some (some x) → ρ[i]? = some (some x) ∧ i ∉ vs
  | [], h => ⟨h, by simp⟩
  | v :: vs, h => by
    unfold wipeE at h
    by_cases hi : v = i
    · subst hi
      by_cases hv : v < (wipeE ρ vs).length
      · rw [List.getElem?_set_self hv] at h; cases h
      · rw [List.getElem?_eq_none (by simpa using hv)] at h; cases h
    · rw [List.getElem?_set_ne hi] at h
      obtain ⟨h1, h2⟩ := wipeE_some h
      exact ⟨h1, by simp only [List.mem_cons, not_or]; exact ⟨fun e => hi e.symm, h2⟩⟩
theorem RepE.wipe {S : Sta} {H : Hp} {ι : Ids} {σ : L2.St} {ρ : Env} (h : RepE S H ι σ ρ) (vs : List Nat) : RepE S H ι (wipe σ vs) (wipeE ρ vs) :=
  ⟨by rw [wipe_length, wipeE_length]; exact h.1, fun i t e => by
    obtain ⟨e1, e2⟩ := wipeE_some e
    obtain ⟨v, h1, h2⟩ := h.2 i t e1
    exact ⟨v, by rw [wipe_out e2]; exact h1, h2⟩⟩

/-- the list in the making is locked -/
abbrev Ids.lock (ι : Ids) (p : Addr) : Ids := ⟨ι.l, p :: ι.lk⟩
abbrev Ids.unlock (ι : Ids) (p : Addr) : Ids := ⟨ι.l, ι.lk.filter fun a => decide (a ≠ p)⟩
section
variable {S : Sta} {H : Hp} {ι : Ids} {μ : Store} {p : Addr}
theorem Fut.lock {o : HO} (s : StRep S H ι μ) (h : H p = none) : Fut H ι (upd H p o) (ι.lock p) := by
  refine ⟨⟨fun n o h => .inl h, fun b u e n => ⟨by rw [upd_ne (ne_of_none e h)]; exact e, fun z => ?_⟩⟩, fun a ha => ⟨List.mem_cons_of_mem _ ha, ?_⟩⟩
  · rcases z with z | z
    · exact n (.inl z)
    · rcases List.mem_cons.mp z with z | z
      · rw [z, h] at e; cases e
      · exact n (.inr z)
  · obtain ⟨u, q⟩ := s.tk a ha
    exact upd_ne (ne_of_none q h)
theorem StRep.lock {o : HO} (s : StRep S H ι μ) (h : H p = none) : StRep S (upd H p o) (ι.lock p) μ where
  len := s.len
  nd := s.nd
  obj := fun n m q => let ⟨a, ha, r⟩ := s.obj n m q; ⟨a, ha, r.fut (Fut.lock s h).toFu0 (fun u e => by rw [upd_ne (ne_of_none e h)]; exact e) fun k dx h1 h2 => ⟨h1, h2, fun u e => by rw [upd_ne (ne_of_none e h)]; exact e⟩⟩
  gone := s.gone
  lks := fun a ha => by
    rcases List.mem_cons.mp ha with e | e
    · subst e
      exact ⟨⟨o, upd_same⟩, fun z => s.fresh h (.inl z)⟩
    · obtain ⟨⟨u, q⟩, n⟩ := s.lks a e
      exact ⟨⟨u, by rw [upd_ne (ne_of_none q h)]; exact q⟩, n⟩
/-- the locked list grows -/
theorem Fu0.grown {o : HO} (h : p ∈ ι.lk) : Fu0 H ι (upd H p o) ι := ⟨fun _ _ h => .inl h, fun b u e n => ⟨by
  have : b ≠ p := fun z => n (.inr (z ▸ h))
  rw [upd_ne this]; exact e, n⟩⟩
theorem StRep.grown {o : HO} (s : StRep S H ι μ) (h : p ∈ ι.lk) : StRep S (upd H p o) ι μ where
  len := s.len
  nd := s.nd
  obj := fun n m q => by
    obtain ⟨a, ha, r⟩ := s.obj n m q
    have ne : ∀ (k : Nat) b, ι.l[k]? = some (some b) → b ≠ p := fun k b hb z => (s.lks p h).2 (inL (z ▸ hb))
    exact ⟨a, ha, r.fut (Fu0.grown h) (fun u e => by rw [upd_ne (ne n a ha)]; exact e) fun k dx h1 h2 => ⟨h1, h2, fun u e => by rw [upd_ne (ne k dx h1)]; exact e⟩⟩
  gone := s.gone
  lks := fun a ha => by
    obtain ⟨⟨u, q⟩, n⟩ := s.lks a ha
    by_cases e : a = p
    · subst e
      exact ⟨⟨o, upd_same⟩, n⟩
    · exact ⟨⟨u, by rw [upd_ne e]; exact q⟩, n⟩
theorem Fu0.unlock : Fu0 H ι H (ι.unlock p) := ⟨fun _ _ h => .inl h, fun b u e n => ⟨e, fun z => n (z.imp id fun z => (List.mem_filter.mp z).1)⟩⟩
theorem StRep.unlock (s : StRep S H ι μ) : StRep S H (ι.unlock p) μ where
  len := s.len
  nd := s.nd
  obj := fun n m q => let ⟨a, ha, r⟩ := s.obj n m q; ⟨a, ha, r.fut Fu0.unlock (fun u e => e) fun k dx h1 h2 => ⟨h1, h2, fun u e => e⟩⟩
  gone := s.gone
  lks := fun a ha => s.lks a (List.mem_filter.mp ha).1
end

/-- what raises within does not go on -/
def noX {α : Type} (m : M α) : M α := fun μ => match m μ with
  | .ok a μ' => .ok a μ'
  | _ => .bad
def lcL : List T → (T → M (Option T)) → List T → M (List T)
  | [], _, acc => ret acc
  | t :: ts, b, acc => bnd (b t) fun o => match o with
    | some y => if acc.length < lim then lcL ts b (acc ++ [y]) else bad
    | none => lcL ts b acc
/-- a turn: the target, the tests, the element -/
def lcB (f : T → Env → Option Env) (c : Env → M Bool) (a : Env → M T) (ρ : Env) (t : T) : M (Option T) := match f t ρ with
  | some ρ' => bnd (c ρ') fun k => if k then bnd (a ρ') fun y => ret (some y) else ret none
  | none => bad
def lcT (f : T → Env → Option Env) (c : Env → M Bool) (a : Env → M T) (ρ : Env) (t : T) : M (Option T) := noX (lcB f c a ρ t)
def cLc (it : Env → M (List T)) (f : T → Env → Option Env) (c : Env → M Bool) (a : Env → M T) (vs : List Nat) : Env → M T := fun ρ => bnd (it ρ) fun ts => bnd (lcL ts (lcT f c a (wipeE ρ vs)) []) fun us => ret (.lst us)
def cYes : Env → M Bool := fun _ => ret true
abbrev W0 : WX := fun _ _ _ _ => False
theorem PTs.weak {X : Cx} {ifs : List Expr} {t t' : TT} (h : PTs X ifs t) (w : ∀ σ H Q, t' σ H Q → t σ H Q) : PTs X ifs t' := ⟨fun pins s σ H Q I q => h.run pins s σ H Q I (w σ H Q q)⟩
theorem pts_of_nil {X : Cx} {S : Sta} {W : WX} : PTs X [] (tTv S W cYes) := PTs.weak pts_nil fun σ H Q ⟨ρ, ι, μ, he, hs, h⟩ => Pst.now h hs rfl
theorem noX_ok {α : Type} {m : M α} {μ μ' : Store} {a : α} (h : noX m μ = .ok a μ') : m μ = .ok a μ' := by
  unfold noX at h
  split at h
  · rename_i e
    cases h
    exact e
  · cases h
theorem bnd_congr {α β : Type} {m m' : M α} {k : α → M β} {μ μ' : Store} (h : m μ = m' μ') : bnd m k μ = bnd m' k μ' := by unfold bnd; rw [h]
theorem bnd_inv {α β : Type} {m : M α} {k : α → M β} {μ μ' : Store} {b : β} (h : bnd m k μ = .ok b μ') : ∃ a μ1, m μ = .ok a μ1 ∧ k a μ1 = .ok b μ' := by
  unfold bnd at h
  cases e : m μ with
  | ok a μ1 => rw [e] at h; exact ⟨a, μ1, rfl, h⟩
  | ex x μ1 => rw [e] at h; cases h
  | bad => rw [e] at h; cases h
theorem lc_then {S : Sta} {W : WX} {σ : L2.St} {fi : Env → M (List T)} {f : T → Env → Option Env} {is vs : List Nat} {fc : Env → M Bool} {fa : Env → M T} (hv : ∀ i ∈ is, i ∈ vs) {H : Hp} {Q : VK} (h : tEv S W (cLc fi f fc fa vs) σ H Q) :
    tLc (tIv S W fi) (tGv S is f) (tTv S W0 fc) (tEv S W0 fa) vs σ H Q := by
  obtain ⟨ρ, ι, μ, he, hs, h⟩ := h
  refine ⟨ρ, ι, μ, he, hs, (Pst.seq (rel := fun H' ι' J ts => Wlk S J ts H' ι') h).mono fun J H1 ⟨ι1, μ1, ts, f1, hs1, w, h1⟩ D hD => ?_⟩
  have he1 := he.fut f1
  have inv0 : ∃ ι μ accV accT, Fut H1 ι1 (upd H1 D (.lst [])) ι ∧ StRep S (upd H1 D (.lst [])) ι μ ∧ D ∈ ι.lk ∧ upd H1 D (.lst []) D = some (.lst accV) ∧ Reps S (upd H1 D (.lst [])) ι accV accT ∧
      Pst S W σ H1 ι1 (Rep S) (bnd (lcL (ts.drop 0) (lcT f fc fa (wipeE ρ vs)) accT) (fun us => ret (.lst us)) μ) Q :=
    ⟨ι1.lock D, μ1, [], [], Fut.lock hs1 hD, hs1.lock hD, List.mem_cons_self, upd_same, .nil, by rw [List.drop_zero]; exact h1⟩
  refine ⟨fun i m H => m = ts.length - i ∧ i ≤ ts.length ∧ ∃ ι μ accV accT, Fut H1 ι1 H ι ∧ StRep S H ι μ ∧ D ∈ ι.lk ∧ H D = some (.lst accV) ∧ Reps S H ι accV accT ∧
      Pst S W σ H1 ι1 (Rep S) (bnd (lcL (ts.drop i) (lcT f fc fa (wipeE ρ vs)) accT) (fun us => ret (.lst us)) μ) Q, ⟨ts.length, by simp, Nat.zero_le _, inv0⟩, ?_⟩
  rintro i m H2 ⟨rfl, hi, ι2, μ2, accV, accT, f2, hs2, lk2, d2, r2, h2⟩
  obtain ⟨go, stop⟩ := w H2 ι2 μ2 f2.toFu0 hs2
  by_cases hlt : i < ts.length
  · refine .inr ?_
    have et : ts[i]? = some ts[i] := List.getElem?_eq_getElem hlt
    obtain ⟨g1, g2⟩ := go i _ et
    rw [List.drop_eq_getElem_cons hlt] at h2
    refine ⟨g1, fun H' => ∃ ι μ accV accT, Fut H1 ι1 H' ι ∧ StRep S H' ι μ ∧ D ∈ ι.lk ∧ H' D = some (.lst accV) ∧ Reps S H' ι accV accT ∧
      Pst S W σ H1 ι1 (Rep S) (bnd (lcL (ts.drop (i + 1)) (lcT f fc fa (wipeE ρ vs)) accT) (fun us => ret (.lst us)) μ) Q, fun H' n => ⟨ts.length - (i + 1), by omega, rfl, hlt, n⟩, fun x H3 y => ?_⟩
    obtain ⟨k3, r3⟩ := g2 x H3 y
    have f3 : Fut H2 ι2 H3 ι2 := Fut.grow hs2.tk k3
    have hs3 : StRep S H3 ι2 μ2 := hs2.same k3
    have he3 : RepE S H3 ι2 (wipe σ vs) (wipeE ρ vs) := (((he1.fut f2).fut f3).wipe vs)
    unfold lcL at h2
    cases eb : lcT f fc fa (wipeE ρ vs) ts[i] μ2 with
    | bad => rw [bnd_bad (bnd_bad eb)] at h2; exact h2.elim
    | ex e2 μ4 =>
      unfold lcT noX at eb
      split at eb <;> cases eb
    | ok o μ4 =>
      rw [bnd_congr (bnd_ok eb)] at h2
      have eb' := noX_ok eb
      unfold lcB at eb'
      cases ef : f ts[i] (wipeE ρ vs) with
      | none => rw [ef] at eb'; cases eb'
      | some ρ3 =>
        rw [ef] at eb'
        refine ⟨wipeE ρ vs, ι2, μ2, ts[i], ρ3, he3, hs3, r3, ef, fun σ4 he4 k4 l4 => ⟨?_, ?_⟩⟩
        · rw [wipe_ext (σ := wipe σ vs) l4 (fun j hj => k4 j fun z => hj (hv j z)), wipe_wipe]
        · obtain ⟨k, μ3, ec, eb2⟩ := bnd_inv eb'
          refine ⟨ρ3, ι2, μ2, he4, hs3, ?_⟩
          rw [ec]
          intro b H4 ι4 f4 hs4 eb3
          subst eb3
          obtain ⟨l3, e3⟩ := f3.lk D lk2
          obtain ⟨l4, e4⟩ := f4.lk D l3
          cases b with
          | false =>
            cases eb2
            refine iteF ⟨ι4, _, accV, accT, (f2.trans f3).trans f4, hs4, l4, ?_, (r2.fut f3).fut f4, h2⟩
            rw [e4, e3]
            exact d2
          | true =>
            obtain ⟨y, μ5, ea, eb4⟩ := bnd_inv eb2
            cases eb4
            refine iteT ⟨ρ3, ι4, μ3, he4.fut f4, hs4, ?_⟩
            rw [ea]
            intro yv H5 ι5 f5 hs5 ry
            obtain ⟨l5, e5⟩ := f5.lk D l4
            dsimp only at h2
            split at h2
            · rename_i hl
              refine ⟨accV, by rw [e5, e4, e3]; exact d2, by rw [r2.length, lim_eq]; exact hl, ι5, μ4, accV ++ [yv], accT ++ [y], ⟨(((f2.trans f3).trans f4).trans f5).toFu0.trans (Fu0.grown l5), fun a ha => ?_⟩, hs5.grown l5, l5, upd_same, ?_, h2⟩
              · obtain ⟨q1, q2⟩ := (((f2.trans f3).trans f4).trans f5).lk a ha
                have : a ≠ D := fun z => by
                  obtain ⟨u, q⟩ := hs1.tk a ha
                  rw [z, hD] at q
                  cases q
                exact ⟨q1, by rw [upd_ne this]; exact q2⟩
              · exact ((((r2.fut f3).fut f4).fut f5).fut0 (Fu0.grown l5)).snoc (ry.fut0 (Fu0.grown l5))
            · exact h2.elim
  · have e : i = ts.length := by omega
    subst e
    rw [List.drop_length] at h2
    refine .inl ⟨stop, ?_⟩
    have h3 : Pst S W σ H1 ι1 (Rep S) (.ok (.lst accT) μ2) Q := h2
    refine h3 (.ref D) H2 (ι2.unlock D) ⟨f2.toFu0.trans Fu0.unlock, fun a ha => ?_⟩ hs2.unlock (.lst ⟨fun z => ?_, .inl d2⟩ (r2.fut0 Fu0.unlock))
    · obtain ⟨q1, q2⟩ := f2.lk a ha
      refine ⟨List.mem_filter.mpr ⟨q1, decide_eq_true fun z => ?_⟩, q2⟩
      obtain ⟨u, q⟩ := hs1.tk a ha
      rw [z, hD] at q
      cases q
    · rcases z with z | z
      · exact (hs2.lks D lk2).2 z
      · have := (List.mem_filter.mp z).2
        simp at this
section
variable {X : Cx} {S : Sta} {W : WX} {elt tg iter : Expr} {ifs : List Expr} {scope : Scope} {own : List (Str × Nat)} {pos : Pos} {fi : Env → M (List T)} {f : T → Env → Option Env} {is : List Nat} {fc : Env → M Bool} {fa : Env → M T}
theorem pv_lc (hc : X.calm = true) (hN : X.N.Nodup) (hi : PVi X S W tg iter fi) (ok : BlkOk X.N X.env.scope scope own) (hv : ∀ i ∈ is, i ∈ own.map (·.2))
    (hg : ∀ (s : Shared) (H : Hp) (C : Addr) (cl : List (Str × Addr)) (fp : List Addr), PG (X.blk s H scope (compEnvC scope cl C X.env) fp) tg (tGv S is f)) (ht : ∀ (s : Shared) (H : Hp) (C : Addr) (cl : List (Str × Addr)) (fp : List Addr), PTs (X.blk s H scope (compEnvC scope cl C X.env) fp) ifs (tTv S W0 fc))
    (he : ∀ (s : Shared) (H : Hp) (C : Addr) (cl : List (Str × Addr)) (fp : List Addr), PV (X.blk s H scope (compEnvC scope cl C X.env) fp) S W0 elt fa) (hs : ∀ x, foldedSetIterable iter X.env x = pure x) :
    PV X S W (.ListComp elt [⟨tg, iter, ifs, 0⟩] scope pos) (cLc fi f fc fa (own.map (·.2))) := PE.weak (pe_lc hc hN hi ok hg ht he hs) fun σ H Q h => lc_then hv h
theorem ps_of_setLc {i : Nat} {y : Str} {py spos : Pos} (hc : X.calm = true) (hN : X.N.Nodup) (hy : X.N[i]? = some y) (hyl : X.env.scope.names.lookup y = some .local)
    (hsw : swapsWith (.ListComp elt [⟨tg, iter, ifs, 0⟩] scope pos) (some (.Name y py)) spos.line X.env = pure true) (hi : PVi X S W tg iter fi) (ok : BlkOk X.N X.env.scope scope own) (hv : ∀ i ∈ is, i ∈ own.map (·.2))
    (hg : ∀ (s : Shared) (H : Hp) (C : Addr) (cl : List (Str × Addr)) (fp : List Addr), PG (X.blk s H scope (compEnvC scope cl C X.env) fp) tg (tGv S is f)) (ht : ∀ (s : Shared) (H : Hp) (C : Addr) (cl : List (Str × Addr)) (fp : List Addr), PTs (X.blk s H scope (compEnvC scope cl C X.env) fp) ifs (tTv S W0 fc))
    (he : ∀ (s : Shared) (H : Hp) (C : Addr) (cl : List (Str × Addr)) (fp : List Addr), PV (X.blk s H scope (compEnvC scope cl C X.env) fp) S W0 elt fa) (hs : ∀ x, foldedSetIterable iter X.env x = pure x) :
    PVs X S W (.Assign [.Name y py] (.ListComp elt [⟨tg, iter, ifs, 0⟩] scope pos) spos) (sSet i (cLc fi f fc fa (own.map (·.2)))) := PS.weak (ps_setLc hc hN hy hyl hsw hi ok hg ht he hs) fun D σ H ⟨ρ, ι, μ, he, hs, h⟩ =>
      lc_then hv (es_then he hs h fun x H1 ι1 μ1 t he1 hs1 f1 r1 h1 => h1 _ H1 ι1 (Fut.refl _ _) hs1 (he1.set r1))
end
end Tw

/-! TwC: comprehensions of two fors; list(range(..)) -/
namespace Tw
open PySem L2
theorem bnd_assoc {α β γ : Type} (m : M α) (f : α → M β) (g : β → M γ) (μ : Store) : bnd (bnd m f) g μ = bnd m (fun a => bnd (f a) g) μ := by
  unfold bnd
  cases m μ <;> rfl
def lcO : List T → (T → List T → M (List T)) → List T → M (List T)
  | [], _, acc => ret acc
  | t :: ts, b, acc => bnd (b t acc) fun acc' => lcO ts b acc'
def lcB2 (f : T → Env → Option Env) (c : Env → M Bool) (it1 : Env → M (List T)) (f1 : T → Env → Option Env) (c1 : Env → M Bool) (a : Env → M T) (vs1 : List Nat) (ρ : Env) (t : T) (acc : List T) : M (List T) := match f t ρ with
  | some ρ2 => bnd (noX (c ρ2)) fun k => if k then bnd (noX (it1 ρ2)) fun ts1 => lcL ts1 (lcT f1 c1 a (wipeE ρ2 vs1)) acc else ret acc
  | none => bad
def cLc2 (it : Env → M (List T)) (f : T → Env → Option Env) (c : Env → M Bool) (it1 : Env → M (List T)) (f1 : T → Env → Option Env) (c1 : Env → M Bool) (a : Env → M T) (vs vs1 : List Nat) : Env → M T := fun ρ => bnd (it ρ) fun ts => bnd (lcO ts (lcB2 f c it1 f1 c1 a vs1 (wipeE ρ vs)) []) fun us => ret (.lst us)
theorem noX_cases {α : Type} {m : M α} {μ : Store} : (∃ a μ', m μ = .ok a μ' ∧ noX m μ = .ok a μ') ∨ noX m μ = .bad := by
  unfold noX
  cases e : m μ with
  | ok a μ' => exact .inl ⟨a, μ', rfl, rfl⟩
  | ex x μ' => exact .inr rfl
  | bad => exact .inr rfl
theorem lc2_then {S : Sta} {W : WX} {σ : L2.St} {fi fi1 : Env → M (List T)} {f f1 : T → Env → Option Env} {is is1 vs vs1 : List Nat} {fc fc1 : Env → M Bool} {fa : Env → M T} (hv : ∀ i ∈ is, i ∈ vs) (hv1 : ∀ i ∈ is1, i ∈ vs1) {H : Hp} {Q : VK} (h : tEv S W (cLc2 fi f fc fi1 f1 fc1 fa vs vs1) σ H Q) :
    tLc2 (tIv S W fi) (tGv S is f) (tTv S W0 fc) (tIv S W0 fi1) (tGv S is1 f1) (tTv S W0 fc1) (tEv S W0 fa) vs vs1 σ H Q := by
  obtain ⟨ρ, ι, μ, he, hs, h⟩ := h
  refine ⟨ρ, ι, μ, he, hs, (Pst.seq (rel := fun H' ι' J ts => Wlk S J ts H' ι') h).mono fun J H1 ⟨ι1, μ1, ts, f1', hs1, w, h1⟩ D hD => ?_⟩
  have he1 := he.fut f1'
  let st : Hp → Ids → Store → List V → List T → Prop := fun H ι μ accV accT => Fut H1 ι1 H ι ∧ StRep S H ι μ ∧ D ∈ ι.lk ∧ H D = some (.lst accV) ∧ Reps S H ι accV accT
  let b := lcB2 f fc fi1 f1 fc1 fa vs1 (wipeE ρ vs)
  have inv0 : ∃ ι μ accV accT, st (upd H1 D (.lst [])) ι μ accV accT ∧ Pst S W σ H1 ι1 (Rep S) (bnd (lcO (ts.drop 0) b accT) (fun us => ret (.lst us)) μ) Q :=
    ⟨ι1.lock D, μ1, [], [], ⟨Fut.lock hs1 hD, hs1.lock hD, List.mem_cons_self, upd_same, .nil⟩, by rw [List.drop_zero]; exact h1⟩
  refine ⟨fun i m H => m = ts.length - i ∧ i ≤ ts.length ∧ ∃ ι μ accV accT, st H ι μ accV accT ∧ Pst S W σ H1 ι1 (Rep S) (bnd (lcO (ts.drop i) b accT) (fun us => ret (.lst us)) μ) Q, ⟨ts.length, by simp, Nat.zero_le _, inv0⟩, ?_⟩
  rintro i m H2 ⟨rfl, hi, ι2, μ2, accV, accT, ⟨f2, hs2, lk2, d2, r2⟩, h2⟩
  obtain ⟨go, stop⟩ := w H2 ι2 μ2 f2.toFu0 hs2
  by_cases hlt : i < ts.length
  case neg =>
    have e : i = ts.length := by omega
    subst e
    rw [List.drop_length] at h2
    refine .inl ⟨stop, ?_⟩
    have h3 : Pst S W σ H1 ι1 (Rep S) (.ok (.lst accT) μ2) Q := h2
    refine h3 (.ref D) H2 (ι2.unlock D) ⟨f2.toFu0.trans Fu0.unlock, fun a ha => ?_⟩ hs2.unlock (.lst ⟨fun z => ?_, .inl d2⟩ (r2.fut0 Fu0.unlock))
    · obtain ⟨q1, q2⟩ := f2.lk a ha
      refine ⟨List.mem_filter.mpr ⟨q1, decide_eq_true fun z => ?_⟩, q2⟩
      obtain ⟨u, q⟩ := hs1.tk a ha
      rw [z, hD] at q
      cases q
    · rcases z with z | z
      · exact (hs2.lks D lk2).2 z
      · have := (List.mem_filter.mp z).2
        simp at this
  case pos =>
    refine .inr ?_
    have et : ts[i]? = some ts[i] := List.getElem?_eq_getElem hlt
    obtain ⟨g1, g2⟩ := go i _ et
    rw [List.drop_eq_getElem_cons hlt] at h2
    refine ⟨g1, fun H' => ∃ ι μ accV accT, st H' ι μ accV accT ∧ Pst S W σ H1 ι1 (Rep S) (bnd (lcO (ts.drop (i + 1)) b accT) (fun us => ret (.lst us)) μ) Q, fun H' n => ⟨ts.length - (i + 1), by omega, rfl, hlt, n⟩, fun x H3 y => ?_⟩
    obtain ⟨k3, r3⟩ := g2 x H3 y
    have f3 : Fut H2 ι2 H3 ι2 := Fut.grow hs2.tk k3
    have hs3 : StRep S H3 ι2 μ2 := hs2.same k3
    have he3 : RepE S H3 ι2 (wipe σ vs) (wipeE ρ vs) := (((he1.fut f2).fut f3).wipe vs)
    have h2' : Pst S W σ H1 ι1 (Rep S) (bnd (b ts[i] accT) (fun acc' => bnd (lcO (ts.drop (i + 1)) b acc') (fun us => ret (.lst us))) μ2) Q := by
      rw [← bnd_assoc]; exact h2
    cases ef : f ts[i] (wipeE ρ vs) with
    | none =>
      have : b ts[i] accT μ2 = .bad := by show lcB2 f fc fi1 f1 fc1 fa vs1 (wipeE ρ vs) ts[i] accT μ2 = _; unfold lcB2; rw [ef]
      rw [bnd_bad this] at h2'
      exact h2'.elim
    | some ρ3 =>
      have eb : b ts[i] accT = bnd (noX (fc ρ3)) fun k => if k then bnd (noX (fi1 ρ3)) fun ts1 => lcL ts1 (lcT f1 fc1 fa (wipeE ρ3 vs1)) accT else ret accT := by
        show lcB2 f fc fi1 f1 fc1 fa vs1 (wipeE ρ vs) ts[i] accT = _; unfold lcB2; rw [ef]
      rw [eb, bnd_assoc] at h2'
      refine ⟨wipeE ρ vs, ι2, μ2, ts[i], ρ3, he3, hs3, r3, ef, fun σ4 he4 k4 l4 => ⟨?_, ?_⟩⟩
      · rw [wipe_ext (σ := wipe σ vs) l4 (fun j hj => k4 j fun z => hj (hv j z)), wipe_wipe]
      · rcases noX_cases (m := fc ρ3) (μ := μ2) with ⟨k, μ3, ec, en⟩ | en
        case inr => rw [bnd_bad en] at h2'; exact h2'.elim
        rw [bnd_ok en] at h2'
        refine ⟨ρ3, ι2, μ2, he4, hs3, ?_⟩
        rw [ec]
        intro b' H4 ι4 f4 hs4 eb3
        subst eb3
        obtain ⟨l3, e3⟩ := f3.lk D lk2
        obtain ⟨l4', e4⟩ := f4.lk D l3
        cases b' with
        | false => exact iteF ⟨ι4, μ3, accV, accT, ⟨(f2.trans f3).trans f4, hs4, l4', by rw [e4, e3]; exact d2, (r2.fut f3).fut f4⟩, h2'⟩
        | true =>
          refine iteT ?_
          have h3 : Pst S W σ H1 ι1 (Rep S) (bnd (noX (fi1 ρ3)) (fun ts1 => bnd (lcL ts1 (lcT f1 fc1 fa (wipeE ρ3 vs1)) accT) fun acc' => bnd (lcO (ts.drop (i + 1)) b acc') fun us => ret (.lst us)) μ3) Q := by
            rw [← bnd_assoc]; exact h2'
          rcases noX_cases (m := fi1 ρ3) (μ := μ3) with ⟨ts1, μ5, ei, en⟩ | en
          case inr => rw [bnd_bad en] at h3; exact h3.elim
          rw [bnd_ok en] at h3
          refine ⟨ρ3, ι4, μ3, he4.fut f4, hs4, ?_⟩
          rw [ei]
          intro J1 H5 ι5 f5 hs5 w1
          obtain ⟨l5, e5⟩ := f5.lk D l4'
          have he5 : RepE S H5 ι5 σ4 ρ3 := (he4.fut f4).fut f5
          let K1 : List T → M T := fun acc' => bnd (lcO (ts.drop (i + 1)) b acc') fun us => ret (.lst us)
          have inv1 : ∃ ι μ accV accT, Fu0 H5 ι5 H5 ι ∧ st H5 ι μ accV accT ∧ Pst S W σ H1 ι1 (Rep S) (bnd (lcL (ts1.drop 0) (lcT f1 fc1 fa (wipeE ρ3 vs1)) accT) K1 μ) Q :=
            ⟨ι5, μ5, accV, accT, (Fut.refl H5 ι5).toFu0, ⟨((f2.trans f3).trans f4).trans f5, hs5, l5, by rw [e5, e4, e3]; exact d2, ((r2.fut f3).fut f4).fut f5⟩, by rw [List.drop_zero]; exact h3⟩
          refine ⟨fun j k H => k = ts1.length - j ∧ j ≤ ts1.length ∧ ∃ ι μ accV accT, Fu0 H5 ι5 H ι ∧ st H ι μ accV accT ∧ Pst S W σ H1 ι1 (Rep S) (bnd (lcL (ts1.drop j) (lcT f1 fc1 fa (wipeE ρ3 vs1)) accT) K1 μ) Q, ⟨ts1.length, by simp, Nat.zero_le _, inv1⟩, ?_⟩
          rintro j k H6 ⟨rfl, hj, ι6, μ6, accV6, accT6, g6, ⟨f6, hs6, lk6, d6, r6⟩, h6⟩
          obtain ⟨go1, stop1⟩ := w1 H6 ι6 μ6 g6 hs6
          by_cases hlt1 : j < ts1.length
          case neg =>
            have e : j = ts1.length := by omega
            subst e
            rw [List.drop_length] at h6
            exact .inl ⟨stop1, ι6, μ6, accV6, accT6, ⟨f6, hs6, lk6, d6, r6⟩, h6⟩
          case pos =>
            refine .inr ?_
            have et1 : ts1[j]? = some ts1[j] := List.getElem?_eq_getElem hlt1
            obtain ⟨g1', g2'⟩ := go1 j _ et1
            rw [List.drop_eq_getElem_cons hlt1] at h6
            refine ⟨g1', fun H' => ∃ ι μ accV accT, Fu0 H5 ι5 H' ι ∧ st H' ι μ accV accT ∧ Pst S W σ H1 ι1 (Rep S) (bnd (lcL (ts1.drop (j + 1)) (lcT f1 fc1 fa (wipeE ρ3 vs1)) accT) K1 μ) Q, fun H' n => ⟨ts1.length - (j + 1), by omega, rfl, hlt1, n⟩, fun x7 H7 y7 => ?_⟩
            obtain ⟨k7, r7⟩ := g2' x7 H7 y7
            have f7 : Fut H6 ι6 H7 ι6 := Fut.grow hs6.tk k7
            have hs7 : StRep S H7 ι6 μ6 := hs6.same k7
            have he7 : RepE S H7 ι6 (wipe σ4 vs1) (wipeE ρ3 vs1) := RepE.wipe ⟨he5.1, fun q t e => let ⟨v, z1, z2⟩ := he5.2 q t e; ⟨v, z1, (z2.fut0 g6).fut f7⟩⟩ vs1
            unfold lcL at h6
            cases eb1 : lcT f1 fc1 fa (wipeE ρ3 vs1) ts1[j] μ6 with
            | bad => rw [bnd_bad (bnd_bad eb1)] at h6; exact h6.elim
            | ex e2 μ4 =>
              unfold lcT noX at eb1
              split at eb1 <;> cases eb1
            | ok o μ8 =>
              rw [bnd_congr (bnd_ok eb1)] at h6
              have eb' := noX_ok eb1
              unfold lcB at eb'
              cases ef1 : f1 ts1[j] (wipeE ρ3 vs1) with
              | none => rw [ef1] at eb'; cases eb'
              | some ρ8 =>
                rw [ef1] at eb'
                refine ⟨wipeE ρ3 vs1, ι6, μ6, ts1[j], ρ8, he7, hs7, r7, ef1, fun σ8 he8 k8 l8 => ⟨?_, ?_⟩⟩
                · rw [wipe_ext (σ := wipe σ4 vs1) l8 (fun q hq => k8 q fun z => hq (hv1 q z)), wipe_wipe]
                · obtain ⟨k, μ9, ec9, eb2⟩ := bnd_inv eb'
                  refine ⟨ρ8, ι6, μ6, he8, hs7, ?_⟩
                  rw [ec9]
                  intro b9 H9 ι9 f9 hs9 eb9
                  subst eb9
                  obtain ⟨l7, e7⟩ := f7.lk D lk6
                  obtain ⟨l9, e9⟩ := f9.lk D l7
                  cases b9 with
                  | false =>
                    cases eb2
                    exact iteF ⟨ι9, _, accV6, accT6, g6.trans (f7.trans f9).toFu0, ⟨(f6.trans f7).trans f9, hs9, l9, by rw [e9, e7]; exact d6, (r6.fut f7).fut f9⟩, h6⟩
                  | true =>
                    obtain ⟨y, μA, ea, eb4⟩ := bnd_inv eb2
                    cases eb4
                    refine iteT ⟨ρ8, ι9, μ9, he8.fut f9, hs9, ?_⟩
                    rw [ea]
                    intro yv HA ιA fA hsA ry
                    obtain ⟨lA, eA⟩ := fA.lk D l9
                    dsimp only at h6
                    split at h6
                    · rename_i hl
                      refine ⟨accV6, by rw [eA, e9, e7]; exact d6, by rw [r6.length, lim_eq]; exact hl, ιA, _, accV6 ++ [yv], accT6 ++ [y], g6.trans (((f7.trans f9).trans fA).toFu0.trans (Fu0.grown lA)), ⟨⟨(((f6.trans f7).trans f9).trans fA).toFu0.trans (Fu0.grown lA), fun a ha => ?_⟩, hsA.grown lA, lA, upd_same, ?_⟩, h6⟩
                      · obtain ⟨q1, q2⟩ := (((f6.trans f7).trans f9).trans fA).lk a ha
                        have : a ≠ D := fun z => by
                          obtain ⟨u, q⟩ := hs1.tk a ha
                          rw [z, hD] at q
                          cases q
                        exact ⟨q1, by rw [upd_ne this]; exact q2⟩
                      · exact ((((r6.fut f7).fut f9).fut fA).fut0 (Fu0.grown lA)).snoc (ry.fut0 (Fu0.grown lA))
                    · exact h6.elim
section
variable {X : Cx} {S : Sta} {W : WX} {pos spos : Pos} {elt tg iter tg1 iter1 : Expr} {ifs ifs1 : List Expr} {scope : Scope} {own : List (Str × Nat)} {fi fi1 : Env → M (List T)} {f f1 : T → Env → Option Env} {is is1 : List Nat} {fc fc1 : Env → M Bool} {fa : Env → M T}
theorem pv_lc2 (hc : X.calm = true) (hN : X.N.Nodup) (hi : PVi X S W tg iter fi) (ok : BlkOk X.N X.env.scope scope own) (hv : ∀ i ∈ is, i ∈ own.map (·.2)) (hv1 : ∀ i ∈ is1, i ∈ own.map (·.2))
    (hg : ∀ (s : Shared) (H : Hp) (C : Addr) (cl : List (Str × Addr)) (fp : List Addr), PG (X.blk s H scope (compEnvC scope cl C X.env) fp) tg (tGv S is f)) (ht : ∀ (s : Shared) (H : Hp) (C : Addr) (cl : List (Str × Addr)) (fp : List Addr), PTs (X.blk s H scope (compEnvC scope cl C X.env) fp) ifs (tTv S W0 fc))
    (hi1 : ∀ (s : Shared) (H : Hp) (C : Addr) (cl : List (Str × Addr)) (fp : List Addr), PVi (X.blk s H scope (compEnvC scope cl C X.env) fp) S W0 tg1 iter1 fi1)
    (hg1 : ∀ (s : Shared) (H : Hp) (C : Addr) (cl : List (Str × Addr)) (fp : List Addr), PG (X.blk s H scope (compEnvC scope cl C X.env) fp) tg1 (tGv S is1 f1)) (ht1 : ∀ (s : Shared) (H : Hp) (C : Addr) (cl : List (Str × Addr)) (fp : List Addr), PTs (X.blk s H scope (compEnvC scope cl C X.env) fp) ifs1 (tTv S W0 fc1))
    (he : ∀ (s : Shared) (H : Hp) (C : Addr) (cl : List (Str × Addr)) (fp : List Addr), PV (X.blk s H scope (compEnvC scope cl C X.env) fp) S W0 elt fa) (hs : ∀ x, foldedSetIterable iter X.env x = pure x) (hs1 : ∀ env x, foldedSetIterable iter1 env x = pure x) :
    PV X S W (.ListComp elt [⟨tg, iter, ifs, 0⟩, ⟨tg1, iter1, ifs1, 0⟩] scope pos) (cLc2 fi f fc fi1 f1 fc1 fa (own.map (·.2)) is1) :=
  PE.weak (pe_lc2 hc hN hi ok hv1 hg ht hi1 hg1 ht1 he hs hs1) fun σ H Q h => lc2_then hv (fun _ h => h) h
theorem ps_of_setLc2 {i : Nat} {y : Str} {py : Pos} (hc : X.calm = true) (hN : X.N.Nodup) (hy : X.N[i]? = some y) (hyl : X.env.scope.names.lookup y = some .local)
    (hsw : swapsWith (.ListComp elt [⟨tg, iter, ifs, 0⟩, ⟨tg1, iter1, ifs1, 0⟩] scope pos) (some (.Name y py)) spos.line X.env = pure true) (hi : PVi X S W tg iter fi) (ok : BlkOk X.N X.env.scope scope own) (hv : ∀ i ∈ is, i ∈ own.map (·.2)) (hv1 : ∀ i ∈ is1, i ∈ own.map (·.2))
    (hg : ∀ (s : Shared) (H : Hp) (C : Addr) (cl : List (Str × Addr)) (fp : List Addr), PG (X.blk s H scope (compEnvC scope cl C X.env) fp) tg (tGv S is f)) (ht : ∀ (s : Shared) (H : Hp) (C : Addr) (cl : List (Str × Addr)) (fp : List Addr), PTs (X.blk s H scope (compEnvC scope cl C X.env) fp) ifs (tTv S W0 fc))
    (hi1 : ∀ (s : Shared) (H : Hp) (C : Addr) (cl : List (Str × Addr)) (fp : List Addr), PVi (X.blk s H scope (compEnvC scope cl C X.env) fp) S W0 tg1 iter1 fi1)
    (hg1 : ∀ (s : Shared) (H : Hp) (C : Addr) (cl : List (Str × Addr)) (fp : List Addr), PG (X.blk s H scope (compEnvC scope cl C X.env) fp) tg1 (tGv S is1 f1)) (ht1 : ∀ (s : Shared) (H : Hp) (C : Addr) (cl : List (Str × Addr)) (fp : List Addr), PTs (X.blk s H scope (compEnvC scope cl C X.env) fp) ifs1 (tTv S W0 fc1))
    (he : ∀ (s : Shared) (H : Hp) (C : Addr) (cl : List (Str × Addr)) (fp : List Addr), PV (X.blk s H scope (compEnvC scope cl C X.env) fp) S W0 elt fa) (hs : ∀ x, foldedSetIterable iter X.env x = pure x) (hs1 : ∀ env x, foldedSetIterable iter1 env x = pure x) :
    PVs X S W (.Assign [.Name y py] (.ListComp elt [⟨tg, iter, ifs, 0⟩, ⟨tg1, iter1, ifs1, 0⟩] scope pos) spos) (sSet i (cLc2 fi f fc fi1 f1 fc1 fa (own.map (·.2)) is1)) :=
  PS.weak (ps_setLc2 hc hN hy hyl hsw hi ok hv1 hg ht hi1 hg1 ht1 he hs hs1) fun D σ H ⟨ρ, ι, μ, he, hs, h⟩ =>
    lc2_then hv (fun _ h => h) (es_then he hs h fun x H1 ι1 μ1 t he1 hs1 f1 r1 h1 => h1 _ H1 ι1 (Fut.refl _ _) hs1 (he1.set r1))
/-! ### list(range(..)), tuple(range(..)) -/
@[irreducible] def rgOk (a b : Int) : Bool := inR a && inR b && decide ((b - a).toNat ≤ 2 ^ 24)
theorem rgOk_of {a b : Int} (h : rgOk a b = true) : RgOk a b := by
  unfold rgOk at h
  rw [Bool.and_eq_true, Bool.and_eq_true, decide_eq_true_eq] at h
  exact ⟨(inR_iff h.1.1).1, (inR_iff h.1.1).2, (inR_iff h.1.2).1, (inR_iff h.1.2).2, h.2⟩
def mRgL (mk : List T → T) (i j : T) : M T := match i, j with
  | .int i, .int j => if rgOk i j then ret (mk (rgT i j)) else bad
  | _, _ => bad
theorem rg_reps {H : Hp} {ι : Ids} (a b : Int) : Reps S H ι (rgV a b) (rgT a b) := by
  unfold rgV rgT
  induction (List.range (b - a).toNat) with
  | nil => exact .nil
  | cons k r ih => exact .cons (.int _) ih
def cRgL1 (mk : List T → T) (a : Env → M T) : Env → M T := fun ρ => bnd (a ρ) fun x => mRgL mk (.int 0) x
def cRgL2 (mk : List T → T) (a b : Env → M T) : Env → M T := fun ρ => bnd (a ρ) fun x => bnd (b ρ) fun y => mRgL mk x y
variable {a b : Expr} {ga gb : Env → M T} {p q : Pos}
theorem pv_lstRg1 (hc : X.calm = true) (hg : Gl X "list") (hm : X.mg "list" = none) (hg2 : Gl X "range") (hm2 : X.mg "range" = none) (ha : PV X S W a ga) (na : starEach [a] X.env = (false, eval a X.env) :: starEach [] X.env) :
    PV X S W (.Call (.Name "list" p) [.Call (.Name "range" q) [a] [] spos] [] pos) (cRgL1 .lst ga) :=
  PE.weak (pe_listRg hc hg hm (prg_1 hg2 hm2 ha na) rfl) fun σ H Q ⟨ρ, ι, μ, he, hs, h⟩ => ev_then he hs h fun x H1 ι1 μ1 t he1 hs1 f1 r1 h1 => by
    cases r1 <;> first | exact h1.elim | skip
    rename_i j
    unfold mRgL at h1
    dsimp only at h1
    split at h1
    · rename_i hj
      exact ⟨j, rfl, rgOk_of hj, fun l hl => Pst.new h1 hs1 hl (Rep.newL hs1 hl (rg_reps 0 j))⟩
    · exact h1.elim
theorem pv_tupRg1 (hc : X.calm = true) (hg : Gl X "tuple") (hm : X.mg "tuple" = none) (hg2 : Gl X "range") (hm2 : X.mg "range" = none) (ha : PV X S W a ga) (na : starEach [a] X.env = (false, eval a X.env) :: starEach [] X.env) :
    PV X S W (.Call (.Name "tuple" p) [.Call (.Name "range" q) [a] [] spos] [] pos) (cRgL1 .tup ga) :=
  PE.weak (pe_tupRg hc hg hm (prg_1 hg2 hm2 ha na) rfl) fun σ H Q ⟨ρ, ι, μ, he, hs, h⟩ => ev_then he hs h fun x H1 ι1 μ1 t he1 hs1 f1 r1 h1 => by
    cases r1 <;> first | exact h1.elim | skip
    rename_i j
    unfold mRgL at h1
    dsimp only at h1
    split at h1
    · rename_i hj
      exact ⟨j, rfl, rgOk_of hj, fun l hl => Pst.new h1 hs1 hl (Rep.newT hs1 hl (rg_reps 0 j))⟩
    · exact h1.elim
theorem pv_lstRg2 (hc : X.calm = true) (hg : Gl X "list") (hm : X.mg "list" = none) (hg2 : Gl X "range") (hm2 : X.mg "range" = none) (ha : PV X S W a ga) (hb : PV X S W b gb) (na : starEach [a, b] X.env = (false, eval a X.env) :: starEach [b] X.env) (nb : starEach [b] X.env = (false, eval b X.env) :: starEach [] X.env) :
    PV X S W (.Call (.Name "list" p) [.Call (.Name "range" q) [a, b] [] spos] [] pos) (cRgL2 .lst ga gb) :=
  PE.weak (pe_listRg hc hg hm (prg_2 hg2 hm2 ha hb na nb (by rw [nb]; rfl)) rfl) fun σ H Q ⟨ρ, ι, μ, he, hs, h⟩ => ev_then he hs h fun x H1 ι1 μ1 t he1 hs1 f1 r1 h1 => ev_then he1 hs1 h1 fun y H2 ι2 μ2 u he2 hs2 f2 r2 h2 => by
    unfold mRgL at h2
    split at h2
    · split at h2
      · rename_i i j hj
        cases r1
        cases r2
        exact ⟨i, j, rfl, rfl, rgOk_of hj, fun l hl => Pst.new h2 hs2 hl (Rep.newL hs2 hl (rg_reps i j))⟩
      · exact h2.elim
    · exact h2.elim
end
end Tw

/-! TwP: a, b = x, y -/
namespace Tw
open PySem L2
def starE : Expr → Bool
  | .Starred .. => true
  | _ => false
def swNames (sc : Scope) (ts : List Expr) : List Str := ts.filterMap fun
  | .Name id pos => if sc.names.lookup id == some .local && pos.line == (ts.head?.map (·.pos.line)).getD 0 then some id else none
  | _ => none
def bkK (sc : Scope) : ScopeKind := if sc.kind.isAnnotationScope then ScopeKind.function else sc.kind
def swK (sc : Scope) (ts vs : List Expr) : Option (Option (List Str)) :=
  if (!(ts.length == 2 || ts.length == 3) || vs.length != ts.length || bkK sc != .function) = true then some none
  else if (vs.any fun | .Starred .. => true | _ => false) = true then some none
  else if ((swNames sc ts).length != ts.length || (swNames sc ts).eraseDups.length != (swNames sc ts).length) = true then some none
  else if vs.all (foldedForSure 8) = true then some none
  else if vs.all (constantsAlone 8) = true then none
  else some (some (swNames sc ts))
theorem swK_ok {sc : Scope} {ts vs : List Expr} {r : Option (List Str)} {env : PySem.Env} {k k2 : Nat} {p p2 : Pos} (he : env.scope = sc) (h : swK sc ts vs = some r) : swappedStores [.Tuple ts k p] (.Tuple vs k2 p2) env = pure r := by
  subst he
  have hb : env.blockKind = bkK env.scope := rfl
  have hk : ∀ x, env.kindOf x = env.scope.names.lookup x := fun _ => rfl
  unfold swK at h
  unfold swappedStores
  dsimp only
  rw [hb]
  have hn : (ts.filterMap fun
    | .Name id pos => if env.kindOf id == some .local && pos.line == (ts.head?.map (·.pos.line)).getD 0 then some id else none
    | _ => none) = swNames env.scope ts := rfl
  split at h
  · rename_i c
    cases h
    exact if_pos c
  · rename_i c
    refine (if_neg c).trans ?_
    split at h
    · rename_i c2
      cases h
      exact if_pos c2
    · rename_i c2
      refine (if_neg c2).trans ?_
      split at h
      · rename_i c3
        cases h
        exact if_pos c3
      · rename_i c3
        refine (if_neg c3).trans ?_
        split at h
        · rename_i c4
          cases h
          exact if_pos c4
        · rename_i c4
          refine (if_neg c4).trans ?_
          split at h
          · cases h
          · rename_i c5
            cases h
            exact if_neg c5
/-- a, b, c = x, y, z -/
def sPar3 (i j l : Nat) (a b c : Env → M T) : Env → M Out := fun ρ => bndS (aCons a (aCons b (aCons c aNil)) ρ) ρ fun ts => match ts with
  | [t, u, v] => ret (.nx (((ρ.set i (some t)).set j (some u)).set l (some v)))
  | _ => bad
theorem reps3 {S : Sta} {H : Hp} {ι : Ids} {xs : List V} {t u v : T} (r : Reps S H ι xs [t, u, v]) : ∃ x y z, xs = [x, y, z] ∧ Rep S H ι x t ∧ Rep S H ι y u ∧ Rep S H ι z v := by
  cases r with
  | cons h q =>
    obtain ⟨y, z, rfl, hy, hz⟩ := reps2 q
    exact ⟨_, _, _, rfl, h, hy, hz⟩
section
variable {X : Cx} {S : Sta} {W : WX} {pos : Pos}
theorem ps_of_par3 {i j l : Nat} {x y z : Str} {a b c : Expr} {fa fb fc : Env → M T} {px py pz pt : Pos} {kt k2 : Nat} {pt2 : Pos} (hc : X.calm = true) (hN : X.N.Nodup) (hi : X.N[i]? = some x) (hj : X.N[j]? = some y) (hl : X.N[l]? = some z) (hij : i ≠ j) (hil : i ≠ l) (hjl : j ≠ l)
    (hx : X.env.scope.names.lookup x = some .local) (hy : X.env.scope.names.lookup y = some .local) (hz : X.env.scope.names.lookup z = some .local) (ha : PVa X S W [a, b, c] (aCons fa (aCons fb (aCons fc aNil))))
    (hw : swappedStores [.Tuple [.Name x px, .Name y py, .Name z pz] kt pt] (.Tuple [a, b, c] k2 pt2) X.env = pure (some [x, y, z]))
    (hs : swapsWithSole [.Tuple [.Name x px, .Name y py, .Name z pz] kt pt] (.Tuple [a, b, c] k2 pt2) pos.line X.env = pure false) :
    PVs X S W (.Assign [.Tuple [.Name x px, .Name y py, .Name z pz] kt pt] (.Tuple [a, b, c] k2 pt2) pos) (sPar3 i j l fa fb fc) :=
  PS.weak (ps_par3 hc hN hi hj hl hij hil hjl hx hy hz ha hw hs) fun D σ H ⟨ρ, ι, μ, he, hs, h⟩ =>
    ⟨ρ, ι, μ, he, hs, (PstS.seq (rel := Reps S) he h).mono fun vs H1 ⟨ι1, μ1, ts, f, s, r, q⟩ => by
      split at q
      · obtain ⟨v, w, z, rfl, rv, rw', rz⟩ := reps3 r
        exact ⟨v, w, z, rfl, q _ H1 ι1 (Fut.refl _ _) s ((((he.fut f).set rv).set rw').set rz)⟩
      · exact q.elim⟩
end
end Tw

/-! Tw8: defs and their calls -/
namespace Tw
open PySem L2

def spT (S : Sta) (n : Nat) (g : List T → M T) : Sp := fun vs H Q E => vs.length = n ∧ ∃ ts ι μ, Reps S H ι vs ts ∧ StRep S H ι μ ∧ Pst S (fun cls d _ H => E cls d H) [] H ι (Rep S) (g ts μ) Q
/-- a def, by its body: N slots -/
def fnD (N : Nat) (b : Env → M Out) (ts : List T) : M T := fun μ => match b (ts.map some ++ List.replicate (N - ts.length) none) μ with
  | .ok (.nx _) μ' => .ok .non μ'
  | .ok (.rt t) μ' => .ok t μ'
  | .ok (.xx _ e) μ' => .ex e μ'
  | _ => .bad
theorem start_rep {S : Sta} {H : Hp} {ι : Ids} {N : List Str} : ∀ {vs : List V} {ts : List T}, Reps S H ι vs ts → RepE S H ι (L2.start N vs) (ts.map some ++ List.replicate (N.length - ts.length) none) := by
  intro vs ts r
  have hl := r.length
  refine ⟨by unfold L2.start; simp [hl], fun i t e => ?_⟩
  unfold L2.start
  by_cases hi : i < ts.length
  · rw [List.getElem?_append_left (by simpa using hi), List.getElem?_map] at e
    obtain ⟨u, e1, e2⟩ := Option.map_eq_some_iff.mp e
    cases e2
    obtain ⟨v, h1, h2⟩ := r.get e1
    refine ⟨v, ?_, h2⟩
    rw [List.getElem?_append_left (by rw [List.length_map, hl]; exact hi), List.getElem?_map, h1]
    rfl
  · rw [List.getElem?_append_right (by simpa using hi), List.getElem?_replicate] at e
    split at e <;> cases e
section
variable {S : Sta} {P : Program} {w : World} {mg : Str → Option Value} {base : Heap}
/-- THE RULE for a def -/
theorem fn_okT {x qual : Str} {st : Stmt} {f : Addr} {fd : FuncData} {N ps : List Str} {k : Nat} {b : Env → M Out} (F : Fun S.K x qual st f fd) (Sc : FnScope N ps (defScope st))
    (body : ∀ (cdv : Value) (A : Around) (outer : List PySem.Env) (s : Shared) (H : Hp) (E : XK), Room k (A.deeper (PyProof.Rows.envOfC qual (defScope st) s.heap.objs.size f cdv)) →
      PVss (cxOf (L2.CX P w) P w S.K mg base N qual (defScope st) f cdv A outer s H E) S (fun cls d _ H => E cls d H) (defBody st) b) :
    FnOk P w S.K mg base (L2.CX P w) (k + 1) f fd ps (spT S ps.length (fnD N.length b)) := by
  refine F.okX Sc (fun vs H Q E h => h.1) (fun cdv A outer s H vs Q E hr h => ?_)
  obtain ⟨hl, ts, ι, μ, r, hs, h⟩ := h
  refine ⟨_, body cdv A outer s H E hr, _, ι, μ, start_rep r, hs, ?_⟩
  unfold fnD at h
  cases e : b (ts.map some ++ List.replicate (N.length - ts.length) none) μ with
  | bad => rw [e] at h; exact h.elim
  | ex x μ1 =>
    rw [e] at h
    exact h.elim
  | ok o μ1 =>
    rw [e] at h
    cases o with
    | nx ρ => exact fun σ' H' ι' f' s' r' => h .non H' ι' f' s' .non
    | rt t => exact h
    | xx ρ x => exact fun σ' cls d H' ι' f' s' r' rx => h cls d H' ι' f' s' rx
    | bk ρ => exact h.elim
    | ct ρ => exact h.elim
end
section
variable {X : Cx} {S : Sta} {W : WX} {k n : Nat} {f : Addr} {fd : FuncData} {ps : List Str} {g : List T → M T} {x : Str} {p pos : Pos} {e : Expr} {es : List Expr} {fa : Env → M (List T)}
def cCall (n : Nat) (g : List T → M T) (a : Env → M (List T)) : Env → M T := fun ρ => bnd (a ρ) fun ts => if ts.length = n then g ts else bad
theorem pv_call (hK : X.K = S.K) (tk : Takes X W) (F : FnOk X.prog X.w X.K X.mg X.base (L2.CX X.prog X.w) k f fd ps (spT S n g)) (hr : Room k X.A) (hg : Gl X x) (hm : X.mg x = some (.ref f)) (hk : PySem.W.keepIn X.K (.ref f) = true) (hb : Binds X.K fd ps []) (ha : PVa X S W (e :: es) fa)
    (hdb : (x == ("__debug__" : Str)) = false) (he : starEach (e :: es) X.env = (false, eval e X.env) :: starEach es X.env) (hpl : (backTo pos (starEach es X.env)).any (·.1) = false) : PV X S W (.Call (.Name x p) (e :: es) [] pos) (cCall n g fa) :=
  PE.weak (pe_callSD (E := fun σ => WE W σ) F hr hg hm hk hb .nil (fun σ => passAt tk σ) ha hdb he hpl) fun σ H Q ⟨ρ, ι, μ, he, hs, h⟩ => av_then he hs h fun vs H1 ι1 μ1 ts he1 hs1 f1 r1 h1 => by
    split at h1
    · rename_i hl
      refine ⟨by rw [List.append_nil, r1.length]; exact hl, ts, ι1, μ1, by rw [List.append_nil]; exact r1, hs1, ?_⟩
      cases eg : g ts μ1 with
      | ok t μ2 => rw [eg] at h1; exact h1
      | ex x μ2 => rw [eg] at h1; exact h1
      | bad => rw [eg] at h1; exact h1.elim
    · exact h1.elim
end
end Tw

/-! Tw9: the translator of expressions, and that it is right -/
namespace Tw
open PySem L2

inductive Gl0 where
  | fn (i n : Nat) | kon (t : T) | blt
structure Ct where
  N : List Str
  sc : Scope
  fv : Str → Bool
  G : Str → Option Gl0
  chg : List Str
def idx (N : List Str) (x : Str) : Option Nat := N.findIdx? fun y => y == x
theorem idx_some {N : List Str} {x : Str} {i : Nat} (h : idx N x = some i) : N[i]? = some x := by
  unfold idx at h
  rw [List.findIdx?_eq_some_iff_getElem] at h
  obtain ⟨h1, h2, _⟩ := h
  rw [List.getElem?_eq_getElem h1]
  exact congrArg some (beq_iff_eq.mp h2)
def okN (x : Str) : Bool := !(x == ("__debug__" : Str)) && !(x == ("__classdict__" : Str))
/-- what the context knows of a name that it stores or reads -/
def isVis (sc : Scope) (x : Str) : Bool := match sc.names.lookup x with
  | some .local => true
  | some .cell => true
  | some .free => true
  | _ => false
def isLoc (c : Ct) (x : Str) : Bool := match c.sc.names.lookup x with
  | some .local => true
  | some .cell => c.fv x
  | _ => false
def isGl (sc : Scope) (x : Str) : Bool := match sc.names.lookup x with
  | some .globalImplicit => true
  | _ => false
theorem isVis_of {sc : Scope} {x : Str} (h : isVis sc x = true) : Vis sc x := by
  unfold isVis at h
  split at h
  · rename_i e; exact .inl e
  · rename_i e; exact .inr (.inl e)
  · rename_i e; exact .inr (.inr e)
  · cases h
theorem isGl_of {sc : Scope} {x : Str} (h : isGl sc x = true) : sc.names.lookup x = some .globalImplicit := by
  unfold isGl at h
  split at h
  · rename_i e; exact e
  · cases h
def GOk (S : Sta) (Φ : Nat → List T → M T) (k : Nat) (X : Cx) (x : Str) : Gl0 → Prop
  | .fn i n => ∃ f fd ps, S.fa i = some f ∧ X.mg x = some (.ref f) ∧ PySem.W.keepIn X.K (.ref f) = true ∧ FnOk X.prog X.w X.K X.mg X.base (L2.CX X.prog X.w) k f fd ps (spT S n (Φ i)) ∧ Binds X.K fd ps []
  | .kon t => ∃ u v, X.mg x = some u ∧ RelV v u ∧ ∀ H ι, Rep S H ι v t
  | .blt => X.mg x = none
structure Cm (S : Sta) (Φ : Nat → List T → M T) (k : Nat) (c : Ct) (X : Cx) (W : WX) : Prop where
  hK : X.K = S.K
  hN : X.N = c.N
  nd : c.N.Nodup
  sc : X.env.scope = c.sc
  kd : c.sc.kind = .function
  calm : X.calm = true
  fn : ∀ x, c.fv x = true → X.fn x = true
  tk : Takes X W
  pass : PassesOwn (model X.prog X.w) X.A X.env X.xe
  room : Room k X.A
  gl : ∀ x g, c.G x = some g → GOk S Φ k X x g
section
variable {S : Sta} {Φ : Nat → List T → M T} {k : Nat} {c : Ct} {X : Cx} {W : WX}
theorem Cm.nodup (h : Cm S Φ k c X W) : X.N.Nodup := by rw [h.hN]; exact h.nd
theorem Cm.ix (h : Cm S Φ k c X W) {x : Str} {i : Nat} (e : idx c.N x = some i) : X.N[i]? = some x := by rw [h.hN]; exact idx_some e
theorem Cm.vis (h : Cm S Φ k c X W) {x : Str} (e : isVis c.sc x = true) : Vis X.env.scope x := by rw [h.sc]; exact isVis_of e
theorem Cm.glob (h : Cm S Φ k c X W) {x : Str} (e : isGl c.sc x = true) : Gl X x := by
  show X.env.scope.names.lookup x = _
  rw [h.sc]
  exact isGl_of e
theorem Cm.loc (h : Cm S Φ k c X W) {x : Str} (e : isLoc c x = true) : Loc X.env.scope x ∧ (X.fn x = true ∨ X.env.scope.names.lookup x = some .local) := by
  unfold isLoc at e
  unfold L2.Loc
  rw [h.sc]
  split at e
  · rename_i q; exact ⟨.inl q, .inr q⟩
  · rename_i q; exact ⟨.inr q, .inl (h.fn x e)⟩
  · cases e
theorem okN_of {x : Str} (h : okN x = true) : (x == ("__debug__" : Str)) = false ∧ (x == ("__classdict__" : Str)) = false := by
  unfold okN at h
  rw [Bool.and_eq_true, Bool.not_eq_true', Bool.not_eq_true'] at h
  exact h
end

/-! ### names -/
def tyTab : List (Str × String) := [("int", "int"), ("bool", "bool"), ("tuple", "tuple"), ("str", "str"), ("list", "list")]
theorem tyTab_ok : ∀ p ∈ tyTab, bootBuiltins p.1 = some (.type p.2) ∧ p.1 ≠ "__name__" ∧ (p.1 == ("__debug__" : Str)) = false := by decide +kernel
def trName (c : Ct) (x : Str) : Option (Env → M T) :=
  if isVis c.sc x && okN x then (idx c.N x).map cVar
  else if isGl c.sc x && okN x then match c.G x with
    | some (.kon t) => some (cK t)
    | some .blt => (tyTab.lookup x).map fun n => cK (.ty n)
    | _ => none
  else none
theorem lookup_mem {α β : Type} [BEq α] [LawfulBEq α] {l : List (α × β)} {a : α} {b : β} (h : l.lookup a = some b) : (a, b) ∈ l := by
  induction l with
  | nil => cases h
  | cons p l ih =>
    obtain ⟨a', b'⟩ := p
    unfold List.lookup at h
    split at h
    · rename_i e
      cases h
      rw [beq_iff_eq.mp e]
      exact List.mem_cons_self
    · exact List.mem_cons_of_mem _ (ih h)
theorem trName_ok {S : Sta} {Φ : Nat → List T → M T} {k : Nat} {c : Ct} {X : Cx} {W : WX} {x : Str} {p : Pos} {f : Env → M T} (h : Cm S Φ k c X W) (e : trName c x = some f) : PV X S W (.Name x p) f := by
  unfold trName at e
  split at e
  · rename_i hv
    rw [Bool.and_eq_true] at hv
    obtain ⟨i, e1, rfl⟩ := Option.map_eq_some_iff.mp e
    exact pv_var (h.ix e1) (h.vis hv.1) (okN_of hv.2).1 (okN_of hv.2).2
  · split at e
    · rename_i _ hg
      rw [Bool.and_eq_true] at hg
      split at e
      · rename_i t eG
        cases e
        obtain ⟨u, v, h1, h2, h3⟩ := h.gl x _ eG
        exact pv_con (pe_glob (h.glob hg.1) h1 h2 (okN_of hg.2).1) h3
      · rename_i eG
        obtain ⟨n, e1, rfl⟩ := Option.map_eq_some_iff.mp e
        obtain ⟨h1, h2, h3⟩ := tyTab_ok (x, n) (lookup_mem e1)
        exact pv_con (pe_bltn (v := .ty n) (h.glob hg.1) (h.gl x _ eG) h1 rfl h2 h3) fun _ _ => .ty n
      · cases e
    · cases e

/-! ### operators by name -/
def gMulI (x y : T) : M T := match x, y with
  | .int i, .int j => if cMulB i j then ret (.int (i * j)) else bad
  | _, _ => bad
theorem opT_mul {S : Sta} : OpT S gMulI (rI CMul fun i j => .int (i * j)) := by
  intro W σ H ι μ x y tx ty Q hs rx ry h
  unfold gMulI at h
  split at h
  · cases rx; cases ry
    split at h
    · rename_i hc
      unfold cMulB at hc
      rw [Bool.or_eq_true, Bool.and_eq_true, Bool.and_eq_true, decide_eq_true_eq, decide_eq_true_eq, decide_eq_true_eq, decide_eq_true_eq] at hc
      exact ⟨_, _, rfl, rfl, hc, Pst.now h hs (.int _)⟩
    · exact h.elim
  · exact h.elim
def gOp : Operator → Option (T → T → M T)
  | .Add => some gAdd
  | .Sub => some gSub
  | .Mult => some gMulI
  | .FloorDiv => some gFdiv
  | .Mod => some gMod
  | .Pow => some gPow
  | _ => none
theorem gOp_ok {X : Cx} {S : Sta} {op : Operator} {g : T → T → M T} (hK : X.K = S.K) (e : gOp op = some g) : ∃ r, OpR X (binaryOp op) r ∧ OpT S g r := by
  cases op <;> first | (cases e; done) | skip
  · cases e; exact ⟨_, op_addAll, by rw [hK]; exact opT_add⟩
  · cases e; exact ⟨_, op_sub, opT_sub⟩
  · cases e; exact ⟨_, op_mul, opT_mul⟩
  · cases e; exact ⟨_, op_mod, opT_mod⟩
  · cases e; exact ⟨_, op_pow, opT_pow⟩
  · cases e; exact ⟨_, op_fdiv, opT_fdiv⟩
def cOp : CmpOp → Option (T → T → M T)
  | .Eq => some (gEqD false)
  | .NotEq => some (gEqD true)
  | .Lt => some gLt
  | .LtE => some gLe
  | .Gt => some gGt
  | .GtE => some gGe
  | .Is => some gIs
  | .IsNot => some gIsNot
  | .In => some (gIn false)
  | .NotIn => some (gIn true)
theorem cOp_ok {X : Cx} {S : Sta} {k : Nat} {op : CmpOp} {g : T → T → M T} (hK : X.K = S.K) (hr : Room k X.A) (e : cOp op = some g) : ∃ r, OpR X (compareOp op) r ∧ OpT S g r := by
  cases op <;> cases e
  · exact ⟨_, op_eqD hr.units, by rw [hK]; exact opT_eq⟩
  · exact ⟨_, op_neD hr.units, by rw [hK]; exact opT_ne⟩
  · exact ⟨_, op_lt, opT_cmpI⟩
  · exact ⟨_, op_le, opT_cmpI⟩
  · exact ⟨_, op_gt, opT_cmpI⟩
  · exact ⟨_, op_ge, opT_cmpI⟩
  · exact ⟨_, op_isN, opT_is⟩
  · exact ⟨_, op_notN, opT_isNot⟩
  · exact ⟨_, op_in_seq.or (op_dIn (by have := hr.units; omega)), by rw [hK]; exact opT_in false⟩
  · exact ⟨_, op_notIn_seq.or (op_dNotIn (by have := hr.units; omega)), by rw [hK]; exact opT_in true⟩

/-! ### built-ins by name -/
inductive BK where
  | fn (id : String) | ty (n : String)
def bTab : List (Str × BK × (List T → M T)) := [("len", .fn "len", bLen), ("list", .ty "list", bListD), ("tuple", .ty "tuple", bTuple), ("int", .ty "int", bInt), ("isinstance", .fn "isinstance", bIsi), ("all", .fn "all", bAll), ("any", .fn "any", bAny), ("sum", .fn "sum", bSum), ("sorted", .fn "sorted", bSorted), ("max", .fn "max", bMax), ("min", .fn "min", bMin)]
def BOk (X : Cx) (S : Sta) (x : Str) (b : BK) (g : List T → M T) : Prop := x ≠ "__name__" ∧ (x == ("__debug__" : Str)) = false ∧ match b with
  | .fn id => bootBuiltins x = some (.builtin id) ∧ ∃ r, CallR X (.builtin id) r ∧ CallT S g r
  | .ty n => bootBuiltins x = some (.type n) ∧ ∃ r, CallR X (.type n) r ∧ CallT S g r
theorem bTab_ok {X : Cx} {S : Sta} {k : Nat} (hK : X.K = S.K) (hc : X.calm = true) (hr : Room k X.A) : ∀ p ∈ bTab, BOk X S p.1 p.2.1 p.2.2 := by
  intro p hp
  simp only [bTab, List.mem_cons, List.mem_nil_iff, or_false] at hp
  rcases hp with rfl | rfl | rfl | rfl | rfl | rfl | rfl | rfl | rfl | rfl | rfl
  · exact ⟨by decide, by decide, PySem.boot_len, _, call_len, by rw [hK]; exact callT_len⟩
  · exact ⟨by decide, by decide, PyProof.Rows.boot_list, _, CallR.or2 call_list_of (call_list_dK hc), by rw [hK]; exact callT_listD⟩
  · exact ⟨by decide, by decide, PyProof.Rows.boot_tuple, _, call_tuple_of, by rw [hK]; exact callT_tuple⟩
  · exact ⟨by decide, by decide, PyProof.Rows.boot_int, _, call_int1, callT_int⟩
  · exact ⟨by decide, by decide, by decide +kernel, _, call_isi, by rw [hK]; exact callT_isi⟩
  · exact ⟨by decide, by decide, by decide +kernel, _, cr_all hc, by rw [hK]; exact callT_all⟩
  · exact ⟨by decide, by decide, by decide +kernel, _, cr_any hc, by rw [hK]; exact callT_any⟩
  · exact ⟨by decide, by decide, by decide +kernel, _, cr_sum hc, by rw [hK]; exact callT_sum⟩
  · exact ⟨by decide, by decide, by decide +kernel, _, CallR.or2 (cr_sortT hr.units) (cr_sortI hr.units), by rw [hK]; exact callT_sorted⟩
  · exact ⟨by decide, by decide, by decide +kernel, _, CallR.or2 (call_max2 hc) (cr_mx hc hr.units), by rw [hK]; exact callT_mm mx2 mxI⟩
  · exact ⟨by decide, by decide, by decide +kernel, _, CallR.or2 (call_min2 hc) (cr_mn hc hr.units), by rw [hK]; exact callT_mm mn2 mnI⟩

/-! ### targets -/
mutual
def trG : Nat → Ct → Expr → Option (List Nat × (T → Env → Option Env))
  | 0, _, _ => none
  | n + 1, c, e => match e with
    | .Name x _ => if isLoc c x then (idx c.N x).map fun i => ([i], gN i) else none
    | .Tuple es _ _ => (trGs n c es).map fun p => (p.1, gTp p.2)
    | _ => none
def trGs : Nat → Ct → List Expr → Option (List Nat × (List T → Env → Option Env))
  | 0, _, _ => none
  | n + 1, c, es => match es with
    | [] => some ([], gsNil)
    | .Starred _ _ :: _ => none
    | e :: es => match trG n c e, trGs n c es with
      | some p, some q => some (p.1 ++ q.1, gsCons p.2 q.2)
      | _, _ => none
end
theorem trGs_len : ∀ (n : Nat) (c : Ct) (es : List Expr) (is : List Nat) (r : List T → Env → Option Env), trGs n c es = some (is, r) → ∀ ts ρ ρ', r ts ρ = some ρ' → ts.length = es.length
  | 0, _, _, _, _, h => by simp only [trGs] at h; cases h
  | n + 1, c, es, is, r, h => by
    intro ts ρ ρ' e
    unfold trGs at h
    split at h
    · cases h
      cases ts with
      | nil => rfl
      | cons _ _ => cases e
    · cases h
    · split at h
      · rename_i p q e1 e2
        cases h
        cases ts with
        | nil => cases e
        | cons t ts =>
          obtain ⟨ρ1, h1, h2⟩ := Option.bind_eq_some_iff.mp e
          rw [List.length_cons, List.length_cons, trGs_len n c _ q.1 q.2 e2 ts ρ1 ρ' h2]
      · cases h
def noStar (es : List Expr) : Bool := es.all fun e => match e with
  | .Starred .. => false
  | _ => true
theorem trGs_star : ∀ (n : Nat) (c : Ct) (es : List Expr) (p : List Nat × (List T → Env → Option Env)) (env : PySem.Env), trGs n c es = some p → (assignEach es env).length = es.length ∧ (assignEach es env).findIdx? (·.1) = none
  | 0, _, _, _, _, h => by simp only [trGs] at h; cases h
  | n + 1, c, es, p, env, h => by
    unfold trGs at h
    split at h
    · exact ⟨rfl, rfl⟩
    · cases h
    · rename_i e es hne
      split at h
      · rename_i p1 q e1 e2
        obtain ⟨h1, h2⟩ := trGs_star n c es q env e2
        have ha : assignEach (e :: es) env = (false, assign e env) :: assignEach es env := by
          cases e <;> first | rfl | exact (hne _ _ rfl).elim
        rw [ha]
        refine ⟨by rw [List.length_cons, List.length_cons, h1], ?_⟩
        rw [List.findIdx?_cons]
        simp [h2]
      · cases h
theorem assign_no {e : Expr} {es : List Expr} {env : PySem.Env} (h : ∀ a b, e ≠ .Starred a b) : (assignEach (e :: es) env).map (·.2) = assign e env :: (assignEach es env).map (·.2) := by
  cases e <;> first | rfl | exact absurd rfl (h _ _)
mutual
theorem trG_ok {S : Sta} {Φ : Nat → List T → M T} {k : Nat} : ∀ (n : Nat) (c : Ct) (e : Expr) (p : List Nat × (T → Env → Option Env)), trG n c e = some p → ∀ (X : Cx) (W : WX), Cm S Φ k c X W → PG X e (tGv S p.1 p.2)
  | 0, _, _, _, h => by simp only [trG] at h; cases h
  | n + 1, c, e, p, h => by
    intro X W hc
    unfold trG at h
    split at h
    · split at h
      · rename_i hl
        obtain ⟨i, e1, rfl⟩ := Option.map_eq_some_iff.mp h
        exact pg_of_name hc.nodup (hc.ix e1) (hc.loc hl).1 (hc.loc hl).2
      · cases h
    · rename_i es kk pos
      obtain ⟨q, e1, rfl⟩ := Option.map_eq_some_iff.mp h
      obtain ⟨h1, h2⟩ := trGs_star n c es q X.env e1
      exact pg_of_tup hc.hK hc.calm (trGs_ok n c es q e1 X W hc) (trGs_len n c es q.1 q.2 e1) h1 h2
    · cases h
theorem trGs_ok {S : Sta} {Φ : Nat → List T → M T} {k : Nat} : ∀ (n : Nat) (c : Ct) (es : List Expr) (p : List Nat × (List T → Env → Option Env)), trGs n c es = some p → ∀ (X : Cx) (W : WX), Cm S Φ k c X W → PGs X es (tGvs S p.1 p.2)
  | 0, _, _, _, h => by simp only [trGs] at h; cases h
  | n + 1, c, es, p, h => by
    intro X W hc
    unfold trGs at h
    split at h
    · cases h; exact pgs_of_nil
    · cases h
    · rename_i e es hne
      split at h
      · rename_i p1 q e1 e2
        cases h
        exact pgs_of_cons (trG_ok n c e p1 e1 X W hc) (trGs_ok n c es q e2 X W hc) (assign_no fun a b z => hne a b z)
      · cases h
end

/-! ### the translator -/
def isStar : Expr → Bool
  | .Starred .. => true
  | _ => false
theorem star_no {e : Expr} {es : List Expr} {env : PySem.Env} (h : isStar e = false) : starEach (e :: es) env = (false, eval e env) :: starEach es env := by
  cases e <;> first | rfl | cases h
theorem star_any {pos : Pos} {env : PySem.Env} : ∀ {es : List Expr}, es.all (fun e => !isStar e) = true → (backTo pos (starEach es env)).any (·.1) = false
  | [], _ => rfl
  | e :: es, h => by
    rw [List.all_cons, Bool.and_eq_true, Bool.not_eq_true'] at h
    rw [star_no h.1]
    show (false || (backTo pos (starEach es env)).any (·.1)) = false
    rw [star_any h.2]
    rfl
def isSlice : Expr → Bool
  | .Slice .. => true
  | _ => false
theorem plainIx_of {b : Expr} (h : isSlice b = false) : PlainIx b := fun o i => by cases b <;> first | rfl | cases h
def isSetE : Expr → Bool
  | .Set .. => true
  | _ => false
theorem noMark {op : CmpOp} {b : Expr} (h : isSetE b = false) : behindInMarks op b = false := by cases b <;> first | rfl | cases h
/-- expressions whose test is their value's truth -/
def plainTest : Expr → Bool
  | .Name .. => true
  | .Call .. => true
  | .Subscript .. => true
  | .Attribute .. => true
  | .Constant .. => true
  | _ => false
theorem plainTest_of {e : Expr} {env : PySem.Env} (h : plainTest e = true) (whole : Sem Value) : isTrue e env whole = (do let v ← whole; standAt e.pos; holding [v] (truthy v)) := by cases e <;> first | rfl | cases h

/-! ### methods of built-ins by name; list(range(..)); max(.., default=..) -/
def mTab : List (Str × String × String × (T → List T → M T)) := [("append", "list", "list.append", mApp), ("update", "dict", "dict.update", mUpd)]
def MOk (X : Cx) (S : Sta) (name : Str) (Ty id : String) (g : T → List T → M T) : Prop := PlainAttrs Ty ∧ Slot Ty name id ∧ typeOf (.builtin id) = pure (.type "method_descriptor") ∧ ∃ r, MtR X id r ∧ MtT S g r
theorem mTab_ok {X : Cx} {S : Sta} (hK : X.K = S.K) (hc : X.calm = true) : ∀ p ∈ mTab, MOk X S p.1 p.2.1 p.2.2.1 p.2.2.2 := by
  intro p hp
  simp only [mTab, List.mem_cons, List.mem_nil_iff, or_false] at hp
  rcases hp with rfl | rfl
  · exact ⟨PySem.F.plainAttrs_list, PySem.F.slot_list_append, PySem.F.type_list_append, _, mt_append, mtT_app⟩
  · exact ⟨PySem.F.plainAttrs_dict, PySem.F.slot_dict_update, PySem.F.type_dict_update, _, mt_upd hc, by rw [hK]; exact mtT_upd⟩
def plainBase : Expr → Bool
  | .Name .. => true
  | .Subscript .. => true
  | .Attribute .. => true
  | _ => false
theorem plainBase_of {o : Expr} {name : Str} {env : PySem.Env} (h : plainBase o = true) : attributeBase o name env (eval o env) = eval o env := by cases o <;> first | rfl | cases h
theorem star_all {pos : Pos} {env : PySem.Env} : ∀ {es : List Expr}, es.all (fun e => !isStar e) = true → (backTo pos (starEach es env)).all (fun x => !x.1) = true
  | [], _ => rfl
  | e :: es, h => by
    rw [List.all_cons, Bool.and_eq_true, Bool.not_eq_true'] at h
    rw [star_no h.1]
    show (true && (backTo pos (starEach es env)).all (fun x => !x.1)) = true
    rw [star_all h.2]
    rfl
theorem few_of {pos : Pos} {env : PySem.Env} {e : Expr} {es : List Expr} (h : (e :: es).all (fun e => !isStar e) = true) (hl : (e :: es).length < 29) : ((backTo pos (starEach (e :: es) env)).all (fun x => !x.1) && (backToKw pos (keywordEach [] env)).all (fun x => x.1.isSome)
      && decide ((e :: es).length + ([] : List Keyword).length + (if ([] : List Keyword).isEmpty then 0 else 1) < 30)) = true := by
  rw [star_all h]
  show (true && true && decide ((e :: es).length + 0 + 0 < 30)) = true
  rw [decide_eq_true (by omega)]
  rfl
def rgArg : Str → List Expr → Option (Bool × List Expr)
  | x, [.Call (.Name y _) as [] _] => if y = "range" then (if x = "list" then some (true, as) else if x = "tuple" then some (false, as) else none) else none
  | _, _ => none
theorem rgArg_of {x : Str} {es as : List Expr} {k : Bool} (h : rgArg x es = some (k, as)) : ∃ q sp, es = [.Call (.Name "range" q) as [] sp] ∧ ((k = true ∧ x = "list") ∨ (k = false ∧ x = "tuple")) := by
  unfold rgArg at h
  split at h
  · split at h
    · rename_i hy
      subst hy
      split at h
      · rename_i hx
        cases h
        exact ⟨_, _, rfl, .inl ⟨rfl, hx⟩⟩
      · split at h
        · rename_i hx
          cases h
          exact ⟨_, _, rfl, .inr ⟨rfl, hx⟩⟩
        · cases h
    · cases h
  · cases h
def kwTab : List (Str × (Int → List Int → Int)) := [("max", mxI), ("min", mnI)]
theorem kwTab_ok {X : Cx} {k : Nat} (hc : X.calm = true) (hr : Room k X.A) : ∀ p ∈ kwTab, p.1 ≠ "__name__" ∧ (p.1 == ("__debug__" : Str)) = false ∧ ∃ id, bootBuiltins p.1 = some (.builtin id) ∧ CallRK X (.builtin id) ["default"] (rMMd X.K p.2) := by
  intro p hp
  simp only [kwTab, List.mem_cons, List.mem_nil_iff, or_false] at hp
  rcases hp with rfl | rfl
  · exact ⟨by decide, by decide, "max", by decide +kernel, cr_mxd hc hr.units⟩
  · exact ⟨by decide, by decide, "min", by decide +kernel, cr_mnd hc hr.units⟩
def zipP {α : Type} : List α → List α → Option (List (α × α))
  | [], [] => some []
  | a :: as, b :: bs => (zipP as bs).map ((a, b) :: ·)
  | _, _ => none
def ownOf (N : List Str) (scope : Scope) : List (Str × Nat) := scope.names.filterMap fun y => match y.2 with
  | .local => (idx N y.1).map fun i => (y.1, i)
  | .cell => (idx N y.1).map fun i => (y.1, i)
  | _ => none
def Ct.blk (c : Ct) (scope : Scope) : Ct := { c with sc := relS scope c.sc, fv := fun x => scope.names.lookup x == some .cell }
mutual
def trE (Φ : Nat → List T → M T) : Nat → Ct → Expr → Option (Env → M T)
  | 0, _, _ => none
  | n + 1, c, e => match e with
    | .Name x _ => trName c x
    | .Constant (.int i) _ _ => some (cK (.int i))
    | .Constant (.bool i) _ _ => some (cK (.bl i))
    | .Constant .none _ _ => some (cK .non)
    | .Constant (.str i) _ _ => some (cK (.str i))
    | .BinOp a op b _ => match gOp op, trE Φ n c a, trE Φ n c b with
      | some g, some fa, some fb => some (c2 g fa fb)
      | _, _, _ => none
    | .Compare a [op] [b] _ => if isSetE b then none else match cOp op, trE Φ n c a, trE Φ n c b with
      | some g, some fa, some fb => some (c2 g fa fb)
      | _, _, _ => none
    | .Compare a [op, op'] [b, d] _ => if isSetE d then none else match cOp op, cOp op', trE Φ n c a, trE Φ n c b, trE Φ n c d with
      | some g, some g', some fa, some fb, some fd => some (cChain g g' fa fb fd)
      | _, _, _, _, _ => none
    | .UnaryOp .Not a _ => (trE Φ n c a).map cNotT
    | .UnaryOp .USub a _ => (trE Φ n c a).map (c1 gNeg)
    | .BoolOp _ [a] _ => trE Φ n c a
    | .BoolOp .And (a :: b :: r) p => match trE Φ n c a, trE Φ n c (.BoolOp .And (b :: r) p) with
      | some fa, some fb => some (cAndT fa fb)
      | _, _ => none
    | .BoolOp .Or (a :: b :: r) p => match trE Φ n c a, trE Φ n c (.BoolOp .Or (b :: r) p) with
      | some fa, some fb => some (cOrT fa fb)
      | _, _ => none
    | .IfExp t a b _ => match trT Φ n c t, trE Φ n c a, trE Φ n c b with
      | some ft, some fa, some fb => some (cIf ft fa fb)
      | _, _, _ => none
    | .Tuple es _ _ => (trA Φ n c es).map (cN mTup)
    | .List es _ => (trA Φ n c es).map (cN mLst)
    | .Subscript a (.Slice lo hi none _) _ => match trE Φ n c a, trO Φ n c lo, trO Φ n c hi with
      | some fa, some fl, some fh => some (cSlice fa fl fh)
      | _, _, _ => none
    | .Subscript a b _ => if isSlice b then none else match trE Φ n c a, trE Φ n c b with
      | some fa, some fb => some (c2 gIxD fa fb)
      | _, _ => none
    | .Call (.Name x _) (a :: as) [] _ => match rgArg x (a :: as) with
      | some (k, [b]) => if isGl c.sc x && isGl c.sc "range" && !isStar b then match c.G x, c.G "range", trE Φ n c b with
          | some .blt, some .blt, some fb => some (cRgL1 (if k then .lst else .tup) fb)
          | _, _, _ => none else none
      | some (true, [b, d]) => if isGl c.sc x && isGl c.sc "range" && !isStar b && !isStar d then match c.G x, c.G "range", trE Φ n c b, trE Φ n c d with
          | some .blt, some .blt, some fb, some fd => some (cRgL2 .lst fb fd)
          | _, _, _, _ => none else none
      | some _ => none
      | none => if isGl c.sc x && okN x && (a :: as).all (fun e => !isStar e) then match c.G x, trA Φ n c (a :: as) with
          | some (.fn i m), some fa => some (cCall m (Φ i) fa)
          | some .blt, some fa => (bTab.lookup x).map fun p => cN p.2 fa
          | _, _ => none
        else none
    | .Call (.Name x _) [a] [⟨some kw, d, _⟩] _ => if kw = "default" && isGl c.sc x && !isStar a then match c.G x, kwTab.lookup x, trA Φ n c [a], trE Φ n c d with
        | some .blt, some g, some fa, some fd => some (cKw (kMM g) fa fd)
        | _, _, _, _ => none else none
    | .Call (.Attribute o name apos) (a :: as) [] cpos => if plainBase o && apos.endLine == cpos.line && (a :: as).all (fun e => !isStar e) && decide ((a :: as).length < 29) then match mTab.lookup name, trE Φ n c o, trA Φ n c (a :: as) with
        | some p, some fo, some fa => some (cMeth p.1 p.2.2 fo fa)
        | _, _, _ => none else none
    | .Dict keys values _ => if keys.all (·.isSome) && decide (keys.length = values.length) && !keys.isEmpty && decide (keys.length ≤ 15) then (trP Φ n c keys values).map cDisp else none
    | .ListComp elt [⟨tg, iter, ifs, 0⟩, ⟨tg1, iter1, ifs1, 0⟩] scope _ =>
      if blkC c.N c.sc scope (ownOf c.N scope) && !isSetE iter && !isSetE iter1 then match trI Φ n c tg iter, trG n (c.blk scope) tg, trIf Φ n (c.blk scope) ifs, trI Φ n (c.blk scope) tg1 iter1, trG n (c.blk scope) tg1, trIf Φ n (c.blk scope) ifs1, trE Φ n (c.blk scope) elt with
        | some fi, some p, some fc, some fi1, some p1, some fc1, some fa => if (p.1.all fun i => decide (i ∈ (ownOf c.N scope).map (·.2))) && (p1.1.all fun i => decide (i ∈ (ownOf c.N scope).map (·.2))) then some (cLc2 fi p.2 fc fi1 p1.2 fc1 fa ((ownOf c.N scope).map (·.2)) p1.1) else none
        | _, _, _, _, _, _, _ => none
      else none
    | .ListComp elt [⟨tg, iter, ifs, 0⟩] scope _ =>
      if blkC c.N c.sc scope (ownOf c.N scope) && !isSetE iter then match trI Φ n c tg iter, trG n (c.blk scope) tg, trIf Φ n (c.blk scope) ifs, trE Φ n (c.blk scope) elt with
        | some fi, some p, some fc, some fa => if p.1.all fun i => decide (i ∈ (ownOf c.N scope).map (·.2)) then some (cLc fi p.2 fc fa ((ownOf c.N scope).map (·.2))) else none
        | _, _, _, _ => none
      else none
    | _ => none
def trT (Φ : Nat → List T → M T) : Nat → Ct → Expr → Option (Env → M Bool)
  | 0, _, _ => none
  | n + 1, c, e => match e with
    | .UnaryOp .Not a _ => (trT Φ n c a).map cNot
    | .BoolOp _ [a] _ => trT Φ n c a
    | .BoolOp .And (a :: b :: r) p => match trT Φ n c a, trT Φ n c (.BoolOp .And (b :: r) p) with
      | some fa, some fb => some (cAnd fa fb)
      | _, _ => none
    | .BoolOp .Or (a :: b :: r) p => match trT Φ n c a, trT Φ n c (.BoolOp .Or (b :: r) p) with
      | some fa, some fb => some (cOr fa fb)
      | _, _ => none
    | .Compare a [op] [b] _ => if isSetE b then none else match cOp op, trE Φ n c a, trE Φ n c b with
      | some g, some fa, some fb => some (cTest (c2 g fa fb))
      | _, _, _ => none
    | .Compare a [op, op'] [b, d] _ => if isSetE d then none else match cOp op, cOp op', trE Φ n c a, trE Φ n c b, trE Φ n c d with
      | some g, some g', some fa, some fb, some fd => some (cTest (cChain g g' fa fb fd))
      | _, _, _, _, _ => none
    | e => if plainTest e then (trE Φ n c e).map cTru else none
def trA (Φ : Nat → List T → M T) : Nat → Ct → List Expr → Option (Env → M (List T))
  | 0, _, _ => none
  | n + 1, c, es => match es with
    | [] => some aNil
    | .Starred a _ :: r => match trE Φ n c a, trA Φ n c r with
      | some fa, some fr => some (aStar fa fr)
      | _, _ => none
    | a :: r => match trE Φ n c a, trA Φ n c r with
      | some fa, some fr => some (aCons fa fr)
      | _, _ => none
def trP (Φ : Nat → List T → M T) : Nat → Ct → List (Option Expr) → List Expr → Option (List ((Env → M T) × (Env → M T)))
  | 0, _, _, _ => none
  | n + 1, c, ks, vs => match ks, vs with
    | [], [] => some []
    | some k :: ks, v :: vs => match trE Φ n c k, trE Φ n c v, trP Φ n c ks vs with
      | some fk, some fv, some r => some ((fk, fv) :: r)
      | _, _, _ => none
    | _, _ => none
def trO (Φ : Nat → List T → M T) : Nat → Ct → Option Expr → Option (Env → M (Option Int))
  | 0, _, _ => none
  | n + 1, c, o => match o with
    | none => some oNone
    | some a => (trE Φ n c a).map oSome
def trIf (Φ : Nat → List T → M T) : Nat → Ct → List Expr → Option (Env → M Bool)
  | 0, _, _ => none
  | n + 1, c, es => match es with
    | [] => some cYes
    | [a] => trT Φ n c a
    | _ => none
def trI (Φ : Nat → List T → M T) : Nat → Ct → Expr → Expr → Option (Env → M (List T))
  | 0, _, _, _ => none
  | n + 1, c, tg, e => match e with
    | .Call (.Name x _) [a] [] _ => if x = "range" then (if isGl c.sc x && !isStar a then match c.G x, trA Φ n c [a] with
        | some .blt, some fa => some (iRg1 fa)
        | _, _ => none else none)
      else if x = "enumerate" then (match tg with
        | .Tuple _ _ _ => if isGl c.sc x && !isStar a then match c.G x, trA Φ n c [a] with
          | some .blt, some fa => some (iEn fa)
          | _, _ => none else none
        | _ => none)
      else (trE Φ n c e).map iSeq
    | .Call (.Name x _) [a, b] [] _ => if x = "range" then (if isGl c.sc x && !isStar a && !isStar b then match c.G x, trA Φ n c [a, b] with
        | some .blt, some fa => some (iRg2 fa)
        | _, _ => none else none)
      else if x = "zip" then (match tg with
        | .Tuple _ _ _ => if isGl c.sc x && !isStar a && !isStar b then match c.G x, trA Φ n c [a, b] with
          | some .blt, some fa => some (iZp fa)
          | _, _ => none else none
        | _ => none)
      else (trE Φ n c e).map iSeq
    | e => (trE Φ n c e).map iSeq
end

/-! ### .. is right -/
theorem star1 {e : Expr} {env : PySem.Env} (h : isStar e = false) : starEach [e] env = [(false, eval e env)] := star_no h
theorem takes_w0 {X : Cx} : Takes X W0 := fun _ _ x => by
  obtain ⟨_, _, _, _, _, _, _, _, _, _, _, _, _, _, _, _, z⟩ := x
  exact z.elim
theorem Cm.blk {S : Sta} {Φ : Nat → List T → M T} {k : Nat} {c : Ct} {X : Cx} {W : WX} (h : Cm S Φ k c X W) {scope : Scope} (ok : BlkOk X.N X.env.scope scope (ownOf c.N scope)) (s : Shared) (H : Hp) (C : Addr) (cl : List (Str × Addr)) (fp : List Addr) :
    Cm S Φ k (c.blk scope) (X.blk s H scope (compEnvC scope cl C X.env) fp) W0 where
  hK := h.hK
  hN := h.hN
  nd := h.nd
  sc := by
    show relS scope X.env.scope = relS scope c.sc
    rw [h.sc]
  kd := ok.kind
  calm := h.calm
  fn := fun x e => e
  tk := takes_w0
  pass := PassesOwn.never
  room := h.room
  gl := fun x g e => by
    have q := h.gl x g e
    cases g with
    | fn i n => exact q
    | kon t => exact q
    | blt => exact q
end Tw

/-! Tw10: the translator is right -/
namespace Tw
open PySem L2
section
variable {S : Sta} {Φ : Nat → List T → M T} {k : Nat}
theorem foldSet {iter : Expr} {env : PySem.Env} (h : isSetE iter = false) (x : Value) : foldedSetIterable iter env x = pure x := by cases iter <;> first | rfl | cases h
theorem not_true {b : Bool} (h : (!b) = true) : b = false := by cases b <;> first | rfl | cases h
mutual
theorem trE_ok : ∀ (n : Nat) (c : Ct) (e : Expr) (f : Env → M T), trE Φ n c e = some f → ∀ (X : Cx) (W : WX), Cm S Φ k c X W → PV X S W e f
  | 0, _, _, _, h => by simp only [trE] at h; cases h
  | n + 1, c, e, f, h => by
    intro X W hc
    unfold trE at h
    split at h
    · exact trName_ok hc h
    · cases h; exact pv_int
    · cases h; exact pv_bl
    · cases h; exact pv_non
    · cases h; exact pv_str
    · -- BinOp
      split at h
      · rename_i g fa fb eg ea eb
        cases h
        obtain ⟨r, h1, h2⟩ := gOp_ok hc.hK eg
        exact pv_op h1 h2 (trE_ok n c _ _ ea X W hc) (trE_ok n c _ _ eb X W hc)
      · cases h
    · -- Compare
      split at h
      · cases h
      · rename_i hm
        split at h
        · rename_i g fa fb eg ea eb
          cases h
          obtain ⟨r, h1, h2⟩ := cOp_ok hc.hK hc.room eg
          exact pv_cmp h1 h2 (trE_ok n c _ _ ea X W hc) (trE_ok n c _ _ eb X W hc) (noMark (by simpa using hm))
        · cases h
    · -- chain
      split at h
      · cases h
      · rename_i hm
        split at h
        · rename_i g g' fa fb fd eg eg' ea eb ed
          cases h
          obtain ⟨r, h1, h2⟩ := cOp_ok hc.hK hc.room eg
          obtain ⟨r', h1', h2'⟩ := cOp_ok hc.hK hc.room eg'
          exact pv_chain h1 h1' h2 h2' (trE_ok n c _ _ ea X W hc) (trE_ok n c _ _ eb X W hc) (trE_ok n c _ _ ed X W hc) (noMark (by simpa using hm))
        · cases h
    · -- not
      obtain ⟨fa, ea, rfl⟩ := Option.map_eq_some_iff.mp h
      exact pv_notT hc.hK (trE_ok n c _ _ ea X W hc)
    · obtain ⟨fa, ea, rfl⟩ := Option.map_eq_some_iff.mp h
      exact pv_neg (trE_ok n c _ _ ea X W hc)
    · exact pv_one (trE_ok n c _ _ h X W hc)
    · split at h
      · rename_i fa fb ea eb
        cases h
        exact pv_andT hc.hK (trE_ok n c _ _ ea X W hc) (trE_ok n c _ _ eb X W hc)
      · cases h
    · split at h
      · rename_i fa fb ea eb
        cases h
        exact pv_orT hc.hK (trE_ok n c _ _ ea X W hc) (trE_ok n c _ _ eb X W hc)
      · cases h
    · -- if
      split at h
      · rename_i ft fa fb et ea eb
        cases h
        exact pv_if (trT_ok n c _ _ et X W hc) (trE_ok n c _ _ ea X W hc) (trE_ok n c _ _ eb X W hc)
      · cases h
    · obtain ⟨fa, ea, rfl⟩ := Option.map_eq_some_iff.mp h
      exact pv_tup (trA_ok n c _ _ ea X W hc)
    · obtain ⟨fa, ea, rfl⟩ := Option.map_eq_some_iff.mp h
      exact pv_lst (trA_ok n c _ _ ea X W hc)
    · -- slice
      split at h
      · rename_i fa fl fh ea el eh
        cases h
        exact pv_slice hc.hK (trE_ok n c _ _ ea X W hc) (trO_ok n c _ _ el X W hc) (trO_ok n c _ _ eh X W hc)
      · cases h
    · -- subscript
      split at h
      · cases h
      · rename_i hm
        split at h
        · rename_i fa fb ea eb
          cases h
          exact pv_ixD hc.room hc.hK (trE_ok n c _ _ ea X W hc) (trE_ok n c _ _ eb X W hc) (plainIx_of (by simpa using hm))
        · cases h
    · -- call
      split at h
      · rename_i k b er
        obtain ⟨q, sp, e1, hk⟩ := rgArg_of er
        cases e1
        split at h
        · rename_i hg
          rw [Bool.and_eq_true, Bool.and_eq_true] at hg
          split at h
          · rename_i fb eG eG2 eb
            cases h
            rcases hk with ⟨rfl, rfl⟩ | ⟨rfl, rfl⟩
            · exact pv_lstRg1 hc.calm (hc.glob hg.1.1) (hc.gl _ _ eG) (hc.glob hg.1.2) (hc.gl _ _ eG2) (trE_ok n c _ _ eb X W hc) (star1 (not_true hg.2))
            · exact pv_tupRg1 hc.calm (hc.glob hg.1.1) (hc.gl _ _ eG) (hc.glob hg.1.2) (hc.gl _ _ eG2) (trE_ok n c _ _ eb X W hc) (star1 (not_true hg.2))
          · cases h
        · cases h
      · rename_i b d er
        obtain ⟨q, sp, e1, hk⟩ := rgArg_of er
        cases e1
        split at h
        · rename_i hg
          rw [Bool.and_eq_true, Bool.and_eq_true, Bool.and_eq_true] at hg
          split at h
          · rename_i fb fd eG eG2 eb ed
            cases h
            rcases hk with ⟨_, rfl⟩ | ⟨z, _⟩
            · exact pv_lstRg2 hc.calm (hc.glob hg.1.1.1) (hc.gl _ _ eG) (hc.glob hg.1.1.2) (hc.gl _ _ eG2) (trE_ok n c _ _ eb X W hc) (trE_ok n c _ _ ed X W hc) (star_no (not_true hg.1.2)) (star1 (not_true hg.2))
            · cases z
          · cases h
        · cases h
      · cases h
      · split at h
        · rename_i hg
          rw [Bool.and_eq_true, Bool.and_eq_true] at hg
          have ha := hg.2
          rw [List.all_cons, Bool.and_eq_true] at ha
          split at h
          · rename_i i m fa eG ea
            cases h
            obtain ⟨fa', fd, ps, h1, h2, h3, h4, h5⟩ := hc.gl _ _ eG
            exact pv_call hc.hK hc.tk h4 hc.room (hc.glob hg.1.1) h2 h3 h5 (trA_ok n c _ _ ea X W hc) (okN_of hg.1.2).1 (star_no (not_true ha.1)) (star_any ha.2)
          · rename_i fa eG ea
            obtain ⟨p, e1, rfl⟩ := Option.map_eq_some_iff.mp h
            obtain ⟨h1, h2, h3⟩ := bTab_ok (S := S) hc.hK hc.calm hc.room (_, p) (lookup_mem e1)
            obtain ⟨b, g⟩ := p
            cases b with
            | fn id =>
              obtain ⟨h4, r, h5, h6⟩ := h3
              exact pv_callB h5 h6 (hc.glob hg.1.1) (hc.gl _ _ eG) h4 (trA_ok n c _ _ ea X W hc) h1 h2 (star_no (not_true ha.1)) (star_any ha.2)
            | ty id =>
              obtain ⟨h4, r, h5, h6⟩ := h3
              exact pv_callTy h5 h6 (hc.glob hg.1.1) (hc.gl _ _ eG) h4 (trA_ok n c _ _ ea X W hc) h1 h2 (star_no (not_true ha.1)) (star_any ha.2)
          · cases h
        · cases h
    · -- default=
      split at h
      · rename_i hg
        rw [Bool.and_eq_true, Bool.and_eq_true, decide_eq_true_eq] at hg
        obtain ⟨⟨rfl, hg1⟩, hg2⟩ := hg
        split at h
        · rename_i g fa fd eG ek ea ed
          cases h
          obtain ⟨h1, h2, id, h3, h4⟩ := kwTab_ok (X := X) hc.calm hc.room (_, g) (lookup_mem ek)
          exact pv_mmd hc.hK h4 (hc.glob hg1) (hc.gl _ _ eG) h3 (trA_ok n c _ _ ea X W hc) (trE_ok n c _ _ ed X W hc) h1 h2 (star1 (not_true hg2))
        · cases h
      · cases h
    · -- method
      split at h
      · rename_i hg
        rw [Bool.and_eq_true, Bool.and_eq_true, Bool.and_eq_true, decide_eq_true_eq] at hg
        have ha := hg.1.2
        rw [List.all_cons, Bool.and_eq_true] at ha
        split at h
        · rename_i p fo fa em eo ea
          cases h
          obtain ⟨h1, h2, h3, r, h4, h5⟩ := mTab_ok (X := X) (S := S) hc.hK hc.calm (_, p) (lookup_mem em)
          exact pv_meth hc.hK h1 h2 h3 h4 h5 (trE_ok n c _ _ eo X W hc) (trA_ok n c _ _ ea X W hc) (plainBase_of hg.1.1.1) (few_of hg.1.2 hg.2) hg.1.1.2 (star_no (not_true ha.1)) (star_any ha.2)
        · cases h
      · cases h
    · -- dict
      split at h
      · rename_i hg
        rw [Bool.and_eq_true, Bool.and_eq_true, Bool.and_eq_true, decide_eq_true_eq, decide_eq_true_eq] at hg
        obtain ⟨fs, ef, rfl⟩ := Option.map_eq_some_iff.mp h
        exact pv_disp (trP_ok n c _ _ _ ef X W hc _) hg.1.1.1 hg.1.1.2 (by intro z; rw [z] at hg; simp at hg) hg.2
      · cases h
    · -- two fors
      rename_i elt tg iter ifs tg1 iter1 ifs1 scope pos
      split at h
      · rename_i hg
        rw [Bool.and_eq_true, Bool.and_eq_true] at hg
        split at h
        · rename_i fi p fc fi1 p1 fc1 fa ei ep ec ei1 ep1 ec1 ea
          split at h
          · rename_i hv
            rw [Bool.and_eq_true] at hv
            cases h
            have ok : BlkOk X.N X.env.scope scope (ownOf c.N scope) := by rw [hc.hN, hc.sc]; exact blkOk_by hg.1.1
            exact pv_lc2 hc.calm hc.nodup (trI_ok n c _ _ _ ei X W hc) ok (fun i hi => of_decide_eq_true (List.all_eq_true.mp hv.1 i hi)) (fun i hi => of_decide_eq_true (List.all_eq_true.mp hv.2 i hi))
              (fun s H C cl fp => trG_ok n (c.blk scope) tg p ep _ W0 (hc.blk ok s H C cl fp)) (fun s H C cl fp => trIf_ok n (c.blk scope) ifs fc ec _ W0 (hc.blk ok s H C cl fp))
              (fun s H C cl fp => trI_ok n (c.blk scope) tg1 iter1 fi1 ei1 _ W0 (hc.blk ok s H C cl fp)) (fun s H C cl fp => trG_ok n (c.blk scope) tg1 p1 ep1 _ W0 (hc.blk ok s H C cl fp)) (fun s H C cl fp => trIf_ok n (c.blk scope) ifs1 fc1 ec1 _ W0 (hc.blk ok s H C cl fp))
              (fun s H C cl fp => trE_ok n (c.blk scope) elt fa ea _ W0 (hc.blk ok s H C cl fp)) (foldSet (not_true hg.1.2)) (fun env x => foldSet (not_true hg.2) x)
          · cases h
        · cases h
      · cases h
    · -- comprehension
      rename_i elt tg iter ifs scope pos
      split at h
      · rename_i hg
        rw [Bool.and_eq_true] at hg
        split at h
        · rename_i fi p fc fa ei ep ec ea
          split at h
          · rename_i hv
            cases h
            have ok : BlkOk X.N X.env.scope scope (ownOf c.N scope) := by rw [hc.hN, hc.sc]; exact blkOk_by hg.1
            exact pv_lc hc.calm hc.nodup (trI_ok n c _ _ _ ei X W hc) ok (fun i hi => of_decide_eq_true (List.all_eq_true.mp hv i hi))
              (fun s H C cl fp => trG_ok n (c.blk scope) tg p ep _ W0 (hc.blk ok s H C cl fp)) (fun s H C cl fp => trIf_ok n (c.blk scope) ifs fc ec _ W0 (hc.blk ok s H C cl fp))
              (fun s H C cl fp => trE_ok n (c.blk scope) elt fa ea _ W0 (hc.blk ok s H C cl fp)) (foldSet (not_true hg.2))
          · cases h
        · cases h
      · cases h
    · cases h
theorem trT_ok : ∀ (n : Nat) (c : Ct) (e : Expr) (f : Env → M Bool), trT Φ n c e = some f → ∀ (X : Cx) (W : WX), Cm S Φ k c X W → PVt X S W e f
  | 0, _, _, _, h => by simp only [trT] at h; cases h
  | n + 1, c, e, f, h => by
    intro X W hc
    unfold trT at h
    split at h
    · obtain ⟨fa, ea, rfl⟩ := Option.map_eq_some_iff.mp h
      exact pvt_not (trT_ok n c _ _ ea X W hc)
    · exact (pvw_one (trT_ok n c _ _ h X W hc)).pt
    · split at h
      · rename_i fa fb ea eb
        cases h
        exact (pvw_and (trT_ok n c _ _ ea X W hc) (trW_ok n c _ _ _ _ eb X W hc)).pt
      · cases h
    · split at h
      · rename_i fa fb ea eb
        cases h
        exact (pvw_or (trT_ok n c _ _ ea X W hc) (trW_ok n c _ _ _ _ eb X W hc)).pt
      · cases h
    · split at h
      · cases h
      · rename_i hm
        split at h
        · rename_i g fa fb eg ea eb
          cases h
          obtain ⟨r, h1, h2⟩ := cOp_ok hc.hK hc.room eg
          exact pvt_cmp h1 h2 (trE_ok n c _ _ ea X W hc) (trE_ok n c _ _ eb X W hc) (noMark (by simpa using hm))
        · cases h
    · split at h
      · cases h
      · rename_i hm
        split at h
        · rename_i g g' fa fb fd eg eg' ea eb ed
          cases h
          obtain ⟨r, h1, h2⟩ := cOp_ok hc.hK hc.room eg
          obtain ⟨r', h1', h2'⟩ := cOp_ok hc.hK hc.room eg'
          exact pvt_chain h1 h1' h2 h2' (trE_ok n c _ _ ea X W hc) (trE_ok n c _ _ eb X W hc) (trE_ok n c _ _ ed X W hc) (noMark (by simpa using hm))
        · cases h
    · split at h
      · rename_i hp
        obtain ⟨fa, ea, rfl⟩ := Option.map_eq_some_iff.mp h
        exact pvt_tru hc.hK (trE_ok n c _ _ ea X W hc) (plainTest_of hp)
      · cases h
theorem trW_ok : ∀ (n : Nat) (c : Ct) (op : BoolOp) (vs : List Expr) (p : Pos) (f : Env → M Bool), trT Φ n c (.BoolOp op vs p) = some f → ∀ (X : Cx) (W : WX), Cm S Φ k c X W → PVw X S W (.BoolOp op vs p) f
  | 0, _, _, _, _, _, h => by simp only [trT] at h; cases h
  | n + 1, c, op, [], p, f, h => by
    cases op <;> (unfold trT at h; cases h)
  | n + 1, c, op, [a], p, f, h => by
    intro X W hc
    have h' : trT Φ n c a = some f := by cases op <;> (unfold trT at h; exact h)
    exact pvw_one (trT_ok n c _ _ h' X W hc)
  | n + 1, c, .And, a :: b :: r, p, f, h => by
    intro X W hc
    unfold trT at h
    dsimp only at h
    split at h
    · rename_i fa fb ea eb
      cases h
      exact pvw_and (trT_ok n c _ _ ea X W hc) (trW_ok n c _ _ _ _ eb X W hc)
    · cases h
  | n + 1, c, .Or, a :: b :: r, p, f, h => by
    intro X W hc
    unfold trT at h
    dsimp only at h
    split at h
    · rename_i fa fb ea eb
      cases h
      exact pvw_or (trT_ok n c _ _ ea X W hc) (trW_ok n c _ _ _ _ eb X W hc)
    · cases h
theorem trA_ok : ∀ (n : Nat) (c : Ct) (es : List Expr) (f : Env → M (List T)), trA Φ n c es = some f → ∀ (X : Cx) (W : WX), Cm S Φ k c X W → PVa X S W es f
  | 0, _, _, _, h => by simp only [trA] at h; cases h
  | n + 1, c, es, f, h => by
    intro X W hc
    unfold trA at h
    split at h
    · cases h; exact pva_nil
    · split at h
      · rename_i fa fr ea er
        cases h
        exact pva_star hc.hK (trE_ok n c _ _ ea X W hc) (trA_ok n c _ _ er X W hc)
      · cases h
    · rename_i a r hne
      split at h
      · rename_i fa fr ea er
        cases h
        exact pva_cons (trE_ok n c _ _ ea X W hc) (trA_ok n c _ _ er X W hc) (star_no (by cases a <;> first | rfl | exact (hne _ _ rfl).elim))
      · cases h
theorem trP_ok : ∀ (n : Nat) (c : Ct) (ks : List (Option Expr)) (vs : List Expr) (fs : List ((Env → M T) × (Env → M T))), trP Φ n c ks vs = some fs → ∀ (X : Cx) (W : WX), Cm S Φ k c X W → ∀ pos, PPs X pos ks vs (fs.map fun p => (tEv S W p.1, tEv S W p.2))
  | 0, _, _, _, _, h => by simp only [trP] at h; cases h
  | n + 1, c, ks, vs, fs, h => by
    intro X W hc pos
    unfold trP at h
    split at h
    · cases h; exact pps_nil
    · split at h
      · rename_i fk fv r ek ev er
        cases h
        exact pps_cons (trE_ok n c _ _ ek X W hc) (trE_ok n c _ _ ev X W hc) (trP_ok n c _ _ _ er X W hc pos)
      · cases h
    · cases h
theorem trO_ok : ∀ (n : Nat) (c : Ct) (o : Option Expr) (f : Env → M (Option Int)), trO Φ n c o = some f → ∀ (X : Cx) (W : WX), Cm S Φ k c X W → PO X o (tOv S W f)
  | 0, _, _, _, h => by simp only [trO] at h; cases h
  | n + 1, c, o, f, h => by
    intro X W hc
    unfold trO at h
    split at h
    · cases h; exact pvo_none
    · obtain ⟨fa, ea, rfl⟩ := Option.map_eq_some_iff.mp h
      exact pvo_some (trE_ok n c _ _ ea X W hc)
theorem trIf_ok : ∀ (n : Nat) (c : Ct) (es : List Expr) (f : Env → M Bool), trIf Φ n c es = some f → ∀ (X : Cx) (W : WX), Cm S Φ k c X W → PTs X es (tTv S W f)
  | 0, _, _, _, h => by simp only [trIf] at h; cases h
  | n + 1, c, es, f, h => by
    intro X W hc
    unfold trIf at h
    split at h
    · cases h; exact pts_of_nil
    · exact pts_one (trT_ok n c _ _ h X W hc)
    · cases h
theorem trI_ok : ∀ (n : Nat) (c : Ct) (tg e : Expr) (f : Env → M (List T)), trI Φ n c tg e = some f → ∀ (X : Cx) (W : WX), Cm S Φ k c X W → PVi X S W tg e f
  | 0, _, _, _, _, h => by simp only [trI] at h; cases h
  | n + 1, c, tg, e, f, h => by
    intro X W hc
    unfold trI at h
    split at h
    · split at h
      · rename_i hx
        subst hx
        split at h
        · rename_i hg
          rw [Bool.and_eq_true] at hg
          split at h
          · rename_i fa eG ea
            cases h
            exact pvi_range1 (hc.glob hg.1) (hc.gl _ _ eG) (trA_ok n c _ _ ea X W hc) (star1 (not_true hg.2))
          · cases h
        · cases h
      · split at h
        · rename_i _ hx
          subst hx
          split at h
          · split at h
            · rename_i hg
              rw [Bool.and_eq_true] at hg
              split at h
              · rename_i fa eG ea
                cases h
                exact pvi_enum hc.hK (hc.glob hg.1) (hc.gl _ _ eG) (trA_ok n c _ _ ea X W hc) (star1 (not_true hg.2))
              · cases h
            · cases h
          · cases h
        · obtain ⟨fa, ea, rfl⟩ := Option.map_eq_some_iff.mp h
          exact pvi_seq hc.hK (trE_ok n c _ _ ea X W hc)
    · split at h
      · rename_i hx
        subst hx
        split at h
        · rename_i hg
          rw [Bool.and_eq_true, Bool.and_eq_true] at hg
          split at h
          · rename_i fa eG ea
            cases h
            exact pvi_range2 (hc.glob hg.1.1) (hc.gl _ _ eG) (trA_ok n c _ _ ea X W hc) (by rw [star_no (not_true hg.1.2), star1 (not_true hg.2)]) (star1 (not_true hg.2))
          · cases h
        · cases h
      · split at h
        · rename_i _ hx
          subst hx
          split at h
          · split at h
            · rename_i hg
              rw [Bool.and_eq_true, Bool.and_eq_true] at hg
              split at h
              · rename_i fa eG ea
                cases h
                exact pvi_zip hc.hK (hc.glob hg.1.1) (hc.gl _ _ eG) (trA_ok n c _ _ ea X W hc) (star_no (not_true hg.1.2)) (star_any (by rw [List.all_cons, Bool.and_eq_true]; exact ⟨hg.2, rfl⟩))
              · cases h
            · cases h
          · cases h
        · obtain ⟨fa, ea, rfl⟩ := Option.map_eq_some_iff.mp h
          exact pvi_seq hc.hK (trE_ok n c _ _ ea X W hc)
    · obtain ⟨fa, ea, rfl⟩ := Option.map_eq_some_iff.mp h
      exact pvi_seq hc.hK (trE_ok n c _ _ ea X W hc)
end
end
end Tw

/-! Tw11: statements translated -/
namespace Tw
open PySem L2
/-- x op= e at a name -/
def sAug (i : Nat) (g : T → T → M T) (a : Env → M T) : Env → M Out := fun ρ => bndS (cVar i ρ) ρ fun x => bndS (a ρ) ρ fun y => bndS (g x y) ρ fun z => ret (.nx (ρ.set i (some z)))
section
variable {X : Cx} {S : Sta} {W : WX} {e : Expr} {fe : Env → M T} {pos : Pos}
theorem ps_of_aug {i : Nat} {x : Str} {op : Operator} {r : R2} {g : T → T → M T} {pos' : Pos} (hN : X.N.Nodup) (hi : X.N[i]? = some x) (hx : L2.Loc X.env.scope x) (he : PV X S W e fe) (ho : OpR X (inplaceOp op) r) (hg : OpT S g r) (hf : X.fn x = true ∨ X.env.scope.names.lookup x = some .local) :
    PVs X S W (.AugAssign (.Name x pos') op e pos) (sAug i g fe) :=
  PS.weak (ps_aug (ti := r) hN hi hx he (fun pins s σ H x y v u Q I r1 r2 h => ho pins s σ H x y v u Q I r1 r2 h) hf) fun D σ H ⟨ρ, ι, μ, he, hs, h⟩ => by
    have h' : PstS S W D H ι (bndS (cVar i ρ) ρ (fun x => bndS (fe ρ) ρ fun y => bndS (g x y) ρ fun z => ret (.nx (ρ.set i (some z)))) μ) := h
    cases e1 : ρ[i]? with
    | none => unfold bndS cVar at h'; rw [e1] at h'; exact h'.elim
    | some o =>
      cases o with
      | none => unfold bndS cVar at h'; rw [e1] at h'; exact h'.elim
      | some t =>
        obtain ⟨v, h1, h2⟩ := he.2 i t e1
        refine ⟨v, h1, ?_⟩
        have h3 : PstS S W D H ι (bndS (fe ρ) ρ (fun y => bndS (g t y) ρ fun z => ret (.nx (ρ.set i (some z)))) μ) := by
          unfold bndS cVar at h'
          rw [e1] at h'
          exact h'
        refine es_then he hs h3 fun y H1 ι1 μ1 u he1 hs1 f1 r1 h4 => ?_
        exact hg W σ H1 ι1 μ1 v y t u _ hs1 (h2.fut f1) r1 ((PstS.seq (rel := Rep S) he1 h4).mono fun z H2 ⟨ι2, μ2, tz, f2, hs2, r2, h5⟩ => h5 _ H2 ι2 (Fut.refl _ _) hs2 ((he1.fut f2).set r2))
end
def iOp : Operator → Option (T → T → M T)
  | .Add => some fun x y => match x, y with
    | .int i, .int j => ret (.int (i + j))
    | _, _ => bad
  | .Sub => some gSub
  | .Mult => some gMulI
  | _ => none
theorem iOp_ok {X : Cx} {S : Sta} {op : Operator} {g : T → T → M T} (e : iOp op = some g) : ∃ r, OpR X (inplaceOp op) r ∧ OpT S g r := by
  cases op <;> first | (cases e; done) | skip
  · cases e
    refine ⟨_, iop_add, ?_⟩
    intro W σ H ι μ x y tx ty Q hs rx ry h
    dsimp only at h
    split at h
    · cases rx; cases ry
      exact ⟨_, _, rfl, rfl, Pst.now h hs (.int _)⟩
    · exact h.elim
  · cases e; exact ⟨_, iop_sub, opT_sub⟩
  · cases e; exact ⟨_, iop_mul, opT_mul⟩

def isComp : Expr → Bool
  | .ListComp .. => true
  | .SetComp .. => true
  | .DictComp .. => true
  | _ => false
theorem noSwap {e : Expr} {t : Option Expr} {l : Nat} {env : PySem.Env} (h : isComp e = false) : swapsWith e t l env = pure false := by cases e <;> first | rfl | cases h
def isTupE : Expr → Bool
  | .Tuple .. => true
  | _ => false
theorem noPar {tg e : Expr} {env : PySem.Env} (h : isTupE e = false) : swappedStores [tg] e env = pure none := by
  cases e <;> first | (cases tg <;> rfl) | exact Bool.noConfusion h
theorem noSwapS {t e : Expr} {l : Nat} {env : PySem.Env} (h : isComp e = false) : swapsWithSole [t] e l env = pure false := by
  show swapsWith e (some t) l env = pure false
  exact noSwap h
theorem noParS (a b e : Expr) (p : Pos) (env : PySem.Env) : swappedStores [.Subscript a b p] e env = pure none := by cases e <;> rfl
theorem assignSub {a b : Expr} {p2 : Pos} {env : PySem.Env} (h : isSlice b = false) : ∀ v, assign (.Subscript a b p2) env v = (do
      let ov ← holding [v] (eval a env)
      let iv ← holding [v, ov] (eval b env)
      standAt p2
      holding [v, ov, iv] (setItem ov iv v)
      release [v, ov, iv] []) := fun v => by cases b <;> first | rfl | cases h
theorem noStarG {n : Nat} {c : Ct} {e : Expr} {p : List Nat × (T → Env → Option Env)} (h : trG n c e = some p) : ∀ a b, e ≠ .Starred a b := by
  rintro a b rfl
  cases n with
  | zero => simp only [trG] at h; cases h
  | succ n => simp only [trG] at h; cases h
theorem sw_cell {elt : Expr} {gs : List Comprehension} {scope : Scope} {pos py : Pos} {y : Str} {l : Nat} {env : PySem.Env} (hy : env.scope.names.lookup y = some .cell) : swapsWith (.ListComp elt gs scope pos) (some (.Name y py)) l env = pure false := by
  have ky : env.kindOf y = some .cell := hy
  unfold swapsWith
  simp only [ky]
  have : ((some NameKind.cell : Option NameKind) == some NameKind.local) = false := rfl
  simp [this]
/-- a list written out that is changed later on -/
def trNew (Φ : Nat → List T → M T) (n : Nat) (c : Ct) (x : Str) (e : Expr) : Option (Env → M T) := match e with
  | .List es _ => if c.chg.contains x then (trA Φ n c es).map (cN mNew) else trE Φ (n + 1) c e
  | e => if isComp e then none else trE Φ n c e
def swC (c : Ct) (x : Str) (py p : Pos) (scope : Scope) : Bool := match c.sc.names.lookup x with
  | some .local => (py.line == p.line) && !(scope.names.any fun (n, k) => n == x && (k == .local || k == .cell))
  | some .cell => true
  | _ => false
mutual
def trS (Φ : Nat → List T → M T) (fu : Nat) : Nat → Ct → Stmt → Option (Env → M Out)
  | 0, _, _ => none
  | n + 1, c, st => match st with
    | .Expr e _ => if isComp e then none else (trE Φ n c e).map sExpr
    | .Return (some e) _ => (trE Φ n c e).map sRet
    | .Return none _ => some sRetN
    | .Pass _ => some sPass
    | .Break _ => some sBreak
    | .Continue _ => some sCont
    | .Raise _ _ _ => some sBad
    | .If t a b _ => match trT Φ n c t, trSs Φ fu n c a, trSs Φ fu n c b with
      | some ft, some fa, some fb => some (sIf ft fa fb)
      | _, _, _ => none
    | .Assign [.Name x py] (.ListComp elt gs scope p) _ => if isLoc c x && swC c x py p scope then match idx c.N x, trE Φ n c (.ListComp elt gs scope p) with
        | some i, some fe => some (sSet i fe)
        | _, _ => none else none
    | .Assign [.Name x _] e _ => if isLoc c x then match idx c.N x, trNew Φ n c x e with
        | some i, some fe => some (sSet i fe)
        | _, _ => none else none
    | .Assign [.Subscript a b _] e _ => if isSlice b || isComp e then none else match trE Φ n c e, trE Φ n c a, trE Φ n c b with
      | some fe, some fa, some fb => some (sStore fe fa fb)
      | _, _, _ => none
    | .Assign [.Tuple ts kt pt] (.Tuple vs k2 p2) _ => match swK c.sc ts vs with
      | some none => match trG n c (.Tuple ts kt pt), trE Φ n c (.Tuple vs k2 p2) with
        | some p, some fe => some (sAsg fe p.2)
        | _, _ => none
      | some (some ns) => match ts, vs with
        | [.Name x _, .Name y _], [a, b] => if decide (ns = [x, y]) && !isStar a && !isStar b then match idx c.N x, idx c.N y, trE Φ n c a, trE Φ n c b with
          | some i, some j, some fa, some fb => if decide (i ≠ j) && (c.sc.names.lookup x == some .local) && (c.sc.names.lookup y == some .local) then some (sPar i j fa fb) else none
          | _, _, _, _ => none else none
        | [.Name x _, .Name y _, .Name z _], [a, b, d] => if decide (ns = [x, y, z]) && !isStar a && !isStar b && !isStar d then match idx c.N x, idx c.N y, idx c.N z, trE Φ n c a, trE Φ n c b, trE Φ n c d with
          | some i, some j, some l, some fa, some fb, some fd => if decide (i ≠ j) && decide (i ≠ l) && decide (j ≠ l) && (c.sc.names.lookup x == some .local) && (c.sc.names.lookup y == some .local) && (c.sc.names.lookup z == some .local) then some (sPar3 i j l fa fb fd) else none
          | _, _, _, _, _, _ => none else none
        | _, _ => none
      | none => none
    | .Assign [tg] e _ => if isTupE e || isComp e then none else match trG n c tg, trE Φ n c e with
      | some p, some fe => some (sAsg fe p.2)
      | _, _ => none
    | .AugAssign (.Name x _) op e _ => if isLoc c x then match idx c.N x, iOp op, trE Φ n c e with
        | some i, some g, some fe => some (sAug i g fe)
        | _, _, _ => none else none
    | .For tg iter body [] _ => if isSetE iter then none else match trI Φ n c tg iter, trG n c tg, trSs Φ fu n c body with
      | some fi, some p, some fb => some (sFor fi p.2 fb)
      | _, _, _ => none
    | .While t body [] _ => match trT Φ n c t, trSs Φ fu n c body with
      | some ft, some fb => some (whileL fu ft fb)
      | _, _ => none
    | _ => none
def trSs (Φ : Nat → List T → M T) (fu : Nat) : Nat → Ct → List Stmt → Option (Env → M Out)
  | 0, _, _ => none
  | n + 1, c, sts => match sts with
    | [] => some sNil
    | st :: r => match trS Φ fu n c st, trSs Φ fu n c r with
      | some f, some g => some (sSeq f g)
      | _, _ => none
end
section
variable {S : Sta} {Φ : Nat → List T → M T} {k fu : Nat}
theorem trNew_ok {n : Nat} {c : Ct} {x : Str} {e : Expr} {f : Env → M T} (h : trNew Φ n c x e = some f) {X : Cx} {W : WX} (hc : Cm S Φ k c X W) : PV X S W e f ∧ isComp e = false := by
  unfold trNew at h
  split at h
  · split at h
    · obtain ⟨fa, ea, rfl⟩ := Option.map_eq_some_iff.mp h
      exact ⟨pv_new (trA_ok n c _ _ ea X W hc), rfl⟩
    · exact ⟨trE_ok (n + 1) c _ _ h X W hc, rfl⟩
  · split at h
    · cases h
    · rename_i hq
      exact ⟨trE_ok n c _ _ h X W hc, by simpa using hq⟩
/-- name = [..] -/
theorem setComp_ok {n : Nat} {c : Ct} {x : Str} {py p pos : Pos} {elt : Expr} {gs : List Comprehension} {scope : Scope} {i : Nat} {fe : Env → M T} (hl : isLoc c x = true)
    (hq : swC c x py p scope = true)
    (hi : idx c.N x = some i) (h : trE Φ n c (.ListComp elt gs scope p) = some fe) {X : Cx} {W : WX} (hc : Cm S Φ k c X W) : PVs X S W (.Assign [.Name x py] (.ListComp elt gs scope p) pos) (sSet i fe) := by
  unfold swC at hq
  split at hq
  · rename_i hk
    rw [Bool.and_eq_true, Bool.not_eq_true'] at hq
    cases n with
    | zero => simp only [trE] at h; cases h
    | succ n =>
      unfold trE at h
      split at h <;> first | (rename_i q; cases q; done) | skip
      all_goals first
        | (rename_i q; injection q; done)
        | skip
      · rename_i elt' tg iter ifs tg1 iter1 ifs1 scope' pos' q
        cases q
        split at h
        · rename_i hg
          rw [Bool.and_eq_true, Bool.and_eq_true] at hg
          split at h
          · rename_i fi pp fc fi1 p1 fc1 fa ei ep ec ei1 ep1 ec1 ea
            split at h
            · rename_i hv
              rw [Bool.and_eq_true] at hv
              cases h
              have ok : BlkOk X.N X.env.scope scope (ownOf c.N scope) := by rw [hc.hN, hc.sc]; exact blkOk_by hg.1.1
              have hkx : X.env.scope.names.lookup x = some .local := by rw [hc.sc]; exact hk
              exact ps_of_setLc2 hc.calm hc.nodup (hc.ix hi) hkx (sw_true (by rw [hc.sc]; exact hc.kd) hkx hq.1 hq.2) (trI_ok n c _ _ _ ei X W hc) ok (fun i hi => of_decide_eq_true (List.all_eq_true.mp hv.1 i hi)) (fun i hi => of_decide_eq_true (List.all_eq_true.mp hv.2 i hi))
                (fun s H C cl fp => trG_ok n (c.blk scope) tg pp ep _ W0 (hc.blk ok s H C cl fp)) (fun s H C cl fp => trIf_ok n (c.blk scope) ifs fc ec _ W0 (hc.blk ok s H C cl fp))
                (fun s H C cl fp => trI_ok n (c.blk scope) tg1 iter1 fi1 ei1 _ W0 (hc.blk ok s H C cl fp)) (fun s H C cl fp => trG_ok n (c.blk scope) tg1 p1 ep1 _ W0 (hc.blk ok s H C cl fp)) (fun s H C cl fp => trIf_ok n (c.blk scope) ifs1 fc1 ec1 _ W0 (hc.blk ok s H C cl fp))
                (fun s H C cl fp => trE_ok n (c.blk scope) elt fa ea _ W0 (hc.blk ok s H C cl fp)) (foldSet (not_true hg.1.2)) (fun env x => foldSet (not_true hg.2) x)
            · cases h
          · cases h
        · cases h
      · rename_i elt' tg iter ifs scope' pos' q
        cases q
        split at h
        · rename_i hg
          rw [Bool.and_eq_true] at hg
          split at h
          · rename_i fi pp fc fa ei ep ec ea
            split at h
            · rename_i hv
              cases h
              have ok : BlkOk X.N X.env.scope scope (ownOf c.N scope) := by rw [hc.hN, hc.sc]; exact blkOk_by hg.1
              have hkx : X.env.scope.names.lookup x = some .local := by rw [hc.sc]; exact hk
              exact ps_of_setLc hc.calm hc.nodup (hc.ix hi) hkx (sw_true (by rw [hc.sc]; exact hc.kd) hkx hq.1 hq.2) (trI_ok n c _ _ _ ei X W hc) ok (fun i hi => of_decide_eq_true (List.all_eq_true.mp hv i hi))
                (fun s H C cl fp => trG_ok n (c.blk scope) tg pp ep _ W0 (hc.blk ok s H C cl fp)) (fun s H C cl fp => trIf_ok n (c.blk scope) ifs fc ec _ W0 (hc.blk ok s H C cl fp))
                (fun s H C cl fp => trE_ok n (c.blk scope) elt fa ea _ W0 (hc.blk ok s H C cl fp)) (foldSet (not_true hg.2))
            · cases h
          · cases h
        · cases h
      · cases h
  · rename_i hk
    exact ps_of_set hc.nodup (hc.ix hi) (hc.loc hl).1 (trE_ok n c _ _ h X W hc) (sw_cell (by rw [hc.sc]; exact hk)) (hc.loc hl).2
  · cases hq
mutual
theorem trS_ok : ∀ (n : Nat) (c : Ct) (st : Stmt) (f : Env → M Out), trS Φ fu n c st = some f → ∀ (X : Cx) (W : WX), Cm S Φ k c X W → PVs X S W st f
  | 0, _, _, _, h => by simp only [trS] at h; cases h
  | n + 1, c, st, f, h => by
    intro X W hc
    unfold trS at h
    split at h
    · split at h
      · cases h
      · rename_i hq
        obtain ⟨fa, ea, rfl⟩ := Option.map_eq_some_iff.mp h
        exact ps_of_expr (trE_ok n c _ _ ea X W hc) (noSwap (by simpa using hq))
    · obtain ⟨fa, ea, rfl⟩ := Option.map_eq_some_iff.mp h
      exact ps_of_ret (trE_ok n c _ _ ea X W hc)
    · cases h; exact ps_of_retN
    · cases h; exact ps_of_pass
    · cases h; exact ps_of_break
    · cases h; exact ps_of_cont
    · cases h; exact ps_of_bad
    · split at h
      · rename_i ft fa fb et ea eb
        cases h
        exact ps_of_if (trT_ok n c _ _ et X W hc) (trSs_ok n c _ _ ea X W hc) (trSs_ok n c _ _ eb X W hc)
      · cases h
    · split at h
      · rename_i hq
        rw [Bool.and_eq_true] at hq
        split at h
        · rename_i i fe ei ee
          cases h
          exact setComp_ok hq.1 hq.2 ei ee hc
        · cases h
      · cases h
    · split at h
      · rename_i hl
        split at h
        · rename_i i fe ei ee
          cases h
          obtain ⟨h1, h2⟩ := trNew_ok ee hc
          exact ps_of_set hc.nodup (hc.ix ei) (hc.loc hl).1 h1 (noSwap h2) (hc.loc hl).2
        · cases h
      · cases h
    · -- x[i] = e
      split at h
      · cases h
      · rename_i hq
        rw [Bool.or_eq_true, not_or] at hq
        split at h
        · rename_i fe fa fb ee ea eb
          cases h
          exact ps_of_store hc.room (trE_ok n c _ _ ee X W hc) (trE_ok n c _ _ ea X W hc) (trE_ok n c _ _ eb X W hc) (noSwapS (by simpa using hq.2)) (noParS _ _ _ _ _) (assignSub (by simpa using hq.1))
        · cases h
    · -- a, b = x, y
      rename_i ts kt pt vs k2 p2 pos
      split at h
      · rename_i es
        split at h
        · rename_i p fe ep ee
          cases h
          exact ps_of_asg (trE_ok n c _ _ ee X W hc) (trG_ok n c _ p ep X W hc) rfl (swK_ok hc.sc es) (assign_no (noStarG ep))
        · cases h
      · rename_i ns es
        split at h
        · split at h
          · rename_i hq
            rw [Bool.and_eq_true, Bool.and_eq_true, decide_eq_true_eq] at hq
            obtain ⟨⟨rfl, h1⟩, h2⟩ := hq
            split at h
            · rename_i i j fa fb ei ej ea eb
              split at h
              · rename_i hl
                rw [Bool.and_eq_true, Bool.and_eq_true, decide_eq_true_eq, beq_iff_eq, beq_iff_eq] at hl
                cases h
                exact ps_of_par hc.calm hc.nodup (hc.ix ei) (hc.ix ej) hl.1.1 (by rw [hc.sc]; exact hl.1.2) (by rw [hc.sc]; exact hl.2) (pva_cons (trE_ok n c _ _ ea X W hc) (pva_cons (trE_ok n c _ _ eb X W hc) pva_nil (star_no (not_true h2))) (star_no (not_true h1))) (swK_ok hc.sc es) rfl
              · cases h
            · cases h
          · cases h
        · split at h
          · rename_i hq
            rw [Bool.and_eq_true, Bool.and_eq_true, Bool.and_eq_true, decide_eq_true_eq] at hq
            obtain ⟨⟨⟨rfl, h1⟩, h2⟩, h3⟩ := hq
            split at h
            · rename_i i j l fa fb fd ei ej el ea eb ed
              split at h
              · rename_i hl
                rw [Bool.and_eq_true, Bool.and_eq_true, Bool.and_eq_true, Bool.and_eq_true, Bool.and_eq_true, decide_eq_true_eq, decide_eq_true_eq, decide_eq_true_eq, beq_iff_eq, beq_iff_eq, beq_iff_eq] at hl
                cases h
                exact ps_of_par3 hc.calm hc.nodup (hc.ix ei) (hc.ix ej) (hc.ix el) hl.1.1.1.1.1 hl.1.1.1.1.2 hl.1.1.1.2 (by rw [hc.sc]; exact hl.1.1.2) (by rw [hc.sc]; exact hl.1.2) (by rw [hc.sc]; exact hl.2) (pva_cons (trE_ok n c _ _ ea X W hc) (pva_cons (trE_ok n c _ _ eb X W hc) (pva_cons (trE_ok n c _ _ ed X W hc) pva_nil (star_no (not_true h3))) (star_no (not_true h2))) (star_no (not_true h1))) (swK_ok hc.sc es) rfl
              · cases h
            · cases h
          · cases h
        · cases h
      · cases h
    · split at h
      · cases h
      · rename_i hq
        split at h
        · rename_i p fe ep ee
          cases h
          rw [Bool.or_eq_true, not_or] at hq
          exact ps_of_asg (trE_ok n c _ _ ee X W hc) (trG_ok n c _ p ep X W hc) (noSwap (by simpa using hq.2)) (noPar (by simpa using hq.1)) (assign_no (noStarG ep))
        · cases h
    · split at h
      · rename_i hl
        split at h
        · rename_i i g fe ei eg ee
          cases h
          obtain ⟨r, h1, h2⟩ := iOp_ok (X := X) (S := S) eg
          exact ps_of_aug hc.nodup (hc.ix ei) (hc.loc hl).1 (trE_ok n c _ _ ee X W hc) h1 h2 (hc.loc hl).2
        · cases h
      · cases h
    · split at h
      · cases h
      · rename_i hq
        split at h
        · rename_i fi p fb ei ep eb
          cases h
          exact ps_of_for hc.pass hc.calm (trI_ok n c _ _ _ ei X W hc) (trG_ok n c _ p ep X W hc) (trSs_ok n c _ _ eb X W hc) (foldSet (by simpa using hq))
        · cases h
    · split at h
      · rename_i ft fb et eb
        cases h
        exact ps_of_while fu hc.pass (trT_ok n c _ _ et X W hc) (trSs_ok n c _ _ eb X W hc)
      · cases h
    · cases h
theorem trSs_ok : ∀ (n : Nat) (c : Ct) (sts : List Stmt) (f : Env → M Out), trSs Φ fu n c sts = some f → ∀ (X : Cx) (W : WX), Cm S Φ k c X W → PVss X S W sts f
  | 0, _, _, _, h => by simp only [trSs] at h; cases h
  | n + 1, c, sts, f, h => by
    intro X W hc
    unfold trSs at h
    split at h
    · cases h; exact pss_of_nil
    · split at h
      · rename_i f g ef eg
        cases h
        exact pss_of_cons (trS_ok n c _ _ ef X W hc) (trSs_ok n c _ _ eg X W hc)
      · cases h
end
end
end Tw

/-! Tw12: a program of defs, a law's end -/
namespace Tw
open PySem L2
/-- a def of the text: its slots (parameters first), the names of lists that are changed, what it does -/
structure FE where
  x : Str
  qual : Str
  st : Stmt
  ps : List Str
  N : List Str
  chg : List Str
  b : Option ((Nat → List T → M T) → Env → M Out)
def Ph (tab : List FE) : Nat → Nat → List T → M T
  | 0, _ => fun _ => bad
  | k + 1, i => match tab[i]? with
    | some e => match e.b with
      | some b => fnD e.N.length (b (Ph tab k))
      | none => fun _ => bad
    | none => fun _ => bad
def ctOf (G : Str → Option Gl0) (e : FE) : Ct := { N := e.N, sc := defScope e.st, fv := fun _ => true, G := G, chg := e.chg }
/-- the text's own facts of a def -/
structure FEok (S : Sta) (e : FE) (f : Addr) (fd : FuncData) : Prop where
  fn : Fun S.K e.x e.qual e.st f fd
  sc : FnScope e.N e.ps (defScope e.st)
  bd : Binds S.K fd e.ps []
def GG (S : Sta) (mg : Str → Option Value) (tab : List FE) (x : Str) : Gl0 → Prop
  | .fn i n => ∃ e f, tab[i]? = some e ∧ n = e.ps.length ∧ S.fa i = some f ∧ mg x = some (.ref f)
  | .kon t => ∃ u v, mg x = some u ∧ RelV v u ∧ ∀ H ι, Rep S H ι v t
  | .blt => mg x = none
theorem fn_bad {P : Program} {w : World} {K : PySem.W.Frag} {mg : Str → Option Value} {base : Heap} {CX : CXT} {k : Nat} {f : Addr} {fd : FuncData} {ps : List Str} {S : Sta} : FnOk P w K mg base CX k f fd ps (spT S ps.length fun _ => bad) :=
  ⟨fun vs H Q E h => h.1, fun A outer s H args us vs Q E _ _ _ _ h => by
    obtain ⟨_, _, _, _, _, _, z⟩ := h
    exact z.elim⟩
theorem all_ok {S : Sta} {P : Program} {w : World} {mg : Str → Option Value} {base : Heap} {tab : List FE} {G : Str → Option Gl0} {fu : Nat}
    (facts : ∀ (i : Nat) (e : FE), tab[i]? = some e → ∃ f fd, S.fa i = some f ∧ FEok S e f fd)
    (tr : ∀ (i : Nat) (e : FE), tab[i]? = some e → ∀ b, e.b = some b → ∀ Φ, trSs Φ fu 200 (ctOf G e) (defBody e.st) = some (b Φ))
    (hG : ∀ x g, G x = some g → GG S mg tab x g) :
    ∀ (k i : Nat) (e : FE), tab[i]? = some e → ∃ f fd, S.fa i = some f ∧ FEok S e f fd ∧ FnOk P w S.K mg base (L2.CX P w) k f fd e.ps (spT S e.ps.length (Ph tab k i)) := by
  intro k
  induction k with
  | zero =>
    intro i e hi
    obtain ⟨f, fd, h1, h2⟩ := facts i e hi
    exact ⟨f, fd, h1, h2, fn_bad⟩
  | succ k ih =>
    intro i e hi
    obtain ⟨f, fd, h1, h2⟩ := facts i e hi
    refine ⟨f, fd, h1, h2, ?_⟩
    cases eb : e.b with
    | none =>
      have : Ph tab (k + 1) i = fun _ => bad := by
        unfold Ph
        rw [hi]
        dsimp only
        rw [eb]
      rw [this]
      exact fn_bad
    | some b =>
      have : Ph tab (k + 1) i = fnD e.N.length (b (Ph tab k)) := by
        show (match tab[i]? with | some e => (match e.b with | some b => fnD e.N.length (b (Ph tab k)) | none => fun _ => bad) | none => fun _ => bad) = _
        rw [hi]
        dsimp only
        rw [eb]
      rw [this]
      refine fn_okT h2.fn h2.sc fun cdv A outer s H E hr => ?_
      refine trSs_ok (k := k) 200 (ctOf G e) (defBody e.st) (b (Ph tab k)) (tr i e hi b eb (Ph tab k)) _ _ ?_
      refine ⟨rfl, rfl, h2.sc.nd, rfl, h2.sc.kind, rfl, fun _ _ => rfl, takes_of rfl rfl rfl rfl, passes_of rfl, hr, fun x g eg => ?_⟩
      have q := hG x g eg
      cases g with
      | fn j n =>
        obtain ⟨e', f', hj, rfl, hf, hm⟩ := q
        obtain ⟨f2, fd2, g1, g2, g3⟩ := ih j e' hj
        rw [hf] at g1
        cases g1
        exact ⟨f', fd2, e'.ps, hf, hm, g2.fn.kp, g3, g2.bd⟩
      | kon t => exact q
      | blt => exact q
/-- the law's promise: a list of at most 63 ints is handed in, True comes out -/
def spLaw (K : PySem.W.Frag) : Sp := fun vs H Q _ => ∃ (a : Addr) (ns : List Int), vs = [.ref a] ∧ SqL K H a (ns.map V.int) ∧ ns.length ≤ 63 ∧ ∀ H', Q (.bl true) H'
theorem law_sp {S : Sta} {g : List T → M T} (plain : ∀ ns : List Int, ns.length ≤ 63 → ∃ μ, g [.scr (ns.map T.int)] [] = .ok (.bl true) μ) (vs : List V) (H : Hp) (Q : VK) (E : XK) (h : spLaw S.K vs H Q E) : spT S 1 g vs H Q E := by
  obtain ⟨a, ns, rfl, hS, hl, q⟩ := h
  obtain ⟨μ, e⟩ := plain ns hl
  refine ⟨rfl, [.scr (ns.map T.int)], ⟨[], []⟩, [], .cons (.scr ?_ (reps_of_ints ns)) .nil, ⟨rfl, fun m n a h => by simp at h, fun n o h => by simp at h, fun n h => by simp at h, fun a h => by simp at h⟩, ?_⟩
  · rcases hS with h | h
    · exact .inl ⟨fun z => by rcases z with z | z <;> simp at z, h⟩
    · exact .inr h
  · rw [e]
    intro v H' ι' _ _ r
    cases r
    exact q H'
theorem no_cx {P : Program} {w : World} {H : Hp} {s : Shared} {e : Value} {s' : Shared} (h : L2.CX P w [] H s (fun _ _ _ => False) e s') : False := by
  obtain ⟨_, _, _, _, _, _, _, _, _, _, _, _, z⟩ := h
  exact z
theorem fd_inj {K : PySem.W.Frag} {x qual : Str} {st : Stmt} {f : Addr} {fd fd' : FuncData} (F : Fun K x qual st f fd) (F' : Fun K x qual st f fd') : fd = fd' := by
  obtain ⟨_, _, _, _, _, _, _, _, _, _, h, _⟩ := F.ex
  obtain ⟨_, _, _, _, _, _, _, _, _, _, h', _⟩ := F'.ex
  rw [h] at h'
  cases h'
  rfl
theorem walkT {l : PySem.W.OpenLaw} {q : Program} {loose : List Str} {XP : (Str → Option Value) → Heap → Prop} {YP : World → Heap → Prop} {d : DefRec} {K : Params → PySem.W.Frag} {x : Str} (hn : l.most = some 63) (hdf : d.params.defaults = [])
    (hY : ∀ (w : World) (h : Heap), YP w h → (K w.params).In h)
    (F : ∀ (w : World) (mg : Str → Option Value) (fa : Addr) (h : Heap), (K w.params).In h → h.Ns mainGlobals mg → mg d.name = some (.ref fa) →
      ∃ fd : FuncData, (∀ (s : Shared) (u : Value), BindsTo s fd ⟨[u], []⟩ [(x, u)]) ∧ ∀ base : Heap, (K w.params).In base → base.Ns mainGlobals mg → FnOk l.prog w (K w.params) mg base (L2.CX l.prog w) 40 fa fd [x] (spLaw (K w.params))) :
    PySem.W.WalkO q loose XP YP l.row.toRowW d [] (fun f vs => PySem.call f vs) :=
  L2.walk_of (n := 63) (k := 40) (x := x) (CX := fun w => L2.CX l.prog w) (sp := fun w => spLaw (K w.params)) hn (by decide) hdf ⟨rfl, by decide, by decide⟩ hY F (fun _ _ a ns hl _ hS => ⟨a, ns, rfl, hS, hl, fun _ => rfl⟩) fun _ _ _ _ _ z => no_cx z
end Tw

/-! TwL: laws of the combinators, for the plain part -/
namespace Tw
open PySem L2
def Ok {α : Type} (r : Res α) (P : α → Store → Prop) (E : Exc → Store → Prop) : Prop := match r with
  | .ok a μ => P a μ
  | .ex e μ => E e μ
  | .bad => False
section
variable {α β : Type} {P : α → Store → Prop} {E : Exc → Store → Prop} {μ : Store}
theorem Ok.mono {r : Res α} {Q : α → Store → Prop} {F : Exc → Store → Prop} (h : Ok r P E) (q : ∀ a μ, P a μ → Q a μ) (x : ∀ e μ, E e μ → F e μ) : Ok r Q F := by
  cases r with
  | ok a μ => exact q a μ h
  | ex e μ => exact x e μ h
  | bad => exact h
theorem Ok.imp {r : Res α} {Q : α → Store → Prop} {F : Exc → Store → Prop} (h : Ok r P fun _ _ => False) (q : ∀ a μ, P a μ → Q a μ) : Ok r Q F := h.mono q fun _ _ z => z.elim
theorem Ok.of_eq {r : Res α} {a : α} (e : r = .ok a μ) (h : P a μ) : Ok r P E := by rw [e]; exact h
theorem Ok.ex {r : Res α} {a : α} (h : Ok r (fun t _ => t = a) fun _ _ => False) : ∃ μ, r = .ok a μ := by
  cases r with
  | ok b μ => cases h; exact ⟨μ, rfl⟩
  | ex e μ => exact h.elim
  | bad => exact h.elim
theorem ok_ok {a : α} : Ok (.ok a μ) P E = P a μ := rfl
theorem ok_ex {e : Exc} : Ok (.ex e μ) P E = E e μ := rfl
theorem ok_no : Ok (Res.bad : Res α) P E = False := rfl
theorem ok_ret {a : α} : Ok (ret a μ) P E = P a μ := rfl
theorem ok_bad : Ok (bad (α := α) μ) P E = False := rfl
theorem ok_bnd {m : M β} {k : β → M α} : Ok (bnd m k μ) P E = Ok (m μ) (fun a μ' => Ok (k a μ') P E) E := by
  unfold bnd
  cases m μ <;> rfl
theorem ok_bndS {Q : Out → Store → Prop} {m : M β} {k : β → M Out} {ρ : Env} : Ok (bndS m ρ k μ) Q E = Ok (m μ) (fun a μ' => Ok (k a μ') Q E) (fun e μ' => Q (.xx ρ e) μ') := by
  unfold bndS
  cases m μ <;> rfl
theorem ok_if {c : Bool} {a b : M α} : Ok ((if c then a else b) μ) P E = if c then Ok (a μ) P E else Ok (b μ) P E := by cases c <;> rfl
theorem ok_noX {m : M α} : Ok (noX m μ) P E = Ok (m μ) P (fun _ _ => False) := by
  unfold noX
  cases m μ <;> rfl
end
section
variable {μ : Store} {ρ : Env} {P : T → Store → Prop} {E : Exc → Store → Prop} {a b c : Env → M T} {as : Env → M (List T)}
theorem ok_cVar {i : Nat} {t : T} (h : ρ[i]? = some (some t)) : Ok (cVar i ρ μ) P E = P t μ := by unfold cVar; rw [h]; rfl
theorem cVar_eq {i : Nat} : cVar i ρ μ = match ρ[i]? with
  | some (some t) => .ok t μ
  | _ => .bad := by
  unfold cVar
  cases ρ[i]? with
  | none => rfl
  | some o => cases o <;> rfl
theorem ok_cK {t : T} : Ok (cK t ρ μ) P E = P t μ := rfl
theorem ok_c1 {g : T → M T} : Ok (c1 g a ρ μ) P E = Ok (a ρ μ) (fun x μ' => Ok (g x μ') P E) E := ok_bnd
theorem ok_c2 {g : T → T → M T} : Ok (c2 g a b ρ μ) P E = Ok (a ρ μ) (fun x μ' => Ok (b ρ μ') (fun y μ'' => Ok (g x y μ'') P E) E) E := by
  unfold c2; rw [ok_bnd]; simp only [ok_bnd]
theorem ok_cN {g : List T → M T} : Ok (cN g as ρ μ) P E = Ok (as ρ μ) (fun x μ' => Ok (g x μ') P E) E := ok_bnd
theorem ok_aNil {P : List T → Store → Prop} : Ok (aNil ρ μ) P E = P [] μ := rfl
theorem ok_aCons {P : List T → Store → Prop} : Ok (aCons a as ρ μ) P E = Ok (a ρ μ) (fun x μ' => Ok (as ρ μ') (fun y μ'' => P (x :: y) μ'') E) E := by
  unfold aCons; rw [ok_bnd]; simp only [ok_bnd, ok_ret]
theorem ok_aStar {P : List T → Store → Prop} : Ok (aStar a as ρ μ) P E = Ok (a ρ μ) (fun x μ' => Ok (mSeq x μ') (fun xs μ1 => Ok (as ρ μ1) (fun y μ'' => P (xs ++ y) μ'') E) E) E := by
  unfold aStar; rw [ok_bnd]; simp only [ok_bnd, ok_ret]
theorem ok_cTest {P : Bool → Store → Prop} : Ok (cTest a ρ μ) P E = Ok (a ρ μ) (fun x μ' => match x with
  | .bl b => P b μ'
  | _ => False) E := by
  unfold cTest; rw [ok_bnd]; congr 1; funext x μ'; cases x <;> rfl
theorem ok_cTru {P : Bool → Store → Prop} : Ok (cTru a ρ μ) P E = Ok (a ρ μ) (fun x μ' => Ok (mTru x μ') P E) E := ok_bnd
theorem ok_cAnd {x y : Env → M Bool} {P : Bool → Store → Prop} : Ok (cAnd x y ρ μ) P E = Ok (x ρ μ) (fun k μ' => if k then Ok (y ρ μ') P E else P false μ') E := by
  unfold cAnd; rw [ok_bnd]; congr 1; funext k μ'; cases k <;> rfl
theorem ok_cOr {x y : Env → M Bool} {P : Bool → Store → Prop} : Ok (cOr x y ρ μ) P E = Ok (x ρ μ) (fun k μ' => if k then P true μ' else Ok (y ρ μ') P E) E := by
  unfold cOr; rw [ok_bnd]; congr 1; funext k μ'; cases k <;> rfl
theorem ok_cNot {x : Env → M Bool} {P : Bool → Store → Prop} : Ok (cNot x ρ μ) P E = Ok (x ρ μ) (fun k μ' => P (!k) μ') E := ok_bnd
theorem ok_cYes {P : Bool → Store → Prop} : Ok (cYes ρ μ) P E = P true μ := rfl
theorem ok_cIf {x : Env → M Bool} : Ok (cIf x a b ρ μ) P E = Ok (x ρ μ) (fun k μ' => if k then Ok (a ρ μ') P E else Ok (b ρ μ') P E) E := by
  unfold cIf; rw [ok_bnd]; congr 1; funext k μ'; cases k <;> rfl
theorem ok_cAndT : Ok (cAndT a b ρ μ) P E = Ok (a ρ μ) (fun x μ' => Ok (mTru x μ') (fun k μ1 => if k then Ok (b ρ μ1) P E else P x μ1) E) E := by
  unfold cAndT; rw [ok_bnd]; congr 1; funext x μ'; rw [ok_bnd]; congr 1; funext k μ1; cases k <;> rfl
theorem ok_cOrT : Ok (cOrT a b ρ μ) P E = Ok (a ρ μ) (fun x μ' => Ok (mTru x μ') (fun k μ1 => if k then P x μ1 else Ok (b ρ μ1) P E) E) E := by
  unfold cOrT; rw [ok_bnd]; congr 1; funext x μ'; rw [ok_bnd]; congr 1; funext k μ1; cases k <;> rfl
theorem ok_cNotT : Ok (cNotT a ρ μ) P E = Ok (a ρ μ) (fun x μ' => Ok (mTru x μ') (fun k μ1 => P (.bl (!k)) μ1) E) E := by
  unfold cNotT; rw [ok_bnd]; congr 1; funext x μ'; rw [ok_bnd]; rfl
theorem ok_cChain {g g' : T → T → M T} : Ok (cChain g g' a b c ρ μ) P E = Ok (a ρ μ) (fun x μ1 => Ok (b ρ μ1) (fun y μ2 => Ok (g x y μ2) (fun z μ3 => match z with
    | .bl true => Ok (c ρ μ3) (fun w μ4 => Ok (g' y w μ4) P E) E
    | .bl false => P (.bl false) μ3
    | _ => False) E) E) E := by
  unfold cChain; rw [ok_bnd]; congr 1; funext x μ1; rw [ok_bnd]; congr 1; funext y μ2; rw [ok_bnd]; congr 1; funext z μ3
  cases z with
  | bl k => cases k with
    | true => exact ok_bnd
    | false => rfl
  | _ => rfl
theorem ok_cCall {n : Nat} {g : List T → M T} : Ok (cCall n g as ρ μ) P E = Ok (as ρ μ) (fun ts μ' => if ts.length = n then Ok (g ts μ') P E else False) E := by
  unfold cCall; rw [ok_bnd]; congr 1; funext ts μ'
  split <;> rfl
theorem ok_cSlice {lo hi : Env → M (Option Int)} : Ok (cSlice a lo hi ρ μ) P E = Ok (a ρ μ) (fun x μ1 => Ok (lo ρ μ1) (fun l μ2 => Ok (hi ρ μ2) (fun h μ3 => Ok (mCut x l h μ3) P E) E) E) E := by
  unfold cSlice; rw [ok_bnd]; congr 1; funext x μ1; rw [ok_bnd]; congr 1; funext l μ2; exact ok_bnd
theorem ok_oNone {P : Option Int → Store → Prop} : Ok (oNone ρ μ) P E = P none μ := rfl
theorem ok_oSome {P : Option Int → Store → Prop} : Ok (oSome a ρ μ) P E = Ok (a ρ μ) (fun x μ' => match x with
  | .int i => P (some i) μ'
  | _ => False) E := by
  unfold oSome; rw [ok_bnd]; congr 1; funext x μ'; cases x <;> rfl
theorem ok_cKw {g : List T → T → M T} {d : Env → M T} : Ok (cKw g as d ρ μ) P E = Ok (as ρ μ) (fun ts μ1 => Ok (d ρ μ1) (fun u μ2 => Ok (g ts u μ2) P E) E) E := by
  unfold cKw; rw [ok_bnd]; congr 1; funext x μ1; exact ok_bnd
theorem ok_cMeth {Ty : String} {g : T → List T → M T} : Ok (cMeth Ty g a as ρ μ) P E = Ok (a ρ μ) (fun x μ1 => Ok (mTy Ty x μ1) (fun _ μ2 => Ok (as ρ μ2) (fun ts μ3 => Ok (g x ts μ3) P E) E) E) E := by
  unfold cMeth; rw [ok_bnd]; congr 1; funext x μ1; rw [ok_bnd]; congr 1; funext _ μ2; exact ok_bnd
theorem ok_cRgL1 {mk : List T → T} : Ok (cRgL1 mk a ρ μ) P E = Ok (a ρ μ) (fun x μ' => Ok (mRgL mk (.int 0) x μ') P E) E := ok_bnd
theorem ok_cRgL2 {mk : List T → T} : Ok (cRgL2 mk a b ρ μ) P E = Ok (a ρ μ) (fun x μ1 => Ok (b ρ μ1) (fun y μ' => Ok (mRgL mk x y μ') P E) E) E := by
  unfold cRgL2; rw [ok_bnd]; congr 1; funext x μ1; exact ok_bnd
theorem ok_iSeq {P : List T → Store → Prop} : Ok (iSeq a ρ μ) P E = Ok (a ρ μ) (fun x μ' => Ok (mIt x μ') P E) E := ok_bnd
theorem ok_iRg1 {P : List T → Store → Prop} : Ok (iRg1 as ρ μ) P E = Ok (as ρ μ) (fun x μ' => Ok (mRg1 x μ') P E) E := ok_bnd
theorem ok_iRg2 {P : List T → Store → Prop} : Ok (iRg2 as ρ μ) P E = Ok (as ρ μ) (fun x μ' => Ok (mRg2 x μ') P E) E := ok_bnd
theorem ok_iZp {P : List T → Store → Prop} : Ok (iZp as ρ μ) P E = Ok (as ρ μ) (fun x μ' => Ok (mZip x μ') P E) E := ok_bnd
theorem ok_iEn {P : List T → Store → Prop} : Ok (iEn as ρ μ) P E = Ok (as ρ μ) (fun x μ' => Ok (mEnu x μ') P E) E := ok_bnd
theorem ok_cLc {it : Env → M (List T)} {f : T → Env → Option Env} {t : Env → M Bool} {vs : List Nat} : Ok (cLc it f t a vs ρ μ) P E = Ok (it ρ μ) (fun ts μ1 => Ok (lcL ts (lcT f t a (wipeE ρ vs)) [] μ1) (fun us μ2 => P (.lst us) μ2) E) E := by
  unfold cLc; rw [ok_bnd]; congr 1; funext x μ1; exact ok_bnd
theorem ok_cLc2 {it it1 : Env → M (List T)} {f f1 : T → Env → Option Env} {t t1 : Env → M Bool} {vs vs1 : List Nat} : Ok (cLc2 it f t it1 f1 t1 a vs vs1 ρ μ) P E = Ok (it ρ μ) (fun ts μ1 => Ok (lcO ts (lcB2 f t it1 f1 t1 a vs1 (wipeE ρ vs)) [] μ1) (fun us μ2 => P (.lst us) μ2) E) E := by
  unfold cLc2; rw [ok_bnd]; congr 1; funext x μ1; exact ok_bnd
/-! ### statements -/
variable {Q : Out → Store → Prop} {s s' : Env → M Out}
theorem ok_sNil : Ok (sNil ρ μ) Q E = Q (.nx ρ) μ := rfl
theorem ok_sPass : Ok (sPass ρ μ) Q E = Q (.nx ρ) μ := rfl
theorem ok_sBreak : Ok (sBreak ρ μ) Q E = Q (.bk ρ) μ := rfl
theorem ok_sCont : Ok (sCont ρ μ) Q E = Q (.ct ρ) μ := rfl
theorem ok_sBad : Ok (sBad ρ μ) Q E = False := rfl
theorem ok_sRetN : Ok (sRetN ρ μ) Q E = Q (.rt .non) μ := rfl
theorem ok_sSeq : Ok (sSeq s s' ρ μ) Q E = Ok (s ρ μ) (fun o μ' => match o with
  | .nx ρ' => Ok (s' ρ' μ') Q E
  | .bk ρ' => Q (.bk ρ') μ'
  | .ct ρ' => Q (.ct ρ') μ'
  | .rt t => Q (.rt t) μ'
  | .xx ρ' e => Q (.xx ρ' e) μ') E := by
  unfold sSeq; rw [ok_bnd]; congr 1; funext o μ'; cases o <;> rfl
theorem ok_sExpr : Ok (sExpr a ρ μ) Q E = Ok (a ρ μ) (fun _ μ' => Q (.nx ρ) μ') (fun e μ' => Q (.xx ρ e) μ') := ok_bndS
theorem ok_sRet : Ok (sRet a ρ μ) Q E = Ok (a ρ μ) (fun t μ' => Q (.rt t) μ') (fun e μ' => Q (.xx ρ e) μ') := ok_bndS
theorem ok_sSet {i : Nat} : Ok (sSet i a ρ μ) Q E = Ok (a ρ μ) (fun t μ' => Q (.nx (ρ.set i (some t))) μ') (fun e μ' => Q (.xx ρ e) μ') := ok_bndS
theorem ok_sIf {x : Env → M Bool} : Ok (sIf x s s' ρ μ) Q E = Ok (x ρ μ) (fun k μ' => if k then Ok (s ρ μ') Q E else Ok (s' ρ μ') Q E) (fun e μ' => Q (.xx ρ e) μ') := by
  unfold sIf; rw [ok_bndS]; congr 1; funext k μ'; cases k <;> rfl
theorem ok_sAsg {f : T → Env → Option Env} : Ok (sAsg a f ρ μ) Q E = Ok (a ρ μ) (fun t μ' => match f t ρ with
  | some ρ' => Q (.nx ρ') μ'
  | none => False) (fun e μ' => Q (.xx ρ e) μ') := by
  unfold sAsg; rw [ok_bndS]; congr 1; funext t μ'; cases f t ρ <;> rfl
theorem ok_sStore {i : Env → M T} : Ok (sStore a b i ρ μ) Q E = Ok (a ρ μ) (fun v μ1 => Ok (b ρ μ1) (fun o μ2 => Ok (i ρ μ2) (fun k μ3 => Ok (mPut o k v μ3) (fun _ μ4 => Q (.nx ρ) μ4) (fun e μ' => Q (.xx ρ e) μ')) (fun e μ' => Q (.xx ρ e) μ')) (fun e μ' => Q (.xx ρ e) μ')) (fun e μ' => Q (.xx ρ e) μ') := by
  unfold sStore; rw [ok_bndS]; congr 1; funext v μ1; rw [ok_bndS]; congr 1; funext o μ2; rw [ok_bndS]; congr 1; funext k μ3; rw [ok_bndS]; rfl
theorem ok_sPar {i j : Nat} : Ok (sPar i j a b ρ μ) Q E = Ok (a ρ μ) (fun x μ1 => Ok (b ρ μ1) (fun y μ2 => Q (.nx ((ρ.set i (some x)).set j (some y))) μ2) (fun e μ' => Q (.xx ρ e) μ')) (fun e μ' => Q (.xx ρ e) μ') := by
  unfold sPar; rw [ok_bndS, ok_aCons]; congr 1; funext x μ1; rw [ok_aCons]; rfl
theorem ok_sPar3 {i j l : Nat} : Ok (sPar3 i j l a b c ρ μ) Q E = Ok (a ρ μ) (fun x μ1 => Ok (b ρ μ1) (fun y μ2 => Ok (c ρ μ2) (fun z μ3 => Q (.nx (((ρ.set i (some x)).set j (some y)).set l (some z))) μ3) (fun e μ' => Q (.xx ρ e) μ')) (fun e μ' => Q (.xx ρ e) μ')) (fun e μ' => Q (.xx ρ e) μ') := by
  unfold sPar3; rw [ok_bndS, ok_aCons]; congr 1; funext x μ1; rw [ok_aCons]; congr 1; funext y μ2; rw [ok_aCons]; rfl
theorem ok_sAug {i : Nat} {g : T → T → M T} : Ok (sAug i g a ρ μ) Q E = Ok (cVar i ρ μ) (fun x μ1 => Ok (a ρ μ1) (fun y μ2 => Ok (g x y μ2) (fun z μ3 => Q (.nx (ρ.set i (some z))) μ3) (fun e μ' => Q (.xx ρ e) μ')) (fun e μ' => Q (.xx ρ e) μ')) (fun e μ' => Q (.xx ρ e) μ') := by
  unfold sAug; rw [ok_bndS]; congr 1; funext v μ1; rw [ok_bndS]; congr 1; funext o μ2; rw [ok_bndS]; rfl
theorem ok_sFor {it : Env → M (List T)} {f : T → Env → Option Env} : Ok (sFor it f s ρ μ) Q E = Ok (it ρ μ) (fun ts μ' => Ok (forL ts (stp f s) ρ μ') Q E) (fun e μ' => Q (.xx ρ e) μ') := ok_bndS
theorem ok_stp {f : T → Env → Option Env} {t : T} : Ok (stp f s t ρ μ) Q E = match f t ρ with
  | some ρ' => Ok (s ρ' μ) Q E
  | none => False := by
  unfold stp; cases f t ρ <;> rfl
theorem ok_fnD {N : Nat} {ts : List T} : Ok (fnD N s ts μ) P E = Ok (s (ts.map some ++ List.replicate (N - ts.length) none) μ) (fun o μ' => match o with
  | .nx _ => P .non μ'
  | .rt t => P t μ'
  | .xx _ e => E e μ'
  | _ => False) (fun _ _ => False) := by
  unfold fnD
  cases s (ts.map some ++ List.replicate (N - ts.length) none) μ with
  | ok o μ' => cases o <;> rfl
  | ex e μ' => rfl
  | bad => rfl
end
/-! ### loops -/
section
variable {E : Exc → Store → Prop} {Q : Out → Store → Prop}
theorem ok_forL {step : T → Env → M Out} {I : Nat → Env → Store → Prop} : ∀ {ts : List T} {ρ : Env} {μ : Store} (i : Nat), I i ρ μ →
    (∀ j t ρ μ, ts[j]? = some t → I (i + j) ρ μ → Ok (step t ρ μ) (fun o μ' => match o with
      | .nx ρ' => I (i + j + 1) ρ' μ'
      | .ct ρ' => I (i + j + 1) ρ' μ'
      | .bk ρ' => Q (.nx ρ') μ'
      | .rt u => Q (.rt u) μ'
      | .xx ρ' e => Q (.xx ρ' e) μ') E) → (∀ ρ μ, I (i + ts.length) ρ μ → Q (.nx ρ) μ) → Ok (forL ts step ρ μ) Q E
  | [], ρ, μ, i, h0, _, he => he ρ μ h0
  | t :: ts, ρ, μ, i, h0, hs, he => by
    unfold forL
    rw [ok_bnd]
    refine Ok.mono (hs 0 t ρ μ rfl h0) (fun o μ' h => ?_) fun _ _ z => z
    have again : ∀ ρ' μ', I (i + 1) ρ' μ' → Ok (forL ts step ρ' μ') Q E := fun ρ' μ' h' => ok_forL (i + 1) h' (fun j t' ρ2 μ2 e hI => by
      have e1 : i + 1 + j = i + (j + 1) := by omega
      rw [e1] at hI ⊢
      exact hs (j + 1) t' ρ2 μ2 (by simpa using e) hI) fun ρ2 μ2 hI => he ρ2 μ2 (by
      have e1 : i + 1 + ts.length = i + (t :: ts).length := by simp; omega
      rw [e1] at hI
      exact hI)
    cases o with
    | nx ρ' => exact again ρ' μ' h
    | ct ρ' => exact again ρ' μ' h
    | bk ρ' => exact h
    | rt u => exact h
    | xx ρ' e => exact h
theorem ok_for {step : T → Env → M Out} {ts : List T} {ρ : Env} {μ : Store} (I : Nat → Env → Store → Prop) (h0 : I 0 ρ μ)
    (hs : ∀ j t ρ μ, ts[j]? = some t → I j ρ μ → Ok (step t ρ μ) (fun o μ' => match o with
      | .nx ρ' => I (j + 1) ρ' μ'
      | .ct ρ' => I (j + 1) ρ' μ'
      | .bk ρ' => Q (.nx ρ') μ'
      | .rt u => Q (.rt u) μ'
      | .xx ρ' e => Q (.xx ρ' e) μ') E) (he : ∀ ρ μ, I ts.length ρ μ → Q (.nx ρ) μ) : Ok (forL ts step ρ μ) Q E :=
  ok_forL 0 h0 (fun j t ρ μ e hI => by rw [Nat.zero_add] at hI ⊢; exact hs j t ρ μ e hI) fun ρ μ hI => he ρ μ (by rw [Nat.zero_add] at hI; exact hI)
theorem ok_while {c : Env → M Bool} {b : Env → M Out} (I : Nat → Env → Store → Prop) (hs : ∀ n ρ μ, I (n + 1) ρ μ → Ok (c ρ μ) (fun k μ1 => if k then Ok (b ρ μ1) (fun o μ' => match o with
      | .nx ρ' => I n ρ' μ'
      | .ct ρ' => I n ρ' μ'
      | .bk ρ' => Q (.nx ρ') μ'
      | .rt u => Q (.rt u) μ'
      | .xx ρ' e => Q (.xx ρ' e) μ') E else Q (.nx ρ) μ1) (fun e μ' => Q (.xx ρ e) μ')) (h0 : ∀ ρ μ, ¬ I 0 ρ μ) : ∀ (n : Nat) (ρ : Env) (μ : Store), I n ρ μ → Ok (whileL n c b ρ μ) Q E
  | 0, ρ, μ, h => (h0 ρ μ h).elim
  | n + 1, ρ, μ, h => by
    unfold whileL
    rw [ok_bndS]
    refine Ok.mono (hs n ρ μ h) (fun k μ1 hk => ?_) fun _ _ z => z
    cases k with
    | false => exact hk
    | true =>
      show Ok (bnd (b ρ) _ μ1) Q E
      rw [ok_bnd]
      refine Ok.mono (show Ok (b ρ μ1) _ E from hk) (fun o μ' h' => ?_) fun _ _ z => z
      cases o with
      | nx ρ' => exact ok_while I hs h0 n ρ' μ' h'
      | ct ρ' => exact ok_while I hs h0 n ρ' μ' h'
      | bk ρ' => exact h'
      | rt u => exact h'
      | xx ρ' e => exact h'
end
/-! ### comprehensions -/
section
variable {E : Exc → Store → Prop} {P : List T → Store → Prop}
/-- nothing is changed: each turn gives g t -/
theorem lcL_pure {b : T → M (Option T)} {g : T → Option T} {μ : Store} : ∀ {ts : List T} {acc : List T}, (∀ t ∈ ts, b t μ = .ok (g t) μ) → acc.length + ts.length ≤ lim → lcL ts b acc μ = .ok (acc ++ ts.filterMap g) μ
  | [], acc, _, _ => by simp [lcL]
  | t :: ts, acc, h, hl => by
    unfold lcL
    rw [bnd_ok (h t List.mem_cons_self)]
    rw [List.length_cons] at hl
    cases e : g t with
    | none =>
      show lcL ts b acc μ = _
      rw [lcL_pure (fun u hu => h u (List.mem_cons_of_mem _ hu)) (by omega), List.filterMap_cons_none e]
    | some y =>
      show (if acc.length < lim then lcL ts b (acc ++ [y]) else bad) μ = _
      rw [if_pos (by omega), lcL_pure (fun u hu => h u (List.mem_cons_of_mem _ hu)) (by rw [List.length_append, List.length_singleton]; omega), List.filterMap_cons_some e]
      simp
theorem ok_lcL_pure {b : T → M (Option T)} (g : T → Option T) {μ : Store} {ts : List T} (h : ∀ t ∈ ts, b t μ = .ok (g t) μ) (hl : ts.length ≤ lim) (hP : P (ts.filterMap g) μ) : Ok (lcL ts b [] μ) P E :=
  Ok.of_eq (lcL_pure h (by simpa using hl)) (by simpa using hP)
/-- with an invariant: every turn gives one item -/
theorem ok_lcL_inv {b : T → M (Option T)} {I : Nat → List T → Store → Prop} : ∀ {ts : List T} {acc : List T} {μ : Store} (i : Nat), I i acc μ → acc.length + ts.length ≤ lim →
    (∀ j t acc μ, ts[j]? = some t → I (i + j) acc μ → Ok (b t μ) (fun o μ' => match o with
      | some y => I (i + j + 1) (acc ++ [y]) μ'
      | none => I (i + j + 1) acc μ') E) → (∀ acc μ, I (i + ts.length) acc μ → P acc μ) → Ok (lcL ts b acc μ) P E
  | [], acc, μ, i, h0, _, _, he => he acc μ h0
  | t :: ts, acc, μ, i, h0, hl, hs, he => by
    unfold lcL
    rw [ok_bnd]
    rw [List.length_cons] at hl
    refine Ok.mono (hs 0 t acc μ rfl h0) (fun o μ' h => ?_) fun _ _ z => z
    have again : ∀ acc' μ', I (i + 1) acc' μ' → acc'.length + ts.length ≤ lim → Ok (lcL ts b acc' μ') P E := fun acc' μ' h' hl' => ok_lcL_inv (i + 1) h' hl' (fun j t' a2 μ2 e hI => by
      have e1 : i + 1 + j = i + (j + 1) := by omega
      rw [e1] at hI ⊢
      exact hs (j + 1) t' a2 μ2 (by simpa using e) hI) fun a2 μ2 hI => he a2 μ2 (by
      have e1 : i + 1 + ts.length = i + (t :: ts).length := by simp; omega
      rw [e1] at hI
      exact hI)
    cases o with
    | none => exact again acc μ' h (by omega)
    | some y =>
      show Ok ((if acc.length < lim then lcL ts b (acc ++ [y]) else bad) μ') P E
      rw [if_pos (by omega)]
      exact again (acc ++ [y]) μ' h (by rw [List.length_append, List.length_singleton]; omega)
theorem ok_lcL {b : T → M (Option T)} {ts : List T} {μ : Store} (I : Nat → List T → Store → Prop) (h0 : I 0 [] μ) (hl : ts.length ≤ lim)
    (hs : ∀ j t acc μ, ts[j]? = some t → I j acc μ → Ok (b t μ) (fun o μ' => match o with
      | some y => I (j + 1) (acc ++ [y]) μ'
      | none => I (j + 1) acc μ') E) (he : ∀ acc μ, I ts.length acc μ → P acc μ) : Ok (lcL ts b [] μ) P E :=
  ok_lcL_inv 0 h0 (by simpa using hl) (fun j t ρ μ e hI => by rw [Nat.zero_add] at hI ⊢; exact hs j t ρ μ e hI) fun ρ μ hI => he ρ μ (by rw [Nat.zero_add] at hI; exact hI)
theorem ok_lcT {f : T → Env → Option Env} {c : Env → M Bool} {a : Env → M T} {ρ : Env} {t : T} {μ : Store} {P : Option T → Store → Prop} : Ok (lcT f c a ρ t μ) P E = match f t ρ with
  | some ρ' => Ok (c ρ' μ) (fun k μ1 => if k then Ok (a ρ' μ1) (fun y μ2 => P (some y) μ2) (fun _ _ => False) else P none μ1) (fun _ _ => False)
  | none => False := by
  unfold lcT
  rw [ok_noX]
  unfold lcB
  cases f t ρ with
  | none => rfl
  | some ρ' =>
    dsimp only
    rw [ok_bnd]
    congr 1; funext k μ1
    cases k with
    | true => exact ok_bnd
    | false => rfl
/-- two fors, nothing changed -/
theorem lcO_pure {b : T → List T → M (List T)} {g : T → List T} {μ : Store} : ∀ {ts : List T} {acc : List T}, (∀ t ∈ ts, ∀ acc, acc.length + (g t).length ≤ lim → b t acc μ = .ok (acc ++ g t) μ) → acc.length + (ts.flatMap g).length ≤ lim → lcO ts b acc μ = .ok (acc ++ ts.flatMap g) μ
  | [], acc, _, _ => by simp [lcO]
  | t :: ts, acc, h, hl => by
    unfold lcO
    rw [List.flatMap_cons, List.length_append] at hl
    rw [bnd_ok (h t List.mem_cons_self acc (by omega)), lcO_pure (fun u hu => h u (List.mem_cons_of_mem _ hu)) (by rw [List.length_append]; omega), List.flatMap_cons, List.append_assoc]
end
/-- from an Ok to the result itself -/
theorem eq_of_ok {α : Type} {r : Res α} {a : α} {μ : Store} (h : Ok r (fun x μ' => x = a ∧ μ' = μ) fun _ _ => False) : r = .ok a μ := by
  cases r with
  | ok b μ' => obtain ⟨rfl, rfl⟩ := h; rfl
  | ex e μ' => exact h.elim
  | bad => exact h.elim
/-! ### equality of data without bools -/
mutual
def dat : Nat → T → Bool
  | _, .non => true
  | _, .int _ => true
  | n + 1, .tup ts => dats n ts
  | n + 1, .lst ts => dats n ts
  | _, _ => false
def dats : Nat → List T → Bool
  | _, [] => true
  | n, t :: ts => dat n t && dats n ts
end
theorem dat_pd : (∀ (t : T) (n : Nat), dat n t = true → ∃ d, pd t = some d ∧ d.canLay0 = true ∧ d.depth ≤ n) := by
  intro t
  refine T.rec (motive_1 := fun t => ∀ n, dat n t = true → ∃ d, pd t = some d ∧ d.canLay0 = true ∧ d.depth ≤ n) (motive_2 := fun ts => ∀ n, dats n ts = true → ∃ ds, pds ts = some ds ∧ PyData.canLayAll0 ds = true ∧ PyData.depthAll ds ≤ n) ?_ ?_ ?_ ?_ ?_ ?_ ?_ ?_ ?_ ?_ ?_ ?_ ?_ ?_ ?_ t
  · intro n _; exact ⟨.none, by simp only [pd], by simp only [PyData.canLay0], by simp only [PyData.depth]; omega⟩
  · intro b n h; simp [dat] at h
  · intro i n _; exact ⟨.int i, by simp only [pd], by simp only [PyData.canLay0], by simp only [PyData.depth]; omega⟩
  · intro b n h; simp [dat] at h
  · intro b n h; simp [dat] at h
  · intro b n h; simp [dat] at h
  · intro b n h; simp [dat] at h
  · intro ts ih n h
    cases n with
    | zero => simp [dat] at h
    | succ n =>
      obtain ⟨ds, h1, h2, h3⟩ := ih n (by simpa [dat] using h)
      exact ⟨.tuple ds, by simp only [pd, h1, Option.map_some], by simp only [PyData.canLay0]; exact h2, by simp only [PyData.depth]; omega⟩
  · intro ts ih n h
    cases n with
    | zero => simp [dat] at h
    | succ n =>
      obtain ⟨ds, h1, h2, h3⟩ := ih n (by simpa [dat] using h)
      exact ⟨.list ds, by simp only [pd, h1, Option.map_some], by simp only [PyData.canLay0]; exact h2, by simp only [PyData.depth]; omega⟩
  · intro ks ts _ n h; simp [dat] at h
  · intro ks ts _ n h; simp [dat] at h
  · intro ks n h; simp [dat] at h
  · intro ts _ n h; simp [dat] at h
  · intro n _; exact ⟨[], by simp only [pds], by simp only [PyData.canLayAll0], by simp only [PyData.depthAll]; omega⟩
  · intro t ts iht ihts n h
    rw [dats, Bool.and_eq_true] at h
    obtain ⟨d, h1, h2, h3⟩ := iht n h.1
    obtain ⟨ds, k1, k2, k3⟩ := ihts n h.2
    exact ⟨d :: ds, by simp only [pds, h1, k1], by simp only [PyData.canLayAll0, h2, k2, Bool.and_self], by simp only [PyData.depthAll]; omega⟩
theorem pds_nil {ts : List T} (h : pds ts = some []) : ts = [] := by
  cases ts with
  | nil => rfl
  | cons a b =>
    simp only [pds] at h
    split at h <;> cases h
mutual
theorem eqv_dat : ∀ (t u : T) (n : Nat) (d e : PyData), dat n t = true → dat n u = true → pd t = some d → pd u = some e → (PyData.eqv d e = true ↔ t = u)
  | .non, u, n, d, e, _, hu, h1, h2 => by
    simp only [pd] at h1; cases h1
    cases u <;> first | (simp [dat] at hu; done) | skip
    · simp only [pd] at h2; cases h2; simp [PyData.eqv]
    · simp only [pd] at h2; cases h2; simp [PyData.eqv]
    · simp only [pd, Option.map_eq_some_iff] at h2; obtain ⟨_, _, rfl⟩ := h2; simp [PyData.eqv]
    · simp only [pd, Option.map_eq_some_iff] at h2; obtain ⟨_, _, rfl⟩ := h2; simp [PyData.eqv]
  | .int i, u, n, d, e, _, hu, h1, h2 => by
    simp only [pd] at h1; cases h1
    cases u <;> first | (simp [dat] at hu; done) | skip
    · simp only [pd] at h2; cases h2; simp [PyData.eqv]
    · simp only [pd] at h2; cases h2; simp [PyData.eqv]
    · simp only [pd, Option.map_eq_some_iff] at h2; obtain ⟨_, _, rfl⟩ := h2; simp [PyData.eqv]
    · simp only [pd, Option.map_eq_some_iff] at h2; obtain ⟨_, _, rfl⟩ := h2; simp [PyData.eqv]
  | .tup ts, u, n, d, e, ht, hu, h1, h2 => by
    simp only [pd, Option.map_eq_some_iff] at h1
    obtain ⟨ds, h1, rfl⟩ := h1
    cases n with
    | zero => simp [dat] at ht
    | succ n =>
      cases u <;> first | (simp [dat] at hu; done) | skip
      · simp only [pd] at h2; cases h2; simp [PyData.eqv]
      · simp only [pd] at h2; cases h2; simp [PyData.eqv]
      · rename_i us
        simp only [pd, Option.map_eq_some_iff] at h2
        obtain ⟨es, h2, rfl⟩ := h2
        have := eqvs_dat ts us n ds es (by simpa [dat] using ht) (by simpa [dat] using hu) h1 h2
        simpa [PyData.eqv] using this
      · simp only [pd, Option.map_eq_some_iff] at h2; obtain ⟨_, _, rfl⟩ := h2; simp [PyData.eqv]
  | .lst ts, u, n, d, e, ht, hu, h1, h2 => by
    simp only [pd, Option.map_eq_some_iff] at h1
    obtain ⟨ds, h1, rfl⟩ := h1
    cases n with
    | zero => simp [dat] at ht
    | succ n =>
      cases u <;> first | (simp [dat] at hu; done) | skip
      · simp only [pd] at h2; cases h2; simp [PyData.eqv]
      · simp only [pd] at h2; cases h2; simp [PyData.eqv]
      · simp only [pd, Option.map_eq_some_iff] at h2; obtain ⟨_, _, rfl⟩ := h2; simp [PyData.eqv]
      · rename_i us
        simp only [pd, Option.map_eq_some_iff] at h2
        obtain ⟨es, h2, rfl⟩ := h2
        have := eqvs_dat ts us n ds es (by simpa [dat] using ht) (by simpa [dat] using hu) h1 h2
        simpa [PyData.eqv] using this
  | .bl _, _, _, _, _, h, _, _, _ => by simp [dat] at h
  | .str _, _, _, _, _, h, _, _, _ => by simp [dat] at h
  | .ty _, _, _, _, _, h, _, _, _ => by simp [dat] at h
  | .cls _, _, _, _, _, h, _, _, _ => by simp [dat] at h
  | .fn _, _, _, _, _, h, _, _, _ => by simp [dat] at h
  | .dic _ _, _, _, _, _, h, _, _, _ => by simp [dat] at h
  | .ins _ _, _, _, _, _, h, _, _, _ => by simp [dat] at h
  | .obj _, _, _, _, _, h, _, _, _ => by simp [dat] at h
  | .scr _, _, _, _, _, h, _, _, _ => by simp [dat] at h
theorem eqvs_dat : ∀ (ts us : List T) (n : Nat) (ds es : List PyData), dats n ts = true → dats n us = true → pds ts = some ds → pds us = some es → (PyData.eqvAll ds es = true ↔ ts = us)
  | [], us, n, ds, es, _, _, h1, h2 => by
    simp only [pds] at h1; cases h1
    cases us with
    | nil => simp only [pds] at h2; cases h2; simp [PyData.eqvAll]
    | cons u us =>
      simp only [pds] at h2
      split at h2
      · cases h2; simp [PyData.eqvAll]
      · cases h2
  | t :: ts, us, n, ds, es, ht, hu, h1, h2 => by
    simp only [pds] at h1
    split at h1
    · rename_i d ds' e1 e2
      cases h1
      rw [dats, Bool.and_eq_true] at ht
      cases us with
      | nil => simp only [pds] at h2; cases h2; simp [PyData.eqvAll]
      | cons u us =>
        rw [dats, Bool.and_eq_true] at hu
        simp only [pds] at h2
        split at h2
        · rename_i e es' f1 f2
          cases h2
          have a := eqv_dat t u n d e ht.1 hu.1 e1 f1
          have b := eqvs_dat ts us n ds' es' ht.2 hu.2 e2 f2
          simp [PyData.eqvAll, a, b]
        · cases h2
    · cases h1
end
noncomputable instance instDecT : DecidableEq T := fun a b => Classical.propDecidable (a = b)
theorem pdOf_dat {t : T} {n : Nat} {μ : Store} (h : dat n t = true) : pdOf t μ = pd t := by
  cases t <;> first | rfl | (simp [dat] at h)
theorem gEqD_dat {neg : Bool} {x y : T} {μ : Store} {n : Nat} (hn : n ≤ 64) (hx : dat n x = true) (hy : dat n y = true) : gEqD neg x y μ = .ok (.bl (if neg then !decide (x = y) else decide (x = y))) μ := by
  obtain ⟨d, h1, h2, h3⟩ := dat_pd x n hx
  obtain ⟨e, k1, k2, k3⟩ := dat_pd y n hy
  unfold gEqD
  rw [pdOf_dat hx, pdOf_dat hy, h1, k1]
  have s1 : SeqAt.shaped d = true := by unfold SeqAt.shaped; rw [h2]; simp; omega
  have s2 : SeqAt.shaped e = true := by unfold SeqAt.shaped; rw [k2]; simp; omega
  have e1 : PyData.eqv d e = decide (x = y) := by
    have := eqv_dat x y n d e hx hy h1 k1
    by_cases c : x = y
    · rw [decide_eq_true c]; exact this.mpr c
    · rw [decide_eq_false c]
      cases q : PyData.eqv d e with
      | false => rfl
      | true => exact absurd (this.mp q) c
  dsimp only
  rw [s1, s2, e1]
  rfl
theorem dats_mem {n : Nat} : ∀ {ts : List T}, dats n ts = true ↔ ∀ t ∈ ts, dat n t = true
  | [] => by simp [dats]
  | t :: ts => by rw [dats, Bool.and_eq_true, dats_mem]; simp
theorem dats_ints {n : Nat} (ns : List Int) : dats n (ns.map T.int) = true := dats_mem.mpr fun t ht => by
  obtain ⟨i, _, rfl⟩ := List.mem_map.mp ht
  cases n <;> simp [dat]
theorem dat_row {n : Nat} (r : List Int) : dat (n + 1) (rowT r) = true := by unfold rowT; rw [dat]; exact dats_ints r
theorem dat_rows {n : Nat} (rs : List (List Int)) : dat (n + 2) (.lst (rs.map rowT)) = true := by
  rw [dat]
  exact dats_mem.mpr fun t ht => by
    obtain ⟨i, _, rfl⟩ := List.mem_map.mp ht
    exact dat_row i
theorem dat_int {n : Nat} (i : Int) : dat n (.int i) = true := by cases n <;> simp [dat]
theorem dat_non {n : Nat} : dat n .non = true := by cases n <;> simp [dat]
theorem dat_nil {n : Nat} : dat (n + 1) (.lst []) = true := by rw [dat, dats]
theorem map_inj' {α β : Type} {f : α → β} (hf : ∀ x y, f x = f y → x = y) : ∀ {a b : List α}, a.map f = b.map f → a = b
  | [], [], _ => rfl
  | [], _ :: _, h => by simp at h
  | _ :: _, [], h => by simp at h
  | x :: a, y :: b, h => by
    rw [List.map_cons, List.map_cons] at h
    injection h with h1 h2
    rw [hf x y h1, map_inj' hf h2]
theorem map_int_inj {a b : List Int} (h : a.map T.int = b.map T.int) : a = b := map_inj' (fun x y e => by cases e; rfl) h
theorem rowT_inj {a b : List Int} (h : rowT a = rowT b) : a = b := by
  unfold rowT at h
  injection h with h
  exact map_int_inj h
theorem map_row_inj {a b : List (List Int)} (h : a.map rowT = b.map rowT) : a = b := map_inj' (fun x y e => rowT_inj e) h
end Tw

/-! TwK: the laws as rules, and those of the primitives -/
namespace Tw
open PySem L2
namespace R
section
variable {μ : Store} {ρ : Env} {P : T → Store → Prop} {PL : List T → Store → Prop} {PB : Bool → Store → Prop} {E : Exc → Store → Prop} {a b c : Env → M T} {as : Env → M (List T)} {Q : Out → Store → Prop} {s s' : Env → M Out}
end
@[irreducible] def IsBl (x : T) (P : Bool → Prop) : Prop := ∃ k, x = .bl k ∧ P k
@[irreducible] def IsInt (x : T) (P : Int → Prop) : Prop := ∃ k, x = .int k ∧ P k
@[irreducible] def IsI1 (x : List T) (P : Int → Prop) : Prop := ∃ k, x = [.int k] ∧ P k
@[irreducible] def IsI2 (x : List T) (P : Int → Int → Prop) : Prop := ∃ i j, x = [.int i, .int j] ∧ P i j
@[irreducible] def Len (ts : List T) (n : Nat) (A : Prop) : Prop := ts.length = n ∧ A
theorem isBl {k : Bool} {P : Bool → Prop} (h : P k) : IsBl (.bl k) P := by unfold IsBl; exact ⟨k, rfl, h⟩
theorem IsBl.get {x : T} {P : Bool → Prop} (h : IsBl x P) : ∃ k, x = .bl k ∧ P k := by unfold IsBl at h; exact h
theorem isInt {k : Int} {P : Int → Prop} (h : P k) : IsInt (.int k) P := by unfold IsInt; exact ⟨k, rfl, h⟩
theorem IsInt.get {x : T} {P : Int → Prop} (h : IsInt x P) : ∃ k, x = .int k ∧ P k := by unfold IsInt at h; exact h
theorem isI1 {k : Int} {P : Int → Prop} (h : P k) : IsI1 [.int k] P := by unfold IsI1; exact ⟨k, rfl, h⟩
theorem IsI1.get {x : List T} {P : Int → Prop} (h : IsI1 x P) : ∃ k, x = [.int k] ∧ P k := by unfold IsI1 at h; exact h
theorem isI2 {i j : Int} {P : Int → Int → Prop} (h : P i j) : IsI2 [.int i, .int j] P := by unfold IsI2; exact ⟨i, j, rfl, h⟩
theorem IsI2.get {x : List T} {P : Int → Int → Prop} (h : IsI2 x P) : ∃ i j, x = [.int i, .int j] ∧ P i j := by unfold IsI2 at h; exact h
theorem len {ts : List T} {n : Nat} {A : Prop} (e : ts.length = n) (h : A) : Len ts n A := by unfold Len; exact ⟨e, h⟩
theorem Len.get {ts : List T} {n : Nat} {A : Prop} (h : Len ts n A) : ts.length = n ∧ A := by unfold Len at h; exact h
def dfl (g : Int → List Int → Int) (ns : List Int) (d : T) : T := match ns with
  | [] => d
  | n :: r => .int (g n r)
theorem chk {b : Bool} {A : Prop} (e : b = true) (h : A) : b = true ∧ A := ⟨e, h⟩
section
variable {μ : Store} {ρ : Env} {P : T → Store → Prop} {PL : List T → Store → Prop} {PB : Bool → Store → Prop} {E : Exc → Store → Prop} {a b c : Env → M T} {as : Env → M (List T)} {Q : Out → Store → Prop} {s s' : Env → M Out}
theorem now {α : Type} {x : α} {P : α → Store → Prop} (h : P x μ) : Ok (.ok x μ) P E := h
theorem cVar {i : Nat} {t : T} (e : ρ[i]? = some (some t)) (h : P t μ) : Ok (Tw.cVar i ρ μ) P E := by rw [ok_cVar e]; exact h
theorem cK {t : T} (h : P t μ) : Ok (Tw.cK t ρ μ) P E := h
theorem c1 {g : T → M T} (h : Ok (a ρ μ) (fun x μ' => Ok (g x μ') P E) E) : Ok (Tw.c1 g a ρ μ) P E := by rw [ok_c1]; exact h
theorem c2 {g : T → T → M T} (h : Ok (a ρ μ) (fun x μ' => Ok (b ρ μ') (fun y μ'' => Ok (g x y μ'') P E) E) E) : Ok (Tw.c2 g a b ρ μ) P E := by rw [ok_c2]; exact h
theorem cN {g : List T → M T} (h : Ok (as ρ μ) (fun x μ' => Ok (g x μ') P E) E) : Ok (Tw.cN g as ρ μ) P E := by rw [ok_cN]; exact h
theorem aNil (h : PL [] μ) : Ok (Tw.aNil ρ μ) PL E := h
theorem aCons (h : Ok (a ρ μ) (fun x μ' => Ok (as ρ μ') (fun y μ'' => PL (x :: y) μ'') E) E) : Ok (Tw.aCons a as ρ μ) PL E := by rw [ok_aCons]; exact h
theorem aStar (h : Ok (a ρ μ) (fun x μ' => Ok (mSeq x μ') (fun xs μ1 => Ok (as ρ μ1) (fun y μ'' => PL (xs ++ y) μ'') E) E) E) : Ok (Tw.aStar a as ρ μ) PL E := by rw [ok_aStar]; exact h
theorem cTest (h : Ok (a ρ μ) (fun x μ' => IsBl x fun k => PB k μ') E) : Ok (Tw.cTest a ρ μ) PB E := by
  rw [ok_cTest]
  exact h.mono (fun x μ' h => by
    obtain ⟨k, e, q⟩ := h.get
    subst e
    exact q) fun _ _ z => z
theorem cTru (h : Ok (a ρ μ) (fun x μ' => Ok (mTru x μ') PB E) E) : Ok (Tw.cTru a ρ μ) PB E := by rw [ok_cTru]; exact h
theorem cAnd {x y : Env → M Bool} (h : Ok (x ρ μ) (fun k μ' => (k = true → Ok (y ρ μ') PB E) ∧ (k = false → PB false μ')) E) : Ok (Tw.cAnd x y ρ μ) PB E := by
  rw [ok_cAnd]
  refine h.mono (fun k μ' q => ?_) fun _ _ z => z
  cases k with
  | true => exact q.1 rfl
  | false => exact q.2 rfl
theorem cOr {x y : Env → M Bool} (h : Ok (x ρ μ) (fun k μ' => (k = true → PB true μ') ∧ (k = false → Ok (y ρ μ') PB E)) E) : Ok (Tw.cOr x y ρ μ) PB E := by
  rw [ok_cOr]
  refine h.mono (fun k μ' q => ?_) fun _ _ z => z
  cases k with
  | true => exact q.1 rfl
  | false => exact q.2 rfl
theorem cNot {x : Env → M Bool} (h : Ok (x ρ μ) (fun k μ' => PB (!k) μ') E) : Ok (Tw.cNot x ρ μ) PB E := by rw [ok_cNot]; exact h
theorem cYes (h : PB true μ) : Ok (Tw.cYes ρ μ) PB E := h
theorem cIf {x : Env → M Bool} (h : Ok (x ρ μ) (fun k μ' => (k = true → Ok (a ρ μ') P E) ∧ (k = false → Ok (b ρ μ') P E)) E) : Ok (Tw.cIf x a b ρ μ) P E := by
  rw [ok_cIf]
  refine h.mono (fun k μ' q => ?_) fun _ _ z => z
  cases k with
  | true => exact q.1 rfl
  | false => exact q.2 rfl
theorem cAndT (h : Ok (a ρ μ) (fun x μ' => Ok (mTru x μ') (fun k μ1 => (k = true → Ok (b ρ μ1) P E) ∧ (k = false → P x μ1)) E) E) : Ok (Tw.cAndT a b ρ μ) P E := by
  rw [ok_cAndT]
  refine h.mono (fun x μ' q => q.mono (fun k μ1 q => ?_) fun _ _ z => z) fun _ _ z => z
  cases k with
  | true => exact q.1 rfl
  | false => exact q.2 rfl
theorem cOrT (h : Ok (a ρ μ) (fun x μ' => Ok (mTru x μ') (fun k μ1 => (k = true → P x μ1) ∧ (k = false → Ok (b ρ μ1) P E)) E) E) : Ok (Tw.cOrT a b ρ μ) P E := by
  rw [ok_cOrT]
  refine h.mono (fun x μ' q => q.mono (fun k μ1 q => ?_) fun _ _ z => z) fun _ _ z => z
  cases k with
  | true => exact q.1 rfl
  | false => exact q.2 rfl
theorem cNotT (h : Ok (a ρ μ) (fun x μ' => Ok (mTru x μ') (fun k μ1 => P (.bl (!k)) μ1) E) E) : Ok (Tw.cNotT a ρ μ) P E := by rw [ok_cNotT]; exact h
theorem cChain {g g' : T → T → M T} (h : Ok (a ρ μ) (fun x μ1 => Ok (b ρ μ1) (fun y μ2 => Ok (g x y μ2) (fun z μ3 => IsBl z fun k => (k = true → Ok (c ρ μ3) (fun w μ4 => Ok (g' y w μ4) P E) E) ∧ (k = false → P (.bl false) μ3)) E) E) E) : Ok (Tw.cChain g g' a b c ρ μ) P E := by
  rw [ok_cChain]
  refine h.mono (fun x μ1 q => q.mono (fun y μ2 q => q.mono (fun z μ3 h => ?_) fun _ _ z => z) fun _ _ z => z) fun _ _ z => z
  obtain ⟨k, e, q1, q2⟩ := h.get
  subst e
  cases k with
  | true => exact q1 rfl
  | false => exact q2 rfl
theorem cCall {n : Nat} {g : List T → M T} (h : Ok (as ρ μ) (fun ts μ' => Len ts n (Ok (g ts μ') P E)) E) : Ok (Tw.cCall n g as ρ μ) P E := by
  rw [ok_cCall]
  refine h.mono (fun ts μ' h => ?_) fun _ _ z => z
  obtain ⟨e, q⟩ := h.get
  rw [if_pos e]; exact q
theorem cSlice {lo hi : Env → M (Option Int)} (h : Ok (a ρ μ) (fun x μ1 => Ok (lo ρ μ1) (fun l μ2 => Ok (hi ρ μ2) (fun h μ3 => Ok (mCut x l h μ3) P E) E) E) E) : Ok (Tw.cSlice a lo hi ρ μ) P E := by rw [ok_cSlice]; exact h
theorem oNone {P : Option Int → Store → Prop} (h : P none μ) : Ok (Tw.oNone ρ μ) P E := h
theorem oSome {P : Option Int → Store → Prop} (h : Ok (a ρ μ) (fun x μ' => IsInt x fun i => P (some i) μ') E) : Ok (Tw.oSome a ρ μ) P E := by
  rw [ok_oSome]
  exact h.mono (fun x μ' h => by
    obtain ⟨k, e, q⟩ := h.get
    subst e
    exact q) fun _ _ z => z
theorem cKw {g : List T → T → M T} {d : Env → M T} (h : Ok (as ρ μ) (fun ts μ1 => Ok (d ρ μ1) (fun u μ2 => Ok (g ts u μ2) P E) E) E) : Ok (Tw.cKw g as d ρ μ) P E := by rw [ok_cKw]; exact h
theorem cMeth {Ty : String} {g : T → List T → M T} (h : Ok (a ρ μ) (fun x μ1 => tyOk Ty x μ1 = true ∧ Ok (as ρ μ1) (fun ts μ3 => Ok (g x ts μ3) P E) E) E) : Ok (Tw.cMeth Ty g a as ρ μ) P E := by
  rw [ok_cMeth]
  refine h.mono (fun x μ1 ⟨e, q⟩ => ?_) fun _ _ z => z
  unfold mTy
  rw [e]; exact q
theorem cRgL1 {mk : List T → T} (h : Ok (a ρ μ) (fun x μ' => IsInt x fun j => rgOk 0 j = true ∧ P (mk (rgT 0 j)) μ') E) : Ok (Tw.cRgL1 mk a ρ μ) P E := by
  rw [ok_cRgL1]
  refine h.mono (fun x μ' h => ?_) fun _ _ z => z
  obtain ⟨j, e, q, r⟩ := h.get
  subst e
  unfold mRgL
  dsimp only
  rw [q]; exact r
theorem cRgL2 {mk : List T → T} (h : Ok (a ρ μ) (fun x μ1 => Ok (b ρ μ1) (fun y μ' => IsI2 [x, y] fun i j => rgOk i j = true ∧ P (mk (rgT i j)) μ') E) E) : Ok (Tw.cRgL2 mk a b ρ μ) P E := by
  rw [ok_cRgL2]
  refine h.mono (fun x μ1 q => q.mono (fun y μ' h => ?_) fun _ _ z => z) fun _ _ z => z
  obtain ⟨i, j, e1, q', r⟩ := h.get
  cases e1
  unfold mRgL
  dsimp only
  rw [q']; exact r
theorem iSeq (h : Ok (a ρ μ) (fun x μ' => Ok (mIt x μ') PL E) E) : Ok (Tw.iSeq a ρ μ) PL E := by rw [ok_iSeq]; exact h
theorem mItT {ts : List T} (h : PL ts μ) : Ok (mIt (.tup ts) μ) PL E := h
theorem mItL {ts : List T} (h : PL ts μ) : Ok (mIt (.lst ts) μ) PL E := h
theorem iRg1 (h : Ok (as ρ μ) (fun x μ' => IsI1 x fun j => inR j = true ∧ PL (rgT 0 j) μ') E) : Ok (Tw.iRg1 as ρ μ) PL E := by
  rw [ok_iRg1]
  refine h.mono (fun x μ' h => ?_) fun _ _ z => z
  obtain ⟨j, e, q, r⟩ := h.get
  subst e
  unfold mRg1
  dsimp only
  rw [q]; exact r
theorem iRg2 (h : Ok (as ρ μ) (fun x μ' => IsI2 x fun i j => inR i = true ∧ inR j = true ∧ PL (rgT i j) μ') E) : Ok (Tw.iRg2 as ρ μ) PL E := by
  rw [ok_iRg2]
  refine h.mono (fun x μ' h => ?_) fun _ _ z => z
  obtain ⟨i, j, e, q, q2, r⟩ := h.get
  subst e
  unfold mRg2
  dsimp only
  rw [q, q2]; exact r
theorem iZp (h : Ok (as ρ μ) (fun x μ' => Ok (mZip x μ') PL E) E) : Ok (Tw.iZp as ρ μ) PL E := by rw [ok_iZp]; exact h
theorem iEn (h : Ok (as ρ μ) (fun x μ' => Ok (mEnu x μ') PL E) E) : Ok (Tw.iEn as ρ μ) PL E := by rw [ok_iEn]; exact h
theorem mEnuT {ts : List T} (h : PL (enT ts) μ) : Ok (mEnu [.tup ts] μ) PL E := h
theorem mEnuL {ts : List T} (h : PL (enT ts) μ) : Ok (mEnu [.lst ts] μ) PL E := h
theorem mZipT {ts us : List T} (h : PL (prs ts us) μ) : Ok (mZip [.tup ts, .tup us] μ) PL E := h
theorem mZipL {ts us : List T} (h : PL (prs ts us) μ) : Ok (mZip [.lst ts, .lst us] μ) PL E := h
theorem cLc {it : Env → M (List T)} {f : T → Env → Option Env} {t : Env → M Bool} {vs : List Nat} (h : Ok (it ρ μ) (fun ts μ1 => Ok (lcL ts (lcT f t a (wipeE ρ vs)) [] μ1) (fun us μ2 => P (.lst us) μ2) E) E) : Ok (Tw.cLc it f t a vs ρ μ) P E := by rw [ok_cLc]; exact h
theorem cLc2 {it it1 : Env → M (List T)} {f f1 : T → Env → Option Env} {t t1 : Env → M Bool} {vs vs1 : List Nat} (h : Ok (it ρ μ) (fun ts μ1 => Ok (lcO ts (lcB2 f t it1 f1 t1 a vs1 (wipeE ρ vs)) [] μ1) (fun us μ2 => P (.lst us) μ2) E) E) : Ok (Tw.cLc2 it f t it1 f1 t1 a vs vs1 ρ μ) P E := by rw [ok_cLc2]; exact h
theorem lcT {f : T → Env → Option Env} {c : Env → M Bool} {a : Env → M T} {ρ ρ' : Env} {t : T} {μ : Store} {P : Option T → Store → Prop} (e : f t ρ = some ρ') (h : Ok (c ρ' μ) (fun k μ1 => (k = true → Ok (a ρ' μ1) (fun y μ2 => P (some y) μ2) (fun _ _ => False)) ∧ (k = false → P none μ1)) (fun _ _ => False)) : Ok (Tw.lcT f c a ρ t μ) P E := by
  rw [ok_lcT, e]
  refine h.mono (fun k μ' q => ?_) fun _ _ z => z
  cases k with
  | true => exact q.1 rfl
  | false => exact q.2 rfl
/-! statements -/
theorem sNil (h : Q (.nx ρ) μ) : Ok (Tw.sNil ρ μ) Q E := h
theorem sPass (h : Q (.nx ρ) μ) : Ok (Tw.sPass ρ μ) Q E := h
theorem sBreak (h : Q (.bk ρ) μ) : Ok (Tw.sBreak ρ μ) Q E := h
theorem sCont (h : Q (.ct ρ) μ) : Ok (Tw.sCont ρ μ) Q E := h
theorem sRetN (h : Q (.rt .non) μ) : Ok (Tw.sRetN ρ μ) Q E := h
@[irreducible] def seqQ (s' : Env → M Out) (Q : Out → Store → Prop) (E : Exc → Store → Prop) : Out → Store → Prop := fun o μ' => match o with
  | .nx ρ' => Ok (s' ρ' μ') Q E
  | .bk ρ' => Q (.bk ρ') μ'
  | .ct ρ' => Q (.ct ρ') μ'
  | .rt t => Q (.rt t) μ'
  | .xx ρ' e => Q (.xx ρ' e) μ'
theorem sSeq (h : Ok (s ρ μ) (seqQ s' Q E) E) : Ok (Tw.sSeq s s' ρ μ) Q E := by unfold seqQ at h; rw [ok_sSeq]; exact h
theorem qnx (h : Ok (s' ρ μ) Q E) : seqQ s' Q E (.nx ρ) μ := by unfold seqQ; exact h
theorem qbk (h : Q (.bk ρ) μ) : seqQ s' Q E (.bk ρ) μ := by unfold seqQ; exact h
theorem qct (h : Q (.ct ρ) μ) : seqQ s' Q E (.ct ρ) μ := by unfold seqQ; exact h
theorem qrt {t : T} (h : Q (.rt t) μ) : seqQ s' Q E (.rt t) μ := by unfold seqQ; exact h
theorem qxx {e : Exc} (h : Q (.xx ρ e) μ) : seqQ s' Q E (.xx ρ e) μ := by unfold seqQ; exact h
theorem sExpr (h : Ok (a ρ μ) (fun _ μ' => Q (.nx ρ) μ') (fun e μ' => Q (.xx ρ e) μ')) : Ok (Tw.sExpr a ρ μ) Q E := by rw [ok_sExpr]; exact h
theorem sRet (h : Ok (a ρ μ) (fun t μ' => Q (.rt t) μ') (fun e μ' => Q (.xx ρ e) μ')) : Ok (Tw.sRet a ρ μ) Q E := by rw [ok_sRet]; exact h
theorem sSet {i : Nat} (h : Ok (a ρ μ) (fun t μ' => Q (.nx (ρ.set i (some t))) μ') (fun e μ' => Q (.xx ρ e) μ')) : Ok (Tw.sSet i a ρ μ) Q E := by rw [ok_sSet]; exact h
theorem sIf {x : Env → M Bool} (h : Ok (x ρ μ) (fun k μ' => (k = true → Ok (s ρ μ') Q E) ∧ (k = false → Ok (s' ρ μ') Q E)) (fun e μ' => Q (.xx ρ e) μ')) : Ok (Tw.sIf x s s' ρ μ) Q E := by
  rw [ok_sIf]
  refine h.mono (fun k μ' q => ?_) fun _ _ z => z
  cases k with
  | true => exact q.1 rfl
  | false => exact q.2 rfl
theorem sAsg {f : T → Env → Option Env} (h : Ok (a ρ μ) (fun t μ' => ∃ ρ', f t ρ = some ρ' ∧ Q (.nx ρ') μ') (fun e μ' => Q (.xx ρ e) μ')) : Ok (Tw.sAsg a f ρ μ) Q E := by
  rw [ok_sAsg]
  refine h.mono (fun t μ' ⟨ρ', e, q⟩ => ?_) fun _ _ z => z
  rw [e]; exact q
theorem sStore {i : Env → M T} (h : Ok (a ρ μ) (fun v μ1 => Ok (b ρ μ1) (fun o μ2 => Ok (i ρ μ2) (fun k μ3 => Ok (mPut o k v μ3) (fun _ μ4 => Q (.nx ρ) μ4) (fun e μ' => Q (.xx ρ e) μ')) (fun e μ' => Q (.xx ρ e) μ')) (fun e μ' => Q (.xx ρ e) μ')) (fun e μ' => Q (.xx ρ e) μ')) : Ok (Tw.sStore a b i ρ μ) Q E := by rw [ok_sStore]; exact h
theorem sPar {i j : Nat} (h : Ok (a ρ μ) (fun x μ1 => Ok (b ρ μ1) (fun y μ2 => Q (.nx ((ρ.set i (some x)).set j (some y))) μ2) (fun e μ' => Q (.xx ρ e) μ')) (fun e μ' => Q (.xx ρ e) μ')) : Ok (Tw.sPar i j a b ρ μ) Q E := by rw [ok_sPar]; exact h
theorem sFor {it : Env → M (List T)} {f : T → Env → Option Env} (h : Ok (it ρ μ) (fun ts μ' => Ok (forL ts (stp f s) ρ μ') Q E) (fun e μ' => Q (.xx ρ e) μ')) : Ok (Tw.sFor it f s ρ μ) Q E := by rw [ok_sFor]; exact h
theorem stp {f : T → Env → Option Env} {t : T} {ρ' : Env} (e : f t ρ = some ρ') (h : Ok (s ρ' μ) Q E) : Ok (Tw.stp f s t ρ μ) Q E := by rw [ok_stp, e]; exact h
@[irreducible] def fnQ (P : T → Store → Prop) (E : Exc → Store → Prop) : Out → Store → Prop := fun o μ' => match o with
  | .nx _ => P .non μ'
  | .rt t => P t μ'
  | .xx _ e => E e μ'
  | _ => False
theorem fnD {N : Nat} {ts : List T} (h : Ok (s (ts.map some ++ List.replicate (N - ts.length) none) μ) (fnQ P E) (fun _ _ => False)) : Ok (Tw.fnD N s ts μ) P E := by unfold fnQ at h; rw [ok_fnD]; exact h
theorem fnx (h : P .non μ) : fnQ P E (.nx ρ) μ := by unfold fnQ; exact h
theorem frt {t : T} (h : P t μ) : fnQ P E (.rt t) μ := by unfold fnQ; exact h
theorem fxx {e : Exc} (h : E e μ) : fnQ P E (.xx ρ e) μ := by unfold fnQ; exact h
/-! primitives -/
theorem ite_true {A B : Prop} {k : Bool} (h1 : k = true → A) (h2 : k = false → B) : (k = true → A) ∧ (k = false → B) := ⟨h1, h2⟩
theorem brT {A B : Prop} (h : A) : (true = true → A) ∧ (true = false → B) := ⟨fun _ => h, fun z => by cases z⟩
theorem brF {A B : Prop} (h : B) : (false = true → A) ∧ (false = false → B) := ⟨fun z => (by cases z), fun _ => h⟩
theorem brNT {A B : Prop} (h : B) : ((!true) = true → A) ∧ ((!true) = false → B) := ⟨fun z => (by cases z), fun _ => h⟩
theorem brNF {A B : Prop} (h : A) : ((!false) = true → A) ∧ ((!false) = false → B) := ⟨fun _ => h, fun z => by cases z⟩
theorem atI_lt {ts : List T} {i : Int} (h0 : 0 ≤ i) (h1 : i < ts.length) : ∃ t, atI ts i = some t ∧ ts[i.toNat]? = some t := by
  have hl : i.toNat < ts.length := by omega
  refine ⟨ts[i.toNat], ?_, List.getElem?_eq_getElem hl⟩
  unfold atI ixN
  rw [if_pos h0, if_pos h1]
  exact List.getElem?_eq_getElem hl
theorem atI_0 {a : T} {l : List T} : atI (a :: l) 0 = some a := by
  unfold atI ixN
  rw [if_pos (by omega), if_pos (by rw [List.length_cons]; omega)]
  rfl
theorem gIx0 {a : T} {l : List T} (h : P a μ) : Ok (gIxD (.lst (a :: l)) (.int 0) μ) P E := by
  unfold gIxD gIx
  simp only [dicOf, seqOf, lstOf, atI_0]
  exact h
theorem gIxO {n : Nat} {ts : List T} {i : Int} {t : T} (hm : μ[n]? = some (some (.lst ts))) (hi : atI ts i = some t) (h : P t μ) : Ok (gIxD (.obj n) (.int i) μ) P E := by
  unfold gIxD gIx
  simp only [dicOf, seqOf, lstOf, hm, hi]
  exact h
theorem gIxT {ts : List T} {i : Int} {t : T} (hi : atI ts i = some t) (h : P t μ) : Ok (gIxD (.tup ts) (.int i) μ) P E := by
  unfold gIxD gIx
  simp only [dicOf, seqOf, lstOf, hi]
  exact h
theorem gIxL {ts : List T} {i : Int} {t : T} (hi : atI ts i = some t) (h : P t μ) : Ok (gIxD (.lst ts) (.int i) μ) P E := by
  unfold gIxD gIx
  simp only [dicOf, seqOf, lstOf, hi]
  exact h
theorem gIxS {ts : List T} {i : Int} {t : T} (hi : atI ts i = some t) (h : P t μ) : Ok (gIxD (.scr ts) (.int i) μ) P E := by
  unfold gIxD gIx
  simp only [dicOf, seqOf, lstOf, hi]
  exact h
theorem gAddI {i j : Int} (h : P (.int (i + j)) μ) : Ok (gAdd (.int i) (.int j) μ) P E := h
theorem gAddT {i j : List T} (hl : i.length + j.length ≤ lim) (h : P (.tup (i ++ j)) μ) : Ok (gAdd (.tup i) (.tup j) μ) P E := by unfold gAdd; dsimp only; rw [if_pos hl]; exact h
theorem gAddL {i j : List T} (hl : i.length + j.length ≤ lim) (h : P (.lst (i ++ j)) μ) : Ok (gAdd (.lst i) (.lst j) μ) P E := by unfold gAdd; simp only [lstOf]; rw [if_pos hl]; exact h
theorem gSub {i j : Int} (h : P (.int (i - j)) μ) : Ok (Tw.gSub (.int i) (.int j) μ) P E := h
theorem gMul {i j : Int} (hc : cMulB i j = true) (h : P (.int (i * j)) μ) : Ok (gMulI (.int i) (.int j) μ) P E := by unfold gMulI; dsimp only; rw [hc]; exact h
theorem mulR {i j : Int} (h : (decide (-(2 ^ 64) < j) && decide (j < 2 ^ 64)) = true) : cMulB i j = true := by unfold cMulB; rw [h, Bool.or_true]
theorem mulL {i j : Int} (h : (decide (-(2 ^ 64) < i) && decide (i < 2 ^ 64)) = true) : cMulB i j = true := by unfold cMulB; rw [h, Bool.true_or]
theorem gFdiv {i j : Int} (h0 : 0 < j) (h1 : j < 1073741824) (h : P (.int (i / j)) μ) : Ok (Tw.gFdiv (.int i) (.int j) μ) P E := by unfold Tw.gFdiv; dsimp only; rw [decide_eq_true h0, decide_eq_true h1]; exact h
theorem gMod {i j : Int} (h0 : 0 < j) (h : P (.int (i % j)) μ) : Ok (Tw.gMod (.int i) (.int j) μ) P E := by unfold Tw.gMod; dsimp only; rw [decide_eq_true h0]; exact h
theorem gPow {i j : Int} (h0 : (decide (0 ≤ j) && decide (j ≤ 1000000) && decide (i.natAbs < 2 ^ 64)) = true) (h : P (.int (i ^ j.toNat)) μ) : Ok (Tw.gPow (.int i) (.int j) μ) P E := by unfold Tw.gPow; dsimp only; rw [h0]; exact h
theorem gLt {i j : Int} (h : P (.bl (decide (i < j))) μ) : Ok (Tw.gLt (.int i) (.int j) μ) P E := h
theorem gLe {i j : Int} (h : P (.bl (decide (i ≤ j))) μ) : Ok (Tw.gLe (.int i) (.int j) μ) P E := h
theorem gGt {i j : Int} (h : P (.bl (decide (j < i))) μ) : Ok (Tw.gGt (.int i) (.int j) μ) P E := h
theorem gGe {i j : Int} (h : P (.bl (decide (j ≤ i))) μ) : Ok (Tw.gGe (.int i) (.int j) μ) P E := h
theorem gNeg {i : Int} (h : P (.int (-i)) μ) : Ok (Tw.gNeg (.int i) μ) P E := h
theorem eqI {neg : Bool} {i j : Int} (h : P (.bl (if neg then !decide (i = j) else decide (i = j))) μ) : Ok (gEqD neg (.int i) (.int j) μ) P E := by
  rw [gEqD_dat (n := 1) (by omega) (dat_int i) (dat_int j)]
  have : decide (T.int i = T.int j) = decide (i = j) := by
    by_cases e : i = j
    · subst e; simp
    · rw [decide_eq_false e, decide_eq_false (fun z => e (by cases z; rfl))]
  rw [this]; exact h
theorem eqD {neg : Bool} {x y : T} {n : Nat} (hn : n ≤ 64) (hx : dat n x = true) (hy : dat n y = true) (h : P (.bl (if neg then !decide (x = y) else decide (x = y))) μ) : Ok (gEqD neg x y μ) P E := by
  rw [gEqD_dat hn hx hy]; exact h
theorem eqI0 {i j : Int} (h : P (.bl (decide (i = j))) μ) : Ok (gEqD false (.int i) (.int j) μ) P E := eqI h
theorem eqI1 {i j : Int} (h : P (.bl (!decide (i = j))) μ) : Ok (gEqD true (.int i) (.int j) μ) P E := eqI h
theorem eqD0 {x y : T} {n : Nat} (hn : n ≤ 64) (hx : dat n x = true) (hy : dat n y = true) (h : P (.bl (decide (x = y))) μ) : Ok (gEqD false x y μ) P E := eqD hn hx hy h
theorem eqD1 {x y : T} {n : Nat} (hn : n ≤ 64) (hx : dat n x = true) (hy : dat n y = true) (h : P (.bl (!decide (x = y))) μ) : Ok (gEqD true x y μ) P E := eqD hn hx hy h
theorem bLenT {ts : List T} (h : P (.int ts.length) μ) : Ok (bLen [.tup ts] μ) P E := h
theorem bLenL {ts : List T} (h : P (.int ts.length) μ) : Ok (bLen [.lst ts] μ) P E := h
theorem bLenS {ts : List T} (h : P (.int ts.length) μ) : Ok (bLen [.scr ts] μ) P E := h
theorem bLenO {n : Nat} {ts : List T} (hm : μ[n]? = some (some (.lst ts))) (h : P (.int ts.length) μ) : Ok (bLen [.obj n] μ) P E := by
  unfold bLen
  simp only [seqOf, lstOf, hm]
  exact h
theorem bInt {i : Int} (h : P (.int i) μ) : Ok (Tw.bInt [.int i] μ) P E := h
theorem bIntB {k : Bool} (h : P (.int (if k then 1 else 0)) μ) : Ok (Tw.bInt [.bl k] μ) P E := h
theorem bTupL {ts : List T} (h : P (.tup ts) μ) : Ok (bTuple [.lst ts] μ) P E := h
theorem bTupT {ts : List T} (h : P (.tup ts) μ) : Ok (bTuple [.tup ts] μ) P E := h
theorem bLstT {ts : List T} (h : P (.lst ts) μ) : Ok (bListD [.tup ts] μ) P E := h
theorem bLstL {ts : List T} (h : P (.lst ts) μ) : Ok (bListD [.lst ts] μ) P E := h
theorem bLstD {n : Nat} {ks : List Key} {ts : List T} (hm : μ[n]? = some (some (.dic ks ts))) (h : P (.lst (ks.map unKey)) μ) : Ok (bListD [.obj n] μ) P E := by
  unfold bListD
  simp only [hm]
  exact h
theorem mTup {ts : List T} (hl : ts.length ≤ lim) (h : P (.tup ts) μ) : Ok (Tw.mTup ts μ) P E := by unfold Tw.mTup; rw [if_pos hl]; exact h
theorem mLst {ts : List T} (hl : ts.length ≤ lim) (h : P (.lst ts) μ) : Ok (Tw.mLst ts μ) P E := by unfold Tw.mLst; rw [if_pos hl]; exact h
theorem mNew {ts : List T} (hl : ts.length ≤ lim) (h : P (.obj μ.length) (μ ++ [some (.lst ts)])) : Ok (Tw.mNew ts μ) P E := by unfold Tw.mNew; rw [if_pos hl]; exact h
theorem mSeqT {ts : List T} (h : PL ts μ) : Ok (mSeq (.tup ts) μ) PL E := h
theorem mSeqL {ts : List T} (h : PL ts μ) : Ok (mSeq (.lst ts) μ) PL E := h
theorem mTruB {k : Bool} (h : PB k μ) : Ok (mTru (.bl k) μ) PB E := h
theorem mTruI {k : Int} (h : PB (k != 0) μ) : Ok (mTru (.int k) μ) PB E := h
theorem mTruT {ts : List T} (h : PB (!ts.isEmpty) μ) : Ok (mTru (.tup ts) μ) PB E := h
theorem mTruL {ts : List T} (h : PB (!ts.isEmpty) μ) : Ok (mTru (.lst ts) μ) PB E := h
theorem mTruN (h : PB false μ) : Ok (mTru .non μ) PB E := h
theorem mCutT {ts : List T} {l u : Option Int} (h : P (.tup (cutT ts l u)) μ) : Ok (mCut (.tup ts) l u μ) P E := h
theorem mCutL {ts : List T} {l u : Option Int} (h : P (.lst (cutT ts l u)) μ) : Ok (mCut (.lst ts) l u μ) P E := h
theorem mPutL {n : Nat} {ts : List T} {k : Int} {j : Nat} {v : T} {PU : Unit → Store → Prop} (hm : μ[n]? = some (some (.lst ts))) (hj : ixN ts.length k = some j) (h : ∀ μ', μ' = μ.set n (some (.lst (ts.set j v))) → μ'[n]? = some (some (.lst (ts.set j v))) → PU () μ') : Ok (mPut (.obj n) (.int k) v μ) PU E := by
  unfold mPut
  simp only [hm, hj]
  exact h _ rfl (List.getElem?_set_self (List.getElem?_eq_some_iff.mp hm).1)
theorem bAll {bs : List Bool} (h : P (.bl (bs.all id)) μ) : Ok (Tw.bAll [.lst (bs.map T.bl)] μ) P E := by
  unfold Tw.bAll
  simp only [lstOf, Option.bind_some, blsT_map]
  exact h
theorem bSum {ns : List Int} (h : P (.int ns.sum) μ) : Ok (Tw.bSum [.lst (ns.map T.int)] μ) P E := by
  unfold Tw.bSum
  simp only [lstOf, Option.bind_some, intsT_map]
  exact h
theorem bSortR {rs : List (List Int)} (h : P (.lst ((rs.mergeSort leRow).map rowT)) μ) : Ok (Tw.bSorted [.lst (rs.map rowT)] μ) P E := by
  unfold Tw.bSorted
  simp only [lstOf, rowsT_map]
  exact h
theorem kMax {g : Int → List Int → Int} {ns : List Int} {d : T} (h : P (dfl g ns d) μ) : Ok (kMM g [.tup (ns.map T.int)] d μ) P E := by
  unfold kMM
  simp only [seqOf, Option.bind_some, intsT_map]
  cases ns <;> exact h
theorem isiTup {ts : List T} (h : P (.bl true) μ) : Ok (bIsi [.tup ts, .ty "tuple"] μ) P E := h
theorem isiInt {i : Int} (h : P (.bl true) μ) : Ok (bIsi [.int i, .ty "int"] μ) P E := h
theorem isiIntB {i : Int} (h : P (.bl false) μ) : Ok (bIsi [.int i, .ty "bool"] μ) P E := h
end
theorem fT {ρ' : Env} : True := trivial
end R
end Tw
namespace Tw
open PySem L2
section
variable {α : Type} {E : Exc → Store → Prop} {P : List T → Store → Prop} {b : T → M (Option T)} {μ : Store}
theorem lcL_map_eq {enc : α → T} (f : α → T) : ∀ (l : List α) (acc : List T), (∀ a ∈ l, Ok (b (enc a) μ) (fun o μ' => o = some (f a) ∧ μ' = μ) fun _ _ => False) → acc.length + l.length ≤ lim → lcL (l.map enc) b acc μ = .ok (acc ++ l.map f) μ
  | [], acc, _, _ => by simp [lcL]
  | a :: l, acc, h, hl => by
    rw [List.length_cons] at hl
    rw [List.map_cons]
    unfold lcL
    rw [bnd_ok (eq_of_ok (h a List.mem_cons_self))]
    show (if acc.length < lim then lcL (l.map enc) b (acc ++ [f a]) else bad) μ = _
    rw [if_pos (by omega), lcL_map_eq f l _ (fun u hu => h u (List.mem_cons_of_mem _ hu)) (by rw [List.length_append, List.length_singleton]; omega), List.map_cons]
    simp
theorem lc_filter {enc : α → T} (p : α → Bool) (f : α → T) {l : List α} (h : ∀ a ∈ l, Ok (b (enc a) μ) (fun o μ' => o = (if p a then some (f a) else none) ∧ μ' = μ) fun _ _ => False) (hl : l.length ≤ lim) (hP : P ((l.filter p).map f) μ) : Ok (lcL (l.map enc) b [] μ) P E := by
  have key : ∀ (l : List α) (acc : List T), (∀ a ∈ l, Ok (b (enc a) μ) (fun o μ' => o = (if p a then some (f a) else none) ∧ μ' = μ) fun _ _ => False) → acc.length + l.length ≤ lim → lcL (l.map enc) b acc μ = .ok (acc ++ (l.filter p).map f) μ := by
    intro l
    induction l with
    | nil => intro acc _ _; simp [lcL]
    | cons a l ih =>
      intro acc h hl
      rw [List.length_cons] at hl
      rw [List.map_cons]
      unfold lcL
      rw [bnd_ok (eq_of_ok (h a List.mem_cons_self))]
      by_cases hp : p a = true
      · rw [if_pos hp]
        show (if acc.length < lim then lcL (l.map enc) b (acc ++ [f a]) else bad) μ = _
        rw [if_pos (by omega), ih _ (fun u hu => h u (List.mem_cons_of_mem _ hu)) (by rw [List.length_append, List.length_singleton]; omega), List.filter_cons_of_pos hp, List.map_cons]
        simp
      · rw [if_neg hp]
        show lcL (l.map enc) b acc μ = _
        rw [ih _ (fun u hu => h u (List.mem_cons_of_mem _ hu)) (by omega), List.filter_cons_of_neg hp]
  exact Ok.of_eq (key l [] h (by simpa using hl)) (by simpa using hP)
theorem lc_map {enc : α → T} (f : α → T) {l : List α} (h : ∀ a ∈ l, Ok (b (enc a) μ) (fun o μ' => o = some (f a) ∧ μ' = μ) fun _ _ => False) (hl : l.length ≤ lim) (hP : P (l.map f) μ) : Ok (lcL (l.map enc) b [] μ) P E := by
  refine lc_filter (fun _ => true) f (fun a ha => (h a ha).mono (fun o μ' ⟨e1, e2⟩ => ⟨by rw [e1]; rfl, e2⟩) fun _ _ z => z) hl ?_
  rw [List.filter_eq_self.mpr (fun _ _ => rfl)]
  exact hP
end
/-- the ints a .. b - 1 -/
def rgI (a b : Int) : List Int := (List.range (b - a).toNat).map fun k => a + (k : Nat)
theorem rgT_eq (a b : Int) : rgT a b = (rgI a b).map T.int := by
  unfold rgT rgI
  rw [List.map_map]
  rfl
theorem mem_rgI {a b x : Int} : x ∈ rgI a b ↔ a ≤ x ∧ x < b := by
  unfold rgI
  rw [List.mem_map]
  constructor
  · rintro ⟨k, hk, rfl⟩
    rw [List.mem_range] at hk
    omega
  · intro h
    exact ⟨(x - a).toNat, by rw [List.mem_range]; omega, by omega⟩
theorem rgI_length (a b : Int) : (rgI a b).length = (b - a).toNat := by unfold rgI; rw [List.length_map, List.length_range]
/-! ### dicts with int keys -/
theorem hasL_mem {ks : List Key} {k : Key} : hasL ks k = true ↔ k ∈ ks := by
  unfold hasL
  rw [List.any_eq_true]
  constructor
  · rintro ⟨x, h1, h2⟩
    rw [decide_eq_true_eq] at h2
    exact h2 ▸ h1
  · intro h
    exact ⟨k, h, decide_eq_true rfl⟩
theorem putL_mem {α : Type} {ks : List Key} {xs : List α} {k k' : Key} {y : α} : k' ∈ (putL ks xs k y).1 ↔ k' ∈ ks ∨ k' = k := by
  unfold putL
  split
  · rename_i h
    rw [hasL_mem] at h
    constructor
    · exact .inl
    · rintro (h1 | rfl)
      · exact h1
      · exact h
  · show k' ∈ ks ++ [k] ↔ _
    rw [List.mem_append, List.mem_singleton]
theorem putL_le {α : Type} {ks : List Key} {xs : List α} {k : Key} {y : α} : (putL ks xs k y).1.length ≤ ks.length + 1 := by
  unfold putL
  split
  · exact Nat.le_succ _
  · show (ks ++ [k]).length ≤ _
    rw [List.length_append]
    exact Nat.le_refl _
theorem mergeL_mem {α : Type} : ∀ {ps : List (Key × α)} {p : List Key × List α} {k : Key}, k ∈ (mergeL ps p).1 ↔ k ∈ p.1 ∨ k ∈ ps.map (·.1)
  | [], p, k => by show k ∈ p.1 ↔ _; simp
  | (k', v) :: ps, p, k => by
    show k ∈ (mergeL ps (putL p.1 p.2 k' v)).1 ↔ _
    rw [mergeL_mem, putL_mem]
    simp only [List.map_cons, List.mem_cons]
    constructor
    · rintro ((h | h) | h)
      · exact .inl h
      · exact .inr (.inl h)
      · exact .inr (.inr h)
    · rintro (h | h | h)
      · exact .inl (.inl h)
      · exact .inl (.inr h)
      · exact .inr h
theorem mergeL_le {α : Type} : ∀ {ps : List (Key × α)} {p : List Key × List α}, (mergeL ps p).1.length ≤ p.1.length + ps.length
  | [], p => Nat.le_refl _
  | (k', v) :: ps, p => by
    have h1 := mergeL_le (ps := ps) (p := putL p.1 p.2 k' v)
    have h2 := putL_le (ks := p.1) (xs := p.2) (k := k') (y := v)
    show (mergeL ps (putL p.1 p.2 k' v)).1.length ≤ _
    rw [List.length_cons]
    omega
theorem getL_mem {α : Type} : ∀ {ks : List Key} {xs : List α} {k : Key}, ks.length = xs.length → ((getL ks xs k).isSome = true ↔ k ∈ ks)
  | [], [], _, _ => by simp [getL]
  | k' :: ks, x :: xs, k, h => by
    unfold getL
    by_cases e : k' = k
    · rw [if_pos e]; simp [e]
    · rw [if_neg e, getL_mem (by simpa using h)]
      simp only [List.mem_cons]
      constructor
      · exact .inr
      · rintro (h1 | h1)
        · exact absurd h1.symm e
        · exact h1
  | [], _ :: _, _, h => by simp at h
  | _ :: _, [], _, h => by simp at h
end Tw
namespace Tw
open PySem L2
theorem flats_ints : ∀ l : List Int, flatsT (l.map T.int) = some (l.map V.int)
  | [] => rfl
  | i :: l => by rw [List.map_cons]; unfold flatsT; rw [flats_ints l]; rfl
theorem inV_ints {d : Int} : ∀ l : List Int, inV (.int d) (l.map V.int) = decide (d ∈ l)
  | [] => by simp [inV]
  | i :: l => by
    have ih := inV_ints (d := d) l
    unfold inV at ih ⊢
    rw [List.map_cons, List.any_cons, ih]
    have : eqV (V.int i) (V.int d) = decide (d = i) := by
      show (i == d) = _
      by_cases e : d = i
      · subst e; simp
      · rw [decide_eq_false e]; simp; exact fun z => e z.symm
    rw [this]
    simp
theorem all_flat : ∀ l : List Int, (l.map V.int).all flatV = true
  | [] => rfl
  | _ :: l => by rw [List.map_cons, List.all_cons, all_flat l]; rfl
theorem gIn_seq {neg : Bool} {d : Int} {l : List Int} {y : T} {μ : Store} (hd : dicOf y μ = none) (hy : seqOf y μ = some (l.map T.int)) : gIn neg (.int d) y μ = .ok (.bl (if neg then !decide (d ∈ l) else decide (d ∈ l))) μ := by
  unfold gIn
  rw [hd]
  show gInS neg (.int d) y μ = _
  unfold gInS
  rw [hy]
  simp only [flatT, Option.bind_some, flats_ints]
  rw [all_flat, inV_ints]
  rfl
theorem R.inL1 {d : Int} {l : List Int} {μ : Store} {P : T → Store → Prop} {E : Exc → Store → Prop} (h : P (.bl (!decide (d ∈ l))) μ) : Ok (gIn true (.int d) (.lst (l.map T.int)) μ) P E := Ok.of_eq (gIn_seq rfl rfl) h
theorem R.inL0 {d : Int} {l : List Int} {μ : Store} {P : T → Store → Prop} {E : Exc → Store → Prop} (h : P (.bl (decide (d ∈ l))) μ) : Ok (gIn false (.int d) (.lst (l.map T.int)) μ) P E := Ok.of_eq (gIn_seq rfl rfl) h
theorem R.inT1 {d : Int} {l : List Int} {μ : Store} {P : T → Store → Prop} {E : Exc → Store → Prop} (h : P (.bl (!decide (d ∈ l))) μ) : Ok (gIn true (.int d) (.tup (l.map T.int)) μ) P E := Ok.of_eq (gIn_seq rfl rfl) h
theorem R.inT0 {d : Int} {l : List Int} {μ : Store} {P : T → Store → Prop} {E : Exc → Store → Prop} (h : P (.bl (decide (d ∈ l))) μ) : Ok (gIn false (.int d) (.tup (l.map T.int)) μ) P E := Ok.of_eq (gIn_seq rfl rfl) h
end Tw

/-! TwI: copies that don't unfold -/
namespace Tw
open PySem L2
namespace I
@[irreducible] def cVar := @Tw.cVar
theorem cVar_eq : @I.cVar = @Tw.cVar := by unfold I.cVar; rfl
@[irreducible] def cK := @Tw.cK
theorem cK_eq : @I.cK = @Tw.cK := by unfold I.cK; rfl
@[irreducible] def c1 := @Tw.c1
theorem c1_eq : @I.c1 = @Tw.c1 := by unfold I.c1; rfl
@[irreducible] def c2 := @Tw.c2
theorem c2_eq : @I.c2 = @Tw.c2 := by unfold I.c2; rfl
@[irreducible] def cN := @Tw.cN
theorem cN_eq : @I.cN = @Tw.cN := by unfold I.cN; rfl
@[irreducible] def aNil := @Tw.aNil
theorem aNil_eq : @I.aNil = @Tw.aNil := by unfold I.aNil; rfl
@[irreducible] def aCons := @Tw.aCons
theorem aCons_eq : @I.aCons = @Tw.aCons := by unfold I.aCons; rfl
@[irreducible] def aStar := @Tw.aStar
theorem aStar_eq : @I.aStar = @Tw.aStar := by unfold I.aStar; rfl
@[irreducible] def cTest := @Tw.cTest
theorem cTest_eq : @I.cTest = @Tw.cTest := by unfold I.cTest; rfl
@[irreducible] def cTru := @Tw.cTru
theorem cTru_eq : @I.cTru = @Tw.cTru := by unfold I.cTru; rfl
@[irreducible] def cAnd := @Tw.cAnd
theorem cAnd_eq : @I.cAnd = @Tw.cAnd := by unfold I.cAnd; rfl
@[irreducible] def cOr := @Tw.cOr
theorem cOr_eq : @I.cOr = @Tw.cOr := by unfold I.cOr; rfl
@[irreducible] def cNot := @Tw.cNot
theorem cNot_eq : @I.cNot = @Tw.cNot := by unfold I.cNot; rfl
@[irreducible] def cYes := @Tw.cYes
theorem cYes_eq : @I.cYes = @Tw.cYes := by unfold I.cYes; rfl
@[irreducible] def cIf := @Tw.cIf
theorem cIf_eq : @I.cIf = @Tw.cIf := by unfold I.cIf; rfl
@[irreducible] def cAndT := @Tw.cAndT
theorem cAndT_eq : @I.cAndT = @Tw.cAndT := by unfold I.cAndT; rfl
@[irreducible] def cOrT := @Tw.cOrT
theorem cOrT_eq : @I.cOrT = @Tw.cOrT := by unfold I.cOrT; rfl
@[irreducible] def cNotT := @Tw.cNotT
theorem cNotT_eq : @I.cNotT = @Tw.cNotT := by unfold I.cNotT; rfl
@[irreducible] def cChain := @Tw.cChain
theorem cChain_eq : @I.cChain = @Tw.cChain := by unfold I.cChain; rfl
@[irreducible] def cCall := @Tw.cCall
theorem cCall_eq : @I.cCall = @Tw.cCall := by unfold I.cCall; rfl
@[irreducible] def cSlice := @Tw.cSlice
theorem cSlice_eq : @I.cSlice = @Tw.cSlice := by unfold I.cSlice; rfl
@[irreducible] def oNone := @Tw.oNone
theorem oNone_eq : @I.oNone = @Tw.oNone := by unfold I.oNone; rfl
@[irreducible] def oSome := @Tw.oSome
theorem oSome_eq : @I.oSome = @Tw.oSome := by unfold I.oSome; rfl
@[irreducible] def cKw := @Tw.cKw
theorem cKw_eq : @I.cKw = @Tw.cKw := by unfold I.cKw; rfl
@[irreducible] def cMeth := @Tw.cMeth
theorem cMeth_eq : @I.cMeth = @Tw.cMeth := by unfold I.cMeth; rfl
@[irreducible] def cRgL1 := @Tw.cRgL1
theorem cRgL1_eq : @I.cRgL1 = @Tw.cRgL1 := by unfold I.cRgL1; rfl
@[irreducible] def cRgL2 := @Tw.cRgL2
theorem cRgL2_eq : @I.cRgL2 = @Tw.cRgL2 := by unfold I.cRgL2; rfl
@[irreducible] def iSeq := @Tw.iSeq
theorem iSeq_eq : @I.iSeq = @Tw.iSeq := by unfold I.iSeq; rfl
@[irreducible] def iRg1 := @Tw.iRg1
theorem iRg1_eq : @I.iRg1 = @Tw.iRg1 := by unfold I.iRg1; rfl
@[irreducible] def iRg2 := @Tw.iRg2
theorem iRg2_eq : @I.iRg2 = @Tw.iRg2 := by unfold I.iRg2; rfl
@[irreducible] def iZp := @Tw.iZp
theorem iZp_eq : @I.iZp = @Tw.iZp := by unfold I.iZp; rfl
@[irreducible] def iEn := @Tw.iEn
theorem iEn_eq : @I.iEn = @Tw.iEn := by unfold I.iEn; rfl
@[irreducible] def cLc := @Tw.cLc
theorem cLc_eq : @I.cLc = @Tw.cLc := by unfold I.cLc; rfl
@[irreducible] def cLc2 := @Tw.cLc2
theorem cLc2_eq : @I.cLc2 = @Tw.cLc2 := by unfold I.cLc2; rfl
@[irreducible] def lcT := @Tw.lcT
theorem lcT_eq : @I.lcT = @Tw.lcT := by unfold I.lcT; rfl
@[irreducible] def sNil := @Tw.sNil
theorem sNil_eq : @I.sNil = @Tw.sNil := by unfold I.sNil; rfl
@[irreducible] def sPass := @Tw.sPass
theorem sPass_eq : @I.sPass = @Tw.sPass := by unfold I.sPass; rfl
@[irreducible] def sBreak := @Tw.sBreak
theorem sBreak_eq : @I.sBreak = @Tw.sBreak := by unfold I.sBreak; rfl
@[irreducible] def sCont := @Tw.sCont
theorem sCont_eq : @I.sCont = @Tw.sCont := by unfold I.sCont; rfl
@[irreducible] def sBad := @Tw.sBad
theorem sBad_eq : @I.sBad = @Tw.sBad := by unfold I.sBad; rfl
@[irreducible] def sRetN := @Tw.sRetN
theorem sRetN_eq : @I.sRetN = @Tw.sRetN := by unfold I.sRetN; rfl
@[irreducible] def sSeq := @Tw.sSeq
theorem sSeq_eq : @I.sSeq = @Tw.sSeq := by unfold I.sSeq; rfl
@[irreducible] def sExpr := @Tw.sExpr
theorem sExpr_eq : @I.sExpr = @Tw.sExpr := by unfold I.sExpr; rfl
@[irreducible] def sRet := @Tw.sRet
theorem sRet_eq : @I.sRet = @Tw.sRet := by unfold I.sRet; rfl
@[irreducible] def sSet := @Tw.sSet
theorem sSet_eq : @I.sSet = @Tw.sSet := by unfold I.sSet; rfl
@[irreducible] def sIf := @Tw.sIf
theorem sIf_eq : @I.sIf = @Tw.sIf := by unfold I.sIf; rfl
@[irreducible] def sAsg := @Tw.sAsg
theorem sAsg_eq : @I.sAsg = @Tw.sAsg := by unfold I.sAsg; rfl
@[irreducible] def sStore := @Tw.sStore
theorem sStore_eq : @I.sStore = @Tw.sStore := by unfold I.sStore; rfl
@[irreducible] def sPar := @Tw.sPar
theorem sPar_eq : @I.sPar = @Tw.sPar := by unfold I.sPar; rfl
@[irreducible] def sPar3 := @Tw.sPar3
theorem sPar3_eq : @I.sPar3 = @Tw.sPar3 := by unfold I.sPar3; rfl
@[irreducible] def sAug := @Tw.sAug
theorem sAug_eq : @I.sAug = @Tw.sAug := by unfold I.sAug; rfl
@[irreducible] def sFor := @Tw.sFor
theorem sFor_eq : @I.sFor = @Tw.sFor := by unfold I.sFor; rfl
@[irreducible] def stp := @Tw.stp
theorem stp_eq : @I.stp = @Tw.stp := by unfold I.stp; rfl
@[irreducible] def fnD := @Tw.fnD
theorem fnD_eq : @I.fnD = @Tw.fnD := by unfold I.fnD; rfl
@[irreducible] def gIxD := @Tw.gIxD
theorem gIxD_eq : @I.gIxD = @Tw.gIxD := by unfold I.gIxD; rfl
@[irreducible] def gAdd := @Tw.gAdd
theorem gAdd_eq : @I.gAdd = @Tw.gAdd := by unfold I.gAdd; rfl
@[irreducible] def gSub := @Tw.gSub
theorem gSub_eq : @I.gSub = @Tw.gSub := by unfold I.gSub; rfl
@[irreducible] def gMulI := @Tw.gMulI
theorem gMulI_eq : @I.gMulI = @Tw.gMulI := by unfold I.gMulI; rfl
@[irreducible] def gFdiv := @Tw.gFdiv
theorem gFdiv_eq : @I.gFdiv = @Tw.gFdiv := by unfold I.gFdiv; rfl
@[irreducible] def gMod := @Tw.gMod
theorem gMod_eq : @I.gMod = @Tw.gMod := by unfold I.gMod; rfl
@[irreducible] def gPow := @Tw.gPow
theorem gPow_eq : @I.gPow = @Tw.gPow := by unfold I.gPow; rfl
@[irreducible] def gLt := @Tw.gLt
theorem gLt_eq : @I.gLt = @Tw.gLt := by unfold I.gLt; rfl
@[irreducible] def gLe := @Tw.gLe
theorem gLe_eq : @I.gLe = @Tw.gLe := by unfold I.gLe; rfl
@[irreducible] def gGt := @Tw.gGt
theorem gGt_eq : @I.gGt = @Tw.gGt := by unfold I.gGt; rfl
@[irreducible] def gGe := @Tw.gGe
theorem gGe_eq : @I.gGe = @Tw.gGe := by unfold I.gGe; rfl
@[irreducible] def gNeg := @Tw.gNeg
theorem gNeg_eq : @I.gNeg = @Tw.gNeg := by unfold I.gNeg; rfl
@[irreducible] def gEqD := @Tw.gEqD
theorem gEqD_eq : @I.gEqD = @Tw.gEqD := by unfold I.gEqD; rfl
@[irreducible] def gIs := @Tw.gIs
theorem gIs_eq : @I.gIs = @Tw.gIs := by unfold I.gIs; rfl
@[irreducible] def gIsNot := @Tw.gIsNot
theorem gIsNot_eq : @I.gIsNot = @Tw.gIsNot := by unfold I.gIsNot; rfl
@[irreducible] def bLen := @Tw.bLen
theorem bLen_eq : @I.bLen = @Tw.bLen := by unfold I.bLen; rfl
@[irreducible] def bInt := @Tw.bInt
theorem bInt_eq : @I.bInt = @Tw.bInt := by unfold I.bInt; rfl
@[irreducible] def bTuple := @Tw.bTuple
theorem bTuple_eq : @I.bTuple = @Tw.bTuple := by unfold I.bTuple; rfl
@[irreducible] def bListD := @Tw.bListD
theorem bListD_eq : @I.bListD = @Tw.bListD := by unfold I.bListD; rfl
@[irreducible] def mTup := @Tw.mTup
theorem mTup_eq : @I.mTup = @Tw.mTup := by unfold I.mTup; rfl
@[irreducible] def mLst := @Tw.mLst
theorem mLst_eq : @I.mLst = @Tw.mLst := by unfold I.mLst; rfl
@[irreducible] def mNew := @Tw.mNew
theorem mNew_eq : @I.mNew = @Tw.mNew := by unfold I.mNew; rfl
@[irreducible] def mSeq := @Tw.mSeq
theorem mSeq_eq : @I.mSeq = @Tw.mSeq := by unfold I.mSeq; rfl
@[irreducible] def mTru := @Tw.mTru
theorem mTru_eq : @I.mTru = @Tw.mTru := by unfold I.mTru; rfl
@[irreducible] def mCut := @Tw.mCut
theorem mCut_eq : @I.mCut = @Tw.mCut := by unfold I.mCut; rfl
@[irreducible] def mPut := @Tw.mPut
theorem mPut_eq : @I.mPut = @Tw.mPut := by unfold I.mPut; rfl
@[irreducible] def bAll := @Tw.bAll
theorem bAll_eq : @I.bAll = @Tw.bAll := by unfold I.bAll; rfl
@[irreducible] def bAny := @Tw.bAny
theorem bAny_eq : @I.bAny = @Tw.bAny := by unfold I.bAny; rfl
@[irreducible] def bSum := @Tw.bSum
theorem bSum_eq : @I.bSum = @Tw.bSum := by unfold I.bSum; rfl
@[irreducible] def bSorted := @Tw.bSorted
theorem bSorted_eq : @I.bSorted = @Tw.bSorted := by unfold I.bSorted; rfl
@[irreducible] def bMax := @Tw.bMax
theorem bMax_eq : @I.bMax = @Tw.bMax := by unfold I.bMax; rfl
@[irreducible] def bMin := @Tw.bMin
theorem bMin_eq : @I.bMin = @Tw.bMin := by unfold I.bMin; rfl
@[irreducible] def kMM := @Tw.kMM
theorem kMM_eq : @I.kMM = @Tw.kMM := by unfold I.kMM; rfl
@[irreducible] def bIsi := @Tw.bIsi
theorem bIsi_eq : @I.bIsi = @Tw.bIsi := by unfold I.bIsi; rfl
@[irreducible] def mIt := @Tw.mIt
theorem mIt_eq : @I.mIt = @Tw.mIt := by unfold I.mIt; rfl
@[irreducible] def mEnu := @Tw.mEnu
theorem mEnu_eq : @I.mEnu = @Tw.mEnu := by unfold I.mEnu; rfl
@[irreducible] def mZip := @Tw.mZip
theorem mZip_eq : @I.mZip = @Tw.mZip := by unfold I.mZip; rfl
@[irreducible] def forL := @Tw.forL
theorem forL_eq : @I.forL = @Tw.forL := by unfold I.forL; rfl
@[irreducible] def whileL := @Tw.whileL
theorem whileL_eq : @I.whileL = @Tw.whileL := by unfold I.whileL; rfl
@[irreducible] def lcL := @Tw.lcL
theorem lcL_eq : @I.lcL = @Tw.lcL := by unfold I.lcL; rfl
@[irreducible] def lcO := @Tw.lcO
theorem lcO_eq : @I.lcO = @Tw.lcO := by unfold I.lcO; rfl
@[irreducible] def lcB2 := @Tw.lcB2
theorem lcB2_eq : @I.lcB2 = @Tw.lcB2 := by unfold I.lcB2; rfl
@[irreducible] def cDisp := @Tw.cDisp
theorem cDisp_eq : @I.cDisp = @Tw.cDisp := by unfold I.cDisp; rfl
@[irreducible] def gIn := @Tw.gIn
theorem gIn_eq : @I.gIn = @Tw.gIn := by unfold I.gIn; rfl
@[irreducible] def mUpd := @Tw.mUpd
theorem mUpd_eq : @I.mUpd = @Tw.mUpd := by unfold I.mUpd; rfl
@[irreducible] def mApp := @Tw.mApp
theorem mApp_eq : @I.mApp = @Tw.mApp := by unfold I.mApp; rfl
end I
@[irreducible] def OkI {α : Type} (r : Res α) (P : α → Store → Prop) (E : Exc → Store → Prop) : Prop := Ok r P E
theorem OkI_eq : @OkI = @Ok := by unfold OkI; rfl
section
variable {α : Type} {P : α → Store → Prop} {E : Exc → Store → Prop} {μ : Store}
theorem OkI.mono {r : Res α} {Q : α → Store → Prop} {F : Exc → Store → Prop} (h : OkI r P E) (q : ∀ a μ, P a μ → Q a μ) (x : ∀ e μ, E e μ → F e μ) : OkI r Q F := by
  rw [OkI_eq] at *
  exact Ok.mono h q x
theorem OkI.imp {r : Res α} {Q : α → Store → Prop} {F : Exc → Store → Prop} (h : OkI r P fun _ _ => False) (q : ∀ a μ, P a μ → Q a μ) : OkI r Q F := by
  rw [OkI_eq] at *
  exact Ok.imp h q
theorem OkI.of_eq {r : Res α} {a : α} (e : r = .ok a μ) (h : P a μ) : OkI r P E := by
  rw [OkI_eq]
  exact Ok.of_eq e h
theorem OkI.ex {r : Res α} {a : α} (h : OkI r (fun t _ => t = a) fun _ _ => False) : ∃ μ, r = .ok a μ := by
  rw [OkI_eq] at h
  exact Ok.ex h
theorem eq_of_okI {r : Res α} {a : α} {μ : Store} (h : OkI r (fun x μ' => x = a ∧ μ' = μ) fun _ _ => False) : r = .ok a μ := by
  rw [OkI_eq] at h
  exact eq_of_ok h
theorem okI_noX {m : M α} : OkI (noX m μ) P E = OkI (m μ) P (fun _ _ => False) := by
  rw [OkI_eq]
  exact ok_noX
end
namespace RI
open R (IsBl IsInt IsI1 IsI2 Len seqQ fnQ dfl)
section
variable {μ : Store} {ρ : Env} {P : T → Store → Prop} {PL : List T → Store → Prop} {PB : Bool → Store → Prop} {E : Exc → Store → Prop} {a b c : Env → M T} {as : Env → M (List T)} {Q : Out → Store → Prop} {s s' : Env → M Out}
theorem now {α : Type} {x : α} {P : α → Store → Prop} (h : P x μ) : OkI (.ok x μ) P E := by
  simp only [OkI_eq, I.cVar_eq, I.cK_eq, I.c1_eq, I.c2_eq, I.cN_eq, I.aNil_eq, I.aCons_eq, I.aStar_eq, I.cTest_eq, I.cTru_eq, I.cAnd_eq, I.cOr_eq, I.cNot_eq, I.cYes_eq, I.cIf_eq, I.cAndT_eq, I.cOrT_eq, I.cNotT_eq, I.cChain_eq, I.cCall_eq, I.cSlice_eq, I.oNone_eq, I.oSome_eq, I.cKw_eq, I.cMeth_eq, I.cRgL1_eq, I.cRgL2_eq, I.iSeq_eq, I.iRg1_eq, I.iRg2_eq, I.iZp_eq, I.iEn_eq, I.cLc_eq, I.cLc2_eq, I.lcT_eq, I.sNil_eq, I.sPass_eq, I.sBreak_eq, I.sCont_eq, I.sBad_eq, I.sRetN_eq, I.sSeq_eq, I.sExpr_eq, I.sRet_eq, I.sSet_eq, I.sIf_eq, I.sAsg_eq, I.sStore_eq, I.sPar_eq, I.sPar3_eq, I.sAug_eq, I.sFor_eq, I.stp_eq, I.fnD_eq, I.gIxD_eq, I.gAdd_eq, I.gSub_eq, I.gMulI_eq, I.gFdiv_eq, I.gMod_eq, I.gPow_eq, I.gLt_eq, I.gLe_eq, I.gGt_eq, I.gGe_eq, I.gNeg_eq, I.gEqD_eq, I.gIs_eq, I.gIsNot_eq, I.bLen_eq, I.bInt_eq, I.bTuple_eq, I.bListD_eq, I.mTup_eq, I.mLst_eq, I.mNew_eq, I.mSeq_eq, I.mTru_eq, I.mCut_eq, I.mPut_eq, I.bAll_eq, I.bAny_eq, I.bSum_eq, I.bSorted_eq, I.bMax_eq, I.bMin_eq, I.kMM_eq, I.bIsi_eq, I.mIt_eq, I.mEnu_eq, I.mZip_eq, I.forL_eq, I.whileL_eq, I.lcL_eq, I.lcO_eq, I.lcB2_eq, I.cDisp_eq, I.gIn_eq, I.mUpd_eq, I.mApp_eq] at *
  exact R.now h
theorem cVar {i : Nat} {t : T} (e : ρ[i]? = some (some t)) (h : P t μ) : OkI (I.cVar i ρ μ) P E := by
  simp only [OkI_eq, I.cVar_eq, I.cK_eq, I.c1_eq, I.c2_eq, I.cN_eq, I.aNil_eq, I.aCons_eq, I.aStar_eq, I.cTest_eq, I.cTru_eq, I.cAnd_eq, I.cOr_eq, I.cNot_eq, I.cYes_eq, I.cIf_eq, I.cAndT_eq, I.cOrT_eq, I.cNotT_eq, I.cChain_eq, I.cCall_eq, I.cSlice_eq, I.oNone_eq, I.oSome_eq, I.cKw_eq, I.cMeth_eq, I.cRgL1_eq, I.cRgL2_eq, I.iSeq_eq, I.iRg1_eq, I.iRg2_eq, I.iZp_eq, I.iEn_eq, I.cLc_eq, I.cLc2_eq, I.lcT_eq, I.sNil_eq, I.sPass_eq, I.sBreak_eq, I.sCont_eq, I.sBad_eq, I.sRetN_eq, I.sSeq_eq, I.sExpr_eq, I.sRet_eq, I.sSet_eq, I.sIf_eq, I.sAsg_eq, I.sStore_eq, I.sPar_eq, I.sPar3_eq, I.sAug_eq, I.sFor_eq, I.stp_eq, I.fnD_eq, I.gIxD_eq, I.gAdd_eq, I.gSub_eq, I.gMulI_eq, I.gFdiv_eq, I.gMod_eq, I.gPow_eq, I.gLt_eq, I.gLe_eq, I.gGt_eq, I.gGe_eq, I.gNeg_eq, I.gEqD_eq, I.gIs_eq, I.gIsNot_eq, I.bLen_eq, I.bInt_eq, I.bTuple_eq, I.bListD_eq, I.mTup_eq, I.mLst_eq, I.mNew_eq, I.mSeq_eq, I.mTru_eq, I.mCut_eq, I.mPut_eq, I.bAll_eq, I.bAny_eq, I.bSum_eq, I.bSorted_eq, I.bMax_eq, I.bMin_eq, I.kMM_eq, I.bIsi_eq, I.mIt_eq, I.mEnu_eq, I.mZip_eq, I.forL_eq, I.whileL_eq, I.lcL_eq, I.lcO_eq, I.lcB2_eq, I.cDisp_eq, I.gIn_eq, I.mUpd_eq, I.mApp_eq] at *
  exact R.cVar e h
theorem cK {t : T} (h : P t μ) : OkI (I.cK t ρ μ) P E := by
  simp only [OkI_eq, I.cVar_eq, I.cK_eq, I.c1_eq, I.c2_eq, I.cN_eq, I.aNil_eq, I.aCons_eq, I.aStar_eq, I.cTest_eq, I.cTru_eq, I.cAnd_eq, I.cOr_eq, I.cNot_eq, I.cYes_eq, I.cIf_eq, I.cAndT_eq, I.cOrT_eq, I.cNotT_eq, I.cChain_eq, I.cCall_eq, I.cSlice_eq, I.oNone_eq, I.oSome_eq, I.cKw_eq, I.cMeth_eq, I.cRgL1_eq, I.cRgL2_eq, I.iSeq_eq, I.iRg1_eq, I.iRg2_eq, I.iZp_eq, I.iEn_eq, I.cLc_eq, I.cLc2_eq, I.lcT_eq, I.sNil_eq, I.sPass_eq, I.sBreak_eq, I.sCont_eq, I.sBad_eq, I.sRetN_eq, I.sSeq_eq, I.sExpr_eq, I.sRet_eq, I.sSet_eq, I.sIf_eq, I.sAsg_eq, I.sStore_eq, I.sPar_eq, I.sPar3_eq, I.sAug_eq, I.sFor_eq, I.stp_eq, I.fnD_eq, I.gIxD_eq, I.gAdd_eq, I.gSub_eq, I.gMulI_eq, I.gFdiv_eq, I.gMod_eq, I.gPow_eq, I.gLt_eq, I.gLe_eq, I.gGt_eq, I.gGe_eq, I.gNeg_eq, I.gEqD_eq, I.gIs_eq, I.gIsNot_eq, I.bLen_eq, I.bInt_eq, I.bTuple_eq, I.bListD_eq, I.mTup_eq, I.mLst_eq, I.mNew_eq, I.mSeq_eq, I.mTru_eq, I.mCut_eq, I.mPut_eq, I.bAll_eq, I.bAny_eq, I.bSum_eq, I.bSorted_eq, I.bMax_eq, I.bMin_eq, I.kMM_eq, I.bIsi_eq, I.mIt_eq, I.mEnu_eq, I.mZip_eq, I.forL_eq, I.whileL_eq, I.lcL_eq, I.lcO_eq, I.lcB2_eq, I.cDisp_eq, I.gIn_eq, I.mUpd_eq, I.mApp_eq] at *
  exact R.cK h
theorem c1 {g : T → M T} (h : OkI (a ρ μ) (fun x μ' => OkI (g x μ') P E) E) : OkI (I.c1 g a ρ μ) P E := by
  simp only [OkI_eq, I.cVar_eq, I.cK_eq, I.c1_eq, I.c2_eq, I.cN_eq, I.aNil_eq, I.aCons_eq, I.aStar_eq, I.cTest_eq, I.cTru_eq, I.cAnd_eq, I.cOr_eq, I.cNot_eq, I.cYes_eq, I.cIf_eq, I.cAndT_eq, I.cOrT_eq, I.cNotT_eq, I.cChain_eq, I.cCall_eq, I.cSlice_eq, I.oNone_eq, I.oSome_eq, I.cKw_eq, I.cMeth_eq, I.cRgL1_eq, I.cRgL2_eq, I.iSeq_eq, I.iRg1_eq, I.iRg2_eq, I.iZp_eq, I.iEn_eq, I.cLc_eq, I.cLc2_eq, I.lcT_eq, I.sNil_eq, I.sPass_eq, I.sBreak_eq, I.sCont_eq, I.sBad_eq, I.sRetN_eq, I.sSeq_eq, I.sExpr_eq, I.sRet_eq, I.sSet_eq, I.sIf_eq, I.sAsg_eq, I.sStore_eq, I.sPar_eq, I.sPar3_eq, I.sAug_eq, I.sFor_eq, I.stp_eq, I.fnD_eq, I.gIxD_eq, I.gAdd_eq, I.gSub_eq, I.gMulI_eq, I.gFdiv_eq, I.gMod_eq, I.gPow_eq, I.gLt_eq, I.gLe_eq, I.gGt_eq, I.gGe_eq, I.gNeg_eq, I.gEqD_eq, I.gIs_eq, I.gIsNot_eq, I.bLen_eq, I.bInt_eq, I.bTuple_eq, I.bListD_eq, I.mTup_eq, I.mLst_eq, I.mNew_eq, I.mSeq_eq, I.mTru_eq, I.mCut_eq, I.mPut_eq, I.bAll_eq, I.bAny_eq, I.bSum_eq, I.bSorted_eq, I.bMax_eq, I.bMin_eq, I.kMM_eq, I.bIsi_eq, I.mIt_eq, I.mEnu_eq, I.mZip_eq, I.forL_eq, I.whileL_eq, I.lcL_eq, I.lcO_eq, I.lcB2_eq, I.cDisp_eq, I.gIn_eq, I.mUpd_eq, I.mApp_eq] at *
  exact R.c1 h
theorem c2 {g : T → T → M T} (h : OkI (a ρ μ) (fun x μ' => OkI (b ρ μ') (fun y μ'' => OkI (g x y μ'') P E) E) E) : OkI (I.c2 g a b ρ μ) P E := by
  simp only [OkI_eq, I.cVar_eq, I.cK_eq, I.c1_eq, I.c2_eq, I.cN_eq, I.aNil_eq, I.aCons_eq, I.aStar_eq, I.cTest_eq, I.cTru_eq, I.cAnd_eq, I.cOr_eq, I.cNot_eq, I.cYes_eq, I.cIf_eq, I.cAndT_eq, I.cOrT_eq, I.cNotT_eq, I.cChain_eq, I.cCall_eq, I.cSlice_eq, I.oNone_eq, I.oSome_eq, I.cKw_eq, I.cMeth_eq, I.cRgL1_eq, I.cRgL2_eq, I.iSeq_eq, I.iRg1_eq, I.iRg2_eq, I.iZp_eq, I.iEn_eq, I.cLc_eq, I.cLc2_eq, I.lcT_eq, I.sNil_eq, I.sPass_eq, I.sBreak_eq, I.sCont_eq, I.sBad_eq, I.sRetN_eq, I.sSeq_eq, I.sExpr_eq, I.sRet_eq, I.sSet_eq, I.sIf_eq, I.sAsg_eq, I.sStore_eq, I.sPar_eq, I.sPar3_eq, I.sAug_eq, I.sFor_eq, I.stp_eq, I.fnD_eq, I.gIxD_eq, I.gAdd_eq, I.gSub_eq, I.gMulI_eq, I.gFdiv_eq, I.gMod_eq, I.gPow_eq, I.gLt_eq, I.gLe_eq, I.gGt_eq, I.gGe_eq, I.gNeg_eq, I.gEqD_eq, I.gIs_eq, I.gIsNot_eq, I.bLen_eq, I.bInt_eq, I.bTuple_eq, I.bListD_eq, I.mTup_eq, I.mLst_eq, I.mNew_eq, I.mSeq_eq, I.mTru_eq, I.mCut_eq, I.mPut_eq, I.bAll_eq, I.bAny_eq, I.bSum_eq, I.bSorted_eq, I.bMax_eq, I.bMin_eq, I.kMM_eq, I.bIsi_eq, I.mIt_eq, I.mEnu_eq, I.mZip_eq, I.forL_eq, I.whileL_eq, I.lcL_eq, I.lcO_eq, I.lcB2_eq, I.cDisp_eq, I.gIn_eq, I.mUpd_eq, I.mApp_eq] at *
  exact R.c2 h
theorem cN {g : List T → M T} (h : OkI (as ρ μ) (fun x μ' => OkI (g x μ') P E) E) : OkI (I.cN g as ρ μ) P E := by
  simp only [OkI_eq, I.cVar_eq, I.cK_eq, I.c1_eq, I.c2_eq, I.cN_eq, I.aNil_eq, I.aCons_eq, I.aStar_eq, I.cTest_eq, I.cTru_eq, I.cAnd_eq, I.cOr_eq, I.cNot_eq, I.cYes_eq, I.cIf_eq, I.cAndT_eq, I.cOrT_eq, I.cNotT_eq, I.cChain_eq, I.cCall_eq, I.cSlice_eq, I.oNone_eq, I.oSome_eq, I.cKw_eq, I.cMeth_eq, I.cRgL1_eq, I.cRgL2_eq, I.iSeq_eq, I.iRg1_eq, I.iRg2_eq, I.iZp_eq, I.iEn_eq, I.cLc_eq, I.cLc2_eq, I.lcT_eq, I.sNil_eq, I.sPass_eq, I.sBreak_eq, I.sCont_eq, I.sBad_eq, I.sRetN_eq, I.sSeq_eq, I.sExpr_eq, I.sRet_eq, I.sSet_eq, I.sIf_eq, I.sAsg_eq, I.sStore_eq, I.sPar_eq, I.sPar3_eq, I.sAug_eq, I.sFor_eq, I.stp_eq, I.fnD_eq, I.gIxD_eq, I.gAdd_eq, I.gSub_eq, I.gMulI_eq, I.gFdiv_eq, I.gMod_eq, I.gPow_eq, I.gLt_eq, I.gLe_eq, I.gGt_eq, I.gGe_eq, I.gNeg_eq, I.gEqD_eq, I.gIs_eq, I.gIsNot_eq, I.bLen_eq, I.bInt_eq, I.bTuple_eq, I.bListD_eq, I.mTup_eq, I.mLst_eq, I.mNew_eq, I.mSeq_eq, I.mTru_eq, I.mCut_eq, I.mPut_eq, I.bAll_eq, I.bAny_eq, I.bSum_eq, I.bSorted_eq, I.bMax_eq, I.bMin_eq, I.kMM_eq, I.bIsi_eq, I.mIt_eq, I.mEnu_eq, I.mZip_eq, I.forL_eq, I.whileL_eq, I.lcL_eq, I.lcO_eq, I.lcB2_eq, I.cDisp_eq, I.gIn_eq, I.mUpd_eq, I.mApp_eq] at *
  exact R.cN h
theorem aNil (h : PL [] μ) : OkI (I.aNil ρ μ) PL E := by
  simp only [OkI_eq, I.cVar_eq, I.cK_eq, I.c1_eq, I.c2_eq, I.cN_eq, I.aNil_eq, I.aCons_eq, I.aStar_eq, I.cTest_eq, I.cTru_eq, I.cAnd_eq, I.cOr_eq, I.cNot_eq, I.cYes_eq, I.cIf_eq, I.cAndT_eq, I.cOrT_eq, I.cNotT_eq, I.cChain_eq, I.cCall_eq, I.cSlice_eq, I.oNone_eq, I.oSome_eq, I.cKw_eq, I.cMeth_eq, I.cRgL1_eq, I.cRgL2_eq, I.iSeq_eq, I.iRg1_eq, I.iRg2_eq, I.iZp_eq, I.iEn_eq, I.cLc_eq, I.cLc2_eq, I.lcT_eq, I.sNil_eq, I.sPass_eq, I.sBreak_eq, I.sCont_eq, I.sBad_eq, I.sRetN_eq, I.sSeq_eq, I.sExpr_eq, I.sRet_eq, I.sSet_eq, I.sIf_eq, I.sAsg_eq, I.sStore_eq, I.sPar_eq, I.sPar3_eq, I.sAug_eq, I.sFor_eq, I.stp_eq, I.fnD_eq, I.gIxD_eq, I.gAdd_eq, I.gSub_eq, I.gMulI_eq, I.gFdiv_eq, I.gMod_eq, I.gPow_eq, I.gLt_eq, I.gLe_eq, I.gGt_eq, I.gGe_eq, I.gNeg_eq, I.gEqD_eq, I.gIs_eq, I.gIsNot_eq, I.bLen_eq, I.bInt_eq, I.bTuple_eq, I.bListD_eq, I.mTup_eq, I.mLst_eq, I.mNew_eq, I.mSeq_eq, I.mTru_eq, I.mCut_eq, I.mPut_eq, I.bAll_eq, I.bAny_eq, I.bSum_eq, I.bSorted_eq, I.bMax_eq, I.bMin_eq, I.kMM_eq, I.bIsi_eq, I.mIt_eq, I.mEnu_eq, I.mZip_eq, I.forL_eq, I.whileL_eq, I.lcL_eq, I.lcO_eq, I.lcB2_eq, I.cDisp_eq, I.gIn_eq, I.mUpd_eq, I.mApp_eq] at *
  exact R.aNil h
theorem aCons (h : OkI (a ρ μ) (fun x μ' => OkI (as ρ μ') (fun y μ'' => PL (x :: y) μ'') E) E) : OkI (I.aCons a as ρ μ) PL E := by
  simp only [OkI_eq, I.cVar_eq, I.cK_eq, I.c1_eq, I.c2_eq, I.cN_eq, I.aNil_eq, I.aCons_eq, I.aStar_eq, I.cTest_eq, I.cTru_eq, I.cAnd_eq, I.cOr_eq, I.cNot_eq, I.cYes_eq, I.cIf_eq, I.cAndT_eq, I.cOrT_eq, I.cNotT_eq, I.cChain_eq, I.cCall_eq, I.cSlice_eq, I.oNone_eq, I.oSome_eq, I.cKw_eq, I.cMeth_eq, I.cRgL1_eq, I.cRgL2_eq, I.iSeq_eq, I.iRg1_eq, I.iRg2_eq, I.iZp_eq, I.iEn_eq, I.cLc_eq, I.cLc2_eq, I.lcT_eq, I.sNil_eq, I.sPass_eq, I.sBreak_eq, I.sCont_eq, I.sBad_eq, I.sRetN_eq, I.sSeq_eq, I.sExpr_eq, I.sRet_eq, I.sSet_eq, I.sIf_eq, I.sAsg_eq, I.sStore_eq, I.sPar_eq, I.sPar3_eq, I.sAug_eq, I.sFor_eq, I.stp_eq, I.fnD_eq, I.gIxD_eq, I.gAdd_eq, I.gSub_eq, I.gMulI_eq, I.gFdiv_eq, I.gMod_eq, I.gPow_eq, I.gLt_eq, I.gLe_eq, I.gGt_eq, I.gGe_eq, I.gNeg_eq, I.gEqD_eq, I.gIs_eq, I.gIsNot_eq, I.bLen_eq, I.bInt_eq, I.bTuple_eq, I.bListD_eq, I.mTup_eq, I.mLst_eq, I.mNew_eq, I.mSeq_eq, I.mTru_eq, I.mCut_eq, I.mPut_eq, I.bAll_eq, I.bAny_eq, I.bSum_eq, I.bSorted_eq, I.bMax_eq, I.bMin_eq, I.kMM_eq, I.bIsi_eq, I.mIt_eq, I.mEnu_eq, I.mZip_eq, I.forL_eq, I.whileL_eq, I.lcL_eq, I.lcO_eq, I.lcB2_eq, I.cDisp_eq, I.gIn_eq, I.mUpd_eq, I.mApp_eq] at *
  exact R.aCons h
theorem aStar (h : OkI (a ρ μ) (fun x μ' => OkI (I.mSeq x μ') (fun xs μ1 => OkI (as ρ μ1) (fun y μ'' => PL (xs ++ y) μ'') E) E) E) : OkI (I.aStar a as ρ μ) PL E := by
  simp only [OkI_eq, I.cVar_eq, I.cK_eq, I.c1_eq, I.c2_eq, I.cN_eq, I.aNil_eq, I.aCons_eq, I.aStar_eq, I.cTest_eq, I.cTru_eq, I.cAnd_eq, I.cOr_eq, I.cNot_eq, I.cYes_eq, I.cIf_eq, I.cAndT_eq, I.cOrT_eq, I.cNotT_eq, I.cChain_eq, I.cCall_eq, I.cSlice_eq, I.oNone_eq, I.oSome_eq, I.cKw_eq, I.cMeth_eq, I.cRgL1_eq, I.cRgL2_eq, I.iSeq_eq, I.iRg1_eq, I.iRg2_eq, I.iZp_eq, I.iEn_eq, I.cLc_eq, I.cLc2_eq, I.lcT_eq, I.sNil_eq, I.sPass_eq, I.sBreak_eq, I.sCont_eq, I.sBad_eq, I.sRetN_eq, I.sSeq_eq, I.sExpr_eq, I.sRet_eq, I.sSet_eq, I.sIf_eq, I.sAsg_eq, I.sStore_eq, I.sPar_eq, I.sPar3_eq, I.sAug_eq, I.sFor_eq, I.stp_eq, I.fnD_eq, I.gIxD_eq, I.gAdd_eq, I.gSub_eq, I.gMulI_eq, I.gFdiv_eq, I.gMod_eq, I.gPow_eq, I.gLt_eq, I.gLe_eq, I.gGt_eq, I.gGe_eq, I.gNeg_eq, I.gEqD_eq, I.gIs_eq, I.gIsNot_eq, I.bLen_eq, I.bInt_eq, I.bTuple_eq, I.bListD_eq, I.mTup_eq, I.mLst_eq, I.mNew_eq, I.mSeq_eq, I.mTru_eq, I.mCut_eq, I.mPut_eq, I.bAll_eq, I.bAny_eq, I.bSum_eq, I.bSorted_eq, I.bMax_eq, I.bMin_eq, I.kMM_eq, I.bIsi_eq, I.mIt_eq, I.mEnu_eq, I.mZip_eq, I.forL_eq, I.whileL_eq, I.lcL_eq, I.lcO_eq, I.lcB2_eq, I.cDisp_eq, I.gIn_eq, I.mUpd_eq, I.mApp_eq] at *
  exact R.aStar h
theorem cTest (h : OkI (a ρ μ) (fun x μ' => IsBl x fun k => PB k μ') E) : OkI (I.cTest a ρ μ) PB E := by
  simp only [OkI_eq, I.cVar_eq, I.cK_eq, I.c1_eq, I.c2_eq, I.cN_eq, I.aNil_eq, I.aCons_eq, I.aStar_eq, I.cTest_eq, I.cTru_eq, I.cAnd_eq, I.cOr_eq, I.cNot_eq, I.cYes_eq, I.cIf_eq, I.cAndT_eq, I.cOrT_eq, I.cNotT_eq, I.cChain_eq, I.cCall_eq, I.cSlice_eq, I.oNone_eq, I.oSome_eq, I.cKw_eq, I.cMeth_eq, I.cRgL1_eq, I.cRgL2_eq, I.iSeq_eq, I.iRg1_eq, I.iRg2_eq, I.iZp_eq, I.iEn_eq, I.cLc_eq, I.cLc2_eq, I.lcT_eq, I.sNil_eq, I.sPass_eq, I.sBreak_eq, I.sCont_eq, I.sBad_eq, I.sRetN_eq, I.sSeq_eq, I.sExpr_eq, I.sRet_eq, I.sSet_eq, I.sIf_eq, I.sAsg_eq, I.sStore_eq, I.sPar_eq, I.sPar3_eq, I.sAug_eq, I.sFor_eq, I.stp_eq, I.fnD_eq, I.gIxD_eq, I.gAdd_eq, I.gSub_eq, I.gMulI_eq, I.gFdiv_eq, I.gMod_eq, I.gPow_eq, I.gLt_eq, I.gLe_eq, I.gGt_eq, I.gGe_eq, I.gNeg_eq, I.gEqD_eq, I.gIs_eq, I.gIsNot_eq, I.bLen_eq, I.bInt_eq, I.bTuple_eq, I.bListD_eq, I.mTup_eq, I.mLst_eq, I.mNew_eq, I.mSeq_eq, I.mTru_eq, I.mCut_eq, I.mPut_eq, I.bAll_eq, I.bAny_eq, I.bSum_eq, I.bSorted_eq, I.bMax_eq, I.bMin_eq, I.kMM_eq, I.bIsi_eq, I.mIt_eq, I.mEnu_eq, I.mZip_eq, I.forL_eq, I.whileL_eq, I.lcL_eq, I.lcO_eq, I.lcB2_eq, I.cDisp_eq, I.gIn_eq, I.mUpd_eq, I.mApp_eq] at *
  exact R.cTest h
theorem cTru (h : OkI (a ρ μ) (fun x μ' => OkI (I.mTru x μ') PB E) E) : OkI (I.cTru a ρ μ) PB E := by
  simp only [OkI_eq, I.cVar_eq, I.cK_eq, I.c1_eq, I.c2_eq, I.cN_eq, I.aNil_eq, I.aCons_eq, I.aStar_eq, I.cTest_eq, I.cTru_eq, I.cAnd_eq, I.cOr_eq, I.cNot_eq, I.cYes_eq, I.cIf_eq, I.cAndT_eq, I.cOrT_eq, I.cNotT_eq, I.cChain_eq, I.cCall_eq, I.cSlice_eq, I.oNone_eq, I.oSome_eq, I.cKw_eq, I.cMeth_eq, I.cRgL1_eq, I.cRgL2_eq, I.iSeq_eq, I.iRg1_eq, I.iRg2_eq, I.iZp_eq, I.iEn_eq, I.cLc_eq, I.cLc2_eq, I.lcT_eq, I.sNil_eq, I.sPass_eq, I.sBreak_eq, I.sCont_eq, I.sBad_eq, I.sRetN_eq, I.sSeq_eq, I.sExpr_eq, I.sRet_eq, I.sSet_eq, I.sIf_eq, I.sAsg_eq, I.sStore_eq, I.sPar_eq, I.sPar3_eq, I.sAug_eq, I.sFor_eq, I.stp_eq, I.fnD_eq, I.gIxD_eq, I.gAdd_eq, I.gSub_eq, I.gMulI_eq, I.gFdiv_eq, I.gMod_eq, I.gPow_eq, I.gLt_eq, I.gLe_eq, I.gGt_eq, I.gGe_eq, I.gNeg_eq, I.gEqD_eq, I.gIs_eq, I.gIsNot_eq, I.bLen_eq, I.bInt_eq, I.bTuple_eq, I.bListD_eq, I.mTup_eq, I.mLst_eq, I.mNew_eq, I.mSeq_eq, I.mTru_eq, I.mCut_eq, I.mPut_eq, I.bAll_eq, I.bAny_eq, I.bSum_eq, I.bSorted_eq, I.bMax_eq, I.bMin_eq, I.kMM_eq, I.bIsi_eq, I.mIt_eq, I.mEnu_eq, I.mZip_eq, I.forL_eq, I.whileL_eq, I.lcL_eq, I.lcO_eq, I.lcB2_eq, I.cDisp_eq, I.gIn_eq, I.mUpd_eq, I.mApp_eq] at *
  exact R.cTru h
theorem cAnd {x y : Env → M Bool} (h : OkI (x ρ μ) (fun k μ' => (k = true → OkI (y ρ μ') PB E) ∧ (k = false → PB false μ')) E) : OkI (I.cAnd x y ρ μ) PB E := by
  simp only [OkI_eq, I.cVar_eq, I.cK_eq, I.c1_eq, I.c2_eq, I.cN_eq, I.aNil_eq, I.aCons_eq, I.aStar_eq, I.cTest_eq, I.cTru_eq, I.cAnd_eq, I.cOr_eq, I.cNot_eq, I.cYes_eq, I.cIf_eq, I.cAndT_eq, I.cOrT_eq, I.cNotT_eq, I.cChain_eq, I.cCall_eq, I.cSlice_eq, I.oNone_eq, I.oSome_eq, I.cKw_eq, I.cMeth_eq, I.cRgL1_eq, I.cRgL2_eq, I.iSeq_eq, I.iRg1_eq, I.iRg2_eq, I.iZp_eq, I.iEn_eq, I.cLc_eq, I.cLc2_eq, I.lcT_eq, I.sNil_eq, I.sPass_eq, I.sBreak_eq, I.sCont_eq, I.sBad_eq, I.sRetN_eq, I.sSeq_eq, I.sExpr_eq, I.sRet_eq, I.sSet_eq, I.sIf_eq, I.sAsg_eq, I.sStore_eq, I.sPar_eq, I.sPar3_eq, I.sAug_eq, I.sFor_eq, I.stp_eq, I.fnD_eq, I.gIxD_eq, I.gAdd_eq, I.gSub_eq, I.gMulI_eq, I.gFdiv_eq, I.gMod_eq, I.gPow_eq, I.gLt_eq, I.gLe_eq, I.gGt_eq, I.gGe_eq, I.gNeg_eq, I.gEqD_eq, I.gIs_eq, I.gIsNot_eq, I.bLen_eq, I.bInt_eq, I.bTuple_eq, I.bListD_eq, I.mTup_eq, I.mLst_eq, I.mNew_eq, I.mSeq_eq, I.mTru_eq, I.mCut_eq, I.mPut_eq, I.bAll_eq, I.bAny_eq, I.bSum_eq, I.bSorted_eq, I.bMax_eq, I.bMin_eq, I.kMM_eq, I.bIsi_eq, I.mIt_eq, I.mEnu_eq, I.mZip_eq, I.forL_eq, I.whileL_eq, I.lcL_eq, I.lcO_eq, I.lcB2_eq, I.cDisp_eq, I.gIn_eq, I.mUpd_eq, I.mApp_eq] at *
  exact R.cAnd h
theorem cOr {x y : Env → M Bool} (h : OkI (x ρ μ) (fun k μ' => (k = true → PB true μ') ∧ (k = false → OkI (y ρ μ') PB E)) E) : OkI (I.cOr x y ρ μ) PB E := by
  simp only [OkI_eq, I.cVar_eq, I.cK_eq, I.c1_eq, I.c2_eq, I.cN_eq, I.aNil_eq, I.aCons_eq, I.aStar_eq, I.cTest_eq, I.cTru_eq, I.cAnd_eq, I.cOr_eq, I.cNot_eq, I.cYes_eq, I.cIf_eq, I.cAndT_eq, I.cOrT_eq, I.cNotT_eq, I.cChain_eq, I.cCall_eq, I.cSlice_eq, I.oNone_eq, I.oSome_eq, I.cKw_eq, I.cMeth_eq, I.cRgL1_eq, I.cRgL2_eq, I.iSeq_eq, I.iRg1_eq, I.iRg2_eq, I.iZp_eq, I.iEn_eq, I.cLc_eq, I.cLc2_eq, I.lcT_eq, I.sNil_eq, I.sPass_eq, I.sBreak_eq, I.sCont_eq, I.sBad_eq, I.sRetN_eq, I.sSeq_eq, I.sExpr_eq, I.sRet_eq, I.sSet_eq, I.sIf_eq, I.sAsg_eq, I.sStore_eq, I.sPar_eq, I.sPar3_eq, I.sAug_eq, I.sFor_eq, I.stp_eq, I.fnD_eq, I.gIxD_eq, I.gAdd_eq, I.gSub_eq, I.gMulI_eq, I.gFdiv_eq, I.gMod_eq, I.gPow_eq, I.gLt_eq, I.gLe_eq, I.gGt_eq, I.gGe_eq, I.gNeg_eq, I.gEqD_eq, I.gIs_eq, I.gIsNot_eq, I.bLen_eq, I.bInt_eq, I.bTuple_eq, I.bListD_eq, I.mTup_eq, I.mLst_eq, I.mNew_eq, I.mSeq_eq, I.mTru_eq, I.mCut_eq, I.mPut_eq, I.bAll_eq, I.bAny_eq, I.bSum_eq, I.bSorted_eq, I.bMax_eq, I.bMin_eq, I.kMM_eq, I.bIsi_eq, I.mIt_eq, I.mEnu_eq, I.mZip_eq, I.forL_eq, I.whileL_eq, I.lcL_eq, I.lcO_eq, I.lcB2_eq, I.cDisp_eq, I.gIn_eq, I.mUpd_eq, I.mApp_eq] at *
  exact R.cOr h
theorem cNot {x : Env → M Bool} (h : OkI (x ρ μ) (fun k μ' => PB (!k) μ') E) : OkI (I.cNot x ρ μ) PB E := by
  simp only [OkI_eq, I.cVar_eq, I.cK_eq, I.c1_eq, I.c2_eq, I.cN_eq, I.aNil_eq, I.aCons_eq, I.aStar_eq, I.cTest_eq, I.cTru_eq, I.cAnd_eq, I.cOr_eq, I.cNot_eq, I.cYes_eq, I.cIf_eq, I.cAndT_eq, I.cOrT_eq, I.cNotT_eq, I.cChain_eq, I.cCall_eq, I.cSlice_eq, I.oNone_eq, I.oSome_eq, I.cKw_eq, I.cMeth_eq, I.cRgL1_eq, I.cRgL2_eq, I.iSeq_eq, I.iRg1_eq, I.iRg2_eq, I.iZp_eq, I.iEn_eq, I.cLc_eq, I.cLc2_eq, I.lcT_eq, I.sNil_eq, I.sPass_eq, I.sBreak_eq, I.sCont_eq, I.sBad_eq, I.sRetN_eq, I.sSeq_eq, I.sExpr_eq, I.sRet_eq, I.sSet_eq, I.sIf_eq, I.sAsg_eq, I.sStore_eq, I.sPar_eq, I.sPar3_eq, I.sAug_eq, I.sFor_eq, I.stp_eq, I.fnD_eq, I.gIxD_eq, I.gAdd_eq, I.gSub_eq, I.gMulI_eq, I.gFdiv_eq, I.gMod_eq, I.gPow_eq, I.gLt_eq, I.gLe_eq, I.gGt_eq, I.gGe_eq, I.gNeg_eq, I.gEqD_eq, I.gIs_eq, I.gIsNot_eq, I.bLen_eq, I.bInt_eq, I.bTuple_eq, I.bListD_eq, I.mTup_eq, I.mLst_eq, I.mNew_eq, I.mSeq_eq, I.mTru_eq, I.mCut_eq, I.mPut_eq, I.bAll_eq, I.bAny_eq, I.bSum_eq, I.bSorted_eq, I.bMax_eq, I.bMin_eq, I.kMM_eq, I.bIsi_eq, I.mIt_eq, I.mEnu_eq, I.mZip_eq, I.forL_eq, I.whileL_eq, I.lcL_eq, I.lcO_eq, I.lcB2_eq, I.cDisp_eq, I.gIn_eq, I.mUpd_eq, I.mApp_eq] at *
  exact R.cNot h
theorem cYes (h : PB true μ) : OkI (I.cYes ρ μ) PB E := by
  simp only [OkI_eq, I.cVar_eq, I.cK_eq, I.c1_eq, I.c2_eq, I.cN_eq, I.aNil_eq, I.aCons_eq, I.aStar_eq, I.cTest_eq, I.cTru_eq, I.cAnd_eq, I.cOr_eq, I.cNot_eq, I.cYes_eq, I.cIf_eq, I.cAndT_eq, I.cOrT_eq, I.cNotT_eq, I.cChain_eq, I.cCall_eq, I.cSlice_eq, I.oNone_eq, I.oSome_eq, I.cKw_eq, I.cMeth_eq, I.cRgL1_eq, I.cRgL2_eq, I.iSeq_eq, I.iRg1_eq, I.iRg2_eq, I.iZp_eq, I.iEn_eq, I.cLc_eq, I.cLc2_eq, I.lcT_eq, I.sNil_eq, I.sPass_eq, I.sBreak_eq, I.sCont_eq, I.sBad_eq, I.sRetN_eq, I.sSeq_eq, I.sExpr_eq, I.sRet_eq, I.sSet_eq, I.sIf_eq, I.sAsg_eq, I.sStore_eq, I.sPar_eq, I.sPar3_eq, I.sAug_eq, I.sFor_eq, I.stp_eq, I.fnD_eq, I.gIxD_eq, I.gAdd_eq, I.gSub_eq, I.gMulI_eq, I.gFdiv_eq, I.gMod_eq, I.gPow_eq, I.gLt_eq, I.gLe_eq, I.gGt_eq, I.gGe_eq, I.gNeg_eq, I.gEqD_eq, I.gIs_eq, I.gIsNot_eq, I.bLen_eq, I.bInt_eq, I.bTuple_eq, I.bListD_eq, I.mTup_eq, I.mLst_eq, I.mNew_eq, I.mSeq_eq, I.mTru_eq, I.mCut_eq, I.mPut_eq, I.bAll_eq, I.bAny_eq, I.bSum_eq, I.bSorted_eq, I.bMax_eq, I.bMin_eq, I.kMM_eq, I.bIsi_eq, I.mIt_eq, I.mEnu_eq, I.mZip_eq, I.forL_eq, I.whileL_eq, I.lcL_eq, I.lcO_eq, I.lcB2_eq, I.cDisp_eq, I.gIn_eq, I.mUpd_eq, I.mApp_eq] at *
  exact R.cYes h
theorem cIf {x : Env → M Bool} (h : OkI (x ρ μ) (fun k μ' => (k = true → OkI (a ρ μ') P E) ∧ (k = false → OkI (b ρ μ') P E)) E) : OkI (I.cIf x a b ρ μ) P E := by
  simp only [OkI_eq, I.cVar_eq, I.cK_eq, I.c1_eq, I.c2_eq, I.cN_eq, I.aNil_eq, I.aCons_eq, I.aStar_eq, I.cTest_eq, I.cTru_eq, I.cAnd_eq, I.cOr_eq, I.cNot_eq, I.cYes_eq, I.cIf_eq, I.cAndT_eq, I.cOrT_eq, I.cNotT_eq, I.cChain_eq, I.cCall_eq, I.cSlice_eq, I.oNone_eq, I.oSome_eq, I.cKw_eq, I.cMeth_eq, I.cRgL1_eq, I.cRgL2_eq, I.iSeq_eq, I.iRg1_eq, I.iRg2_eq, I.iZp_eq, I.iEn_eq, I.cLc_eq, I.cLc2_eq, I.lcT_eq, I.sNil_eq, I.sPass_eq, I.sBreak_eq, I.sCont_eq, I.sBad_eq, I.sRetN_eq, I.sSeq_eq, I.sExpr_eq, I.sRet_eq, I.sSet_eq, I.sIf_eq, I.sAsg_eq, I.sStore_eq, I.sPar_eq, I.sPar3_eq, I.sAug_eq, I.sFor_eq, I.stp_eq, I.fnD_eq, I.gIxD_eq, I.gAdd_eq, I.gSub_eq, I.gMulI_eq, I.gFdiv_eq, I.gMod_eq, I.gPow_eq, I.gLt_eq, I.gLe_eq, I.gGt_eq, I.gGe_eq, I.gNeg_eq, I.gEqD_eq, I.gIs_eq, I.gIsNot_eq, I.bLen_eq, I.bInt_eq, I.bTuple_eq, I.bListD_eq, I.mTup_eq, I.mLst_eq, I.mNew_eq, I.mSeq_eq, I.mTru_eq, I.mCut_eq, I.mPut_eq, I.bAll_eq, I.bAny_eq, I.bSum_eq, I.bSorted_eq, I.bMax_eq, I.bMin_eq, I.kMM_eq, I.bIsi_eq, I.mIt_eq, I.mEnu_eq, I.mZip_eq, I.forL_eq, I.whileL_eq, I.lcL_eq, I.lcO_eq, I.lcB2_eq, I.cDisp_eq, I.gIn_eq, I.mUpd_eq, I.mApp_eq] at *
  exact R.cIf h
theorem cAndT (h : OkI (a ρ μ) (fun x μ' => OkI (I.mTru x μ') (fun k μ1 => (k = true → OkI (b ρ μ1) P E) ∧ (k = false → P x μ1)) E) E) : OkI (I.cAndT a b ρ μ) P E := by
  simp only [OkI_eq, I.cVar_eq, I.cK_eq, I.c1_eq, I.c2_eq, I.cN_eq, I.aNil_eq, I.aCons_eq, I.aStar_eq, I.cTest_eq, I.cTru_eq, I.cAnd_eq, I.cOr_eq, I.cNot_eq, I.cYes_eq, I.cIf_eq, I.cAndT_eq, I.cOrT_eq, I.cNotT_eq, I.cChain_eq, I.cCall_eq, I.cSlice_eq, I.oNone_eq, I.oSome_eq, I.cKw_eq, I.cMeth_eq, I.cRgL1_eq, I.cRgL2_eq, I.iSeq_eq, I.iRg1_eq, I.iRg2_eq, I.iZp_eq, I.iEn_eq, I.cLc_eq, I.cLc2_eq, I.lcT_eq, I.sNil_eq, I.sPass_eq, I.sBreak_eq, I.sCont_eq, I.sBad_eq, I.sRetN_eq, I.sSeq_eq, I.sExpr_eq, I.sRet_eq, I.sSet_eq, I.sIf_eq, I.sAsg_eq, I.sStore_eq, I.sPar_eq, I.sPar3_eq, I.sAug_eq, I.sFor_eq, I.stp_eq, I.fnD_eq, I.gIxD_eq, I.gAdd_eq, I.gSub_eq, I.gMulI_eq, I.gFdiv_eq, I.gMod_eq, I.gPow_eq, I.gLt_eq, I.gLe_eq, I.gGt_eq, I.gGe_eq, I.gNeg_eq, I.gEqD_eq, I.gIs_eq, I.gIsNot_eq, I.bLen_eq, I.bInt_eq, I.bTuple_eq, I.bListD_eq, I.mTup_eq, I.mLst_eq, I.mNew_eq, I.mSeq_eq, I.mTru_eq, I.mCut_eq, I.mPut_eq, I.bAll_eq, I.bAny_eq, I.bSum_eq, I.bSorted_eq, I.bMax_eq, I.bMin_eq, I.kMM_eq, I.bIsi_eq, I.mIt_eq, I.mEnu_eq, I.mZip_eq, I.forL_eq, I.whileL_eq, I.lcL_eq, I.lcO_eq, I.lcB2_eq, I.cDisp_eq, I.gIn_eq, I.mUpd_eq, I.mApp_eq] at *
  exact R.cAndT h
theorem cOrT (h : OkI (a ρ μ) (fun x μ' => OkI (I.mTru x μ') (fun k μ1 => (k = true → P x μ1) ∧ (k = false → OkI (b ρ μ1) P E)) E) E) : OkI (I.cOrT a b ρ μ) P E := by
  simp only [OkI_eq, I.cVar_eq, I.cK_eq, I.c1_eq, I.c2_eq, I.cN_eq, I.aNil_eq, I.aCons_eq, I.aStar_eq, I.cTest_eq, I.cTru_eq, I.cAnd_eq, I.cOr_eq, I.cNot_eq, I.cYes_eq, I.cIf_eq, I.cAndT_eq, I.cOrT_eq, I.cNotT_eq, I.cChain_eq, I.cCall_eq, I.cSlice_eq, I.oNone_eq, I.oSome_eq, I.cKw_eq, I.cMeth_eq, I.cRgL1_eq, I.cRgL2_eq, I.iSeq_eq, I.iRg1_eq, I.iRg2_eq, I.iZp_eq, I.iEn_eq, I.cLc_eq, I.cLc2_eq, I.lcT_eq, I.sNil_eq, I.sPass_eq, I.sBreak_eq, I.sCont_eq, I.sBad_eq, I.sRetN_eq, I.sSeq_eq, I.sExpr_eq, I.sRet_eq, I.sSet_eq, I.sIf_eq, I.sAsg_eq, I.sStore_eq, I.sPar_eq, I.sPar3_eq, I.sAug_eq, I.sFor_eq, I.stp_eq, I.fnD_eq, I.gIxD_eq, I.gAdd_eq, I.gSub_eq, I.gMulI_eq, I.gFdiv_eq, I.gMod_eq, I.gPow_eq, I.gLt_eq, I.gLe_eq, I.gGt_eq, I.gGe_eq, I.gNeg_eq, I.gEqD_eq, I.gIs_eq, I.gIsNot_eq, I.bLen_eq, I.bInt_eq, I.bTuple_eq, I.bListD_eq, I.mTup_eq, I.mLst_eq, I.mNew_eq, I.mSeq_eq, I.mTru_eq, I.mCut_eq, I.mPut_eq, I.bAll_eq, I.bAny_eq, I.bSum_eq, I.bSorted_eq, I.bMax_eq, I.bMin_eq, I.kMM_eq, I.bIsi_eq, I.mIt_eq, I.mEnu_eq, I.mZip_eq, I.forL_eq, I.whileL_eq, I.lcL_eq, I.lcO_eq, I.lcB2_eq, I.cDisp_eq, I.gIn_eq, I.mUpd_eq, I.mApp_eq] at *
  exact R.cOrT h
theorem cNotT (h : OkI (a ρ μ) (fun x μ' => OkI (I.mTru x μ') (fun k μ1 => P (.bl (!k)) μ1) E) E) : OkI (I.cNotT a ρ μ) P E := by
  simp only [OkI_eq, I.cVar_eq, I.cK_eq, I.c1_eq, I.c2_eq, I.cN_eq, I.aNil_eq, I.aCons_eq, I.aStar_eq, I.cTest_eq, I.cTru_eq, I.cAnd_eq, I.cOr_eq, I.cNot_eq, I.cYes_eq, I.cIf_eq, I.cAndT_eq, I.cOrT_eq, I.cNotT_eq, I.cChain_eq, I.cCall_eq, I.cSlice_eq, I.oNone_eq, I.oSome_eq, I.cKw_eq, I.cMeth_eq, I.cRgL1_eq, I.cRgL2_eq, I.iSeq_eq, I.iRg1_eq, I.iRg2_eq, I.iZp_eq, I.iEn_eq, I.cLc_eq, I.cLc2_eq, I.lcT_eq, I.sNil_eq, I.sPass_eq, I.sBreak_eq, I.sCont_eq, I.sBad_eq, I.sRetN_eq, I.sSeq_eq, I.sExpr_eq, I.sRet_eq, I.sSet_eq, I.sIf_eq, I.sAsg_eq, I.sStore_eq, I.sPar_eq, I.sPar3_eq, I.sAug_eq, I.sFor_eq, I.stp_eq, I.fnD_eq, I.gIxD_eq, I.gAdd_eq, I.gSub_eq, I.gMulI_eq, I.gFdiv_eq, I.gMod_eq, I.gPow_eq, I.gLt_eq, I.gLe_eq, I.gGt_eq, I.gGe_eq, I.gNeg_eq, I.gEqD_eq, I.gIs_eq, I.gIsNot_eq, I.bLen_eq, I.bInt_eq, I.bTuple_eq, I.bListD_eq, I.mTup_eq, I.mLst_eq, I.mNew_eq, I.mSeq_eq, I.mTru_eq, I.mCut_eq, I.mPut_eq, I.bAll_eq, I.bAny_eq, I.bSum_eq, I.bSorted_eq, I.bMax_eq, I.bMin_eq, I.kMM_eq, I.bIsi_eq, I.mIt_eq, I.mEnu_eq, I.mZip_eq, I.forL_eq, I.whileL_eq, I.lcL_eq, I.lcO_eq, I.lcB2_eq, I.cDisp_eq, I.gIn_eq, I.mUpd_eq, I.mApp_eq] at *
  exact R.cNotT h
theorem cChain {g g' : T → T → M T} (h : OkI (a ρ μ) (fun x μ1 => OkI (b ρ μ1) (fun y μ2 => OkI (g x y μ2) (fun z μ3 => IsBl z fun k => (k = true → OkI (c ρ μ3) (fun w μ4 => OkI (g' y w μ4) P E) E) ∧ (k = false → P (.bl false) μ3)) E) E) E) : OkI (I.cChain g g' a b c ρ μ) P E := by
  simp only [OkI_eq, I.cVar_eq, I.cK_eq, I.c1_eq, I.c2_eq, I.cN_eq, I.aNil_eq, I.aCons_eq, I.aStar_eq, I.cTest_eq, I.cTru_eq, I.cAnd_eq, I.cOr_eq, I.cNot_eq, I.cYes_eq, I.cIf_eq, I.cAndT_eq, I.cOrT_eq, I.cNotT_eq, I.cChain_eq, I.cCall_eq, I.cSlice_eq, I.oNone_eq, I.oSome_eq, I.cKw_eq, I.cMeth_eq, I.cRgL1_eq, I.cRgL2_eq, I.iSeq_eq, I.iRg1_eq, I.iRg2_eq, I.iZp_eq, I.iEn_eq, I.cLc_eq, I.cLc2_eq, I.lcT_eq, I.sNil_eq, I.sPass_eq, I.sBreak_eq, I.sCont_eq, I.sBad_eq, I.sRetN_eq, I.sSeq_eq, I.sExpr_eq, I.sRet_eq, I.sSet_eq, I.sIf_eq, I.sAsg_eq, I.sStore_eq, I.sPar_eq, I.sPar3_eq, I.sAug_eq, I.sFor_eq, I.stp_eq, I.fnD_eq, I.gIxD_eq, I.gAdd_eq, I.gSub_eq, I.gMulI_eq, I.gFdiv_eq, I.gMod_eq, I.gPow_eq, I.gLt_eq, I.gLe_eq, I.gGt_eq, I.gGe_eq, I.gNeg_eq, I.gEqD_eq, I.gIs_eq, I.gIsNot_eq, I.bLen_eq, I.bInt_eq, I.bTuple_eq, I.bListD_eq, I.mTup_eq, I.mLst_eq, I.mNew_eq, I.mSeq_eq, I.mTru_eq, I.mCut_eq, I.mPut_eq, I.bAll_eq, I.bAny_eq, I.bSum_eq, I.bSorted_eq, I.bMax_eq, I.bMin_eq, I.kMM_eq, I.bIsi_eq, I.mIt_eq, I.mEnu_eq, I.mZip_eq, I.forL_eq, I.whileL_eq, I.lcL_eq, I.lcO_eq, I.lcB2_eq, I.cDisp_eq, I.gIn_eq, I.mUpd_eq, I.mApp_eq] at *
  exact R.cChain h
theorem cCall {n : Nat} {g : List T → M T} (h : OkI (as ρ μ) (fun ts μ' => Len ts n (OkI (g ts μ') P E)) E) : OkI (I.cCall n g as ρ μ) P E := by
  simp only [OkI_eq, I.cVar_eq, I.cK_eq, I.c1_eq, I.c2_eq, I.cN_eq, I.aNil_eq, I.aCons_eq, I.aStar_eq, I.cTest_eq, I.cTru_eq, I.cAnd_eq, I.cOr_eq, I.cNot_eq, I.cYes_eq, I.cIf_eq, I.cAndT_eq, I.cOrT_eq, I.cNotT_eq, I.cChain_eq, I.cCall_eq, I.cSlice_eq, I.oNone_eq, I.oSome_eq, I.cKw_eq, I.cMeth_eq, I.cRgL1_eq, I.cRgL2_eq, I.iSeq_eq, I.iRg1_eq, I.iRg2_eq, I.iZp_eq, I.iEn_eq, I.cLc_eq, I.cLc2_eq, I.lcT_eq, I.sNil_eq, I.sPass_eq, I.sBreak_eq, I.sCont_eq, I.sBad_eq, I.sRetN_eq, I.sSeq_eq, I.sExpr_eq, I.sRet_eq, I.sSet_eq, I.sIf_eq, I.sAsg_eq, I.sStore_eq, I.sPar_eq, I.sPar3_eq, I.sAug_eq, I.sFor_eq, I.stp_eq, I.fnD_eq, I.gIxD_eq, I.gAdd_eq, I.gSub_eq, I.gMulI_eq, I.gFdiv_eq, I.gMod_eq, I.gPow_eq, I.gLt_eq, I.gLe_eq, I.gGt_eq, I.gGe_eq, I.gNeg_eq, I.gEqD_eq, I.gIs_eq, I.gIsNot_eq, I.bLen_eq, I.bInt_eq, I.bTuple_eq, I.bListD_eq, I.mTup_eq, I.mLst_eq, I.mNew_eq, I.mSeq_eq, I.mTru_eq, I.mCut_eq, I.mPut_eq, I.bAll_eq, I.bAny_eq, I.bSum_eq, I.bSorted_eq, I.bMax_eq, I.bMin_eq, I.kMM_eq, I.bIsi_eq, I.mIt_eq, I.mEnu_eq, I.mZip_eq, I.forL_eq, I.whileL_eq, I.lcL_eq, I.lcO_eq, I.lcB2_eq, I.cDisp_eq, I.gIn_eq, I.mUpd_eq, I.mApp_eq] at *
  exact R.cCall h
theorem cSlice {lo hi : Env → M (Option Int)} (h : OkI (a ρ μ) (fun x μ1 => OkI (lo ρ μ1) (fun l μ2 => OkI (hi ρ μ2) (fun h μ3 => OkI (I.mCut x l h μ3) P E) E) E) E) : OkI (I.cSlice a lo hi ρ μ) P E := by
  simp only [OkI_eq, I.cVar_eq, I.cK_eq, I.c1_eq, I.c2_eq, I.cN_eq, I.aNil_eq, I.aCons_eq, I.aStar_eq, I.cTest_eq, I.cTru_eq, I.cAnd_eq, I.cOr_eq, I.cNot_eq, I.cYes_eq, I.cIf_eq, I.cAndT_eq, I.cOrT_eq, I.cNotT_eq, I.cChain_eq, I.cCall_eq, I.cSlice_eq, I.oNone_eq, I.oSome_eq, I.cKw_eq, I.cMeth_eq, I.cRgL1_eq, I.cRgL2_eq, I.iSeq_eq, I.iRg1_eq, I.iRg2_eq, I.iZp_eq, I.iEn_eq, I.cLc_eq, I.cLc2_eq, I.lcT_eq, I.sNil_eq, I.sPass_eq, I.sBreak_eq, I.sCont_eq, I.sBad_eq, I.sRetN_eq, I.sSeq_eq, I.sExpr_eq, I.sRet_eq, I.sSet_eq, I.sIf_eq, I.sAsg_eq, I.sStore_eq, I.sPar_eq, I.sPar3_eq, I.sAug_eq, I.sFor_eq, I.stp_eq, I.fnD_eq, I.gIxD_eq, I.gAdd_eq, I.gSub_eq, I.gMulI_eq, I.gFdiv_eq, I.gMod_eq, I.gPow_eq, I.gLt_eq, I.gLe_eq, I.gGt_eq, I.gGe_eq, I.gNeg_eq, I.gEqD_eq, I.gIs_eq, I.gIsNot_eq, I.bLen_eq, I.bInt_eq, I.bTuple_eq, I.bListD_eq, I.mTup_eq, I.mLst_eq, I.mNew_eq, I.mSeq_eq, I.mTru_eq, I.mCut_eq, I.mPut_eq, I.bAll_eq, I.bAny_eq, I.bSum_eq, I.bSorted_eq, I.bMax_eq, I.bMin_eq, I.kMM_eq, I.bIsi_eq, I.mIt_eq, I.mEnu_eq, I.mZip_eq, I.forL_eq, I.whileL_eq, I.lcL_eq, I.lcO_eq, I.lcB2_eq, I.cDisp_eq, I.gIn_eq, I.mUpd_eq, I.mApp_eq] at *
  exact R.cSlice h
theorem oNone {P : Option Int → Store → Prop} (h : P none μ) : OkI (I.oNone ρ μ) P E := by
  simp only [OkI_eq, I.cVar_eq, I.cK_eq, I.c1_eq, I.c2_eq, I.cN_eq, I.aNil_eq, I.aCons_eq, I.aStar_eq, I.cTest_eq, I.cTru_eq, I.cAnd_eq, I.cOr_eq, I.cNot_eq, I.cYes_eq, I.cIf_eq, I.cAndT_eq, I.cOrT_eq, I.cNotT_eq, I.cChain_eq, I.cCall_eq, I.cSlice_eq, I.oNone_eq, I.oSome_eq, I.cKw_eq, I.cMeth_eq, I.cRgL1_eq, I.cRgL2_eq, I.iSeq_eq, I.iRg1_eq, I.iRg2_eq, I.iZp_eq, I.iEn_eq, I.cLc_eq, I.cLc2_eq, I.lcT_eq, I.sNil_eq, I.sPass_eq, I.sBreak_eq, I.sCont_eq, I.sBad_eq, I.sRetN_eq, I.sSeq_eq, I.sExpr_eq, I.sRet_eq, I.sSet_eq, I.sIf_eq, I.sAsg_eq, I.sStore_eq, I.sPar_eq, I.sPar3_eq, I.sAug_eq, I.sFor_eq, I.stp_eq, I.fnD_eq, I.gIxD_eq, I.gAdd_eq, I.gSub_eq, I.gMulI_eq, I.gFdiv_eq, I.gMod_eq, I.gPow_eq, I.gLt_eq, I.gLe_eq, I.gGt_eq, I.gGe_eq, I.gNeg_eq, I.gEqD_eq, I.gIs_eq, I.gIsNot_eq, I.bLen_eq, I.bInt_eq, I.bTuple_eq, I.bListD_eq, I.mTup_eq, I.mLst_eq, I.mNew_eq, I.mSeq_eq, I.mTru_eq, I.mCut_eq, I.mPut_eq, I.bAll_eq, I.bAny_eq, I.bSum_eq, I.bSorted_eq, I.bMax_eq, I.bMin_eq, I.kMM_eq, I.bIsi_eq, I.mIt_eq, I.mEnu_eq, I.mZip_eq, I.forL_eq, I.whileL_eq, I.lcL_eq, I.lcO_eq, I.lcB2_eq, I.cDisp_eq, I.gIn_eq, I.mUpd_eq, I.mApp_eq] at *
  exact R.oNone h
theorem oSome {P : Option Int → Store → Prop} (h : OkI (a ρ μ) (fun x μ' => IsInt x fun i => P (some i) μ') E) : OkI (I.oSome a ρ μ) P E := by
  simp only [OkI_eq, I.cVar_eq, I.cK_eq, I.c1_eq, I.c2_eq, I.cN_eq, I.aNil_eq, I.aCons_eq, I.aStar_eq, I.cTest_eq, I.cTru_eq, I.cAnd_eq, I.cOr_eq, I.cNot_eq, I.cYes_eq, I.cIf_eq, I.cAndT_eq, I.cOrT_eq, I.cNotT_eq, I.cChain_eq, I.cCall_eq, I.cSlice_eq, I.oNone_eq, I.oSome_eq, I.cKw_eq, I.cMeth_eq, I.cRgL1_eq, I.cRgL2_eq, I.iSeq_eq, I.iRg1_eq, I.iRg2_eq, I.iZp_eq, I.iEn_eq, I.cLc_eq, I.cLc2_eq, I.lcT_eq, I.sNil_eq, I.sPass_eq, I.sBreak_eq, I.sCont_eq, I.sBad_eq, I.sRetN_eq, I.sSeq_eq, I.sExpr_eq, I.sRet_eq, I.sSet_eq, I.sIf_eq, I.sAsg_eq, I.sStore_eq, I.sPar_eq, I.sPar3_eq, I.sAug_eq, I.sFor_eq, I.stp_eq, I.fnD_eq, I.gIxD_eq, I.gAdd_eq, I.gSub_eq, I.gMulI_eq, I.gFdiv_eq, I.gMod_eq, I.gPow_eq, I.gLt_eq, I.gLe_eq, I.gGt_eq, I.gGe_eq, I.gNeg_eq, I.gEqD_eq, I.gIs_eq, I.gIsNot_eq, I.bLen_eq, I.bInt_eq, I.bTuple_eq, I.bListD_eq, I.mTup_eq, I.mLst_eq, I.mNew_eq, I.mSeq_eq, I.mTru_eq, I.mCut_eq, I.mPut_eq, I.bAll_eq, I.bAny_eq, I.bSum_eq, I.bSorted_eq, I.bMax_eq, I.bMin_eq, I.kMM_eq, I.bIsi_eq, I.mIt_eq, I.mEnu_eq, I.mZip_eq, I.forL_eq, I.whileL_eq, I.lcL_eq, I.lcO_eq, I.lcB2_eq, I.cDisp_eq, I.gIn_eq, I.mUpd_eq, I.mApp_eq] at *
  exact R.oSome h
theorem cKw {g : List T → T → M T} {d : Env → M T} (h : OkI (as ρ μ) (fun ts μ1 => OkI (d ρ μ1) (fun u μ2 => OkI (g ts u μ2) P E) E) E) : OkI (I.cKw g as d ρ μ) P E := by
  simp only [OkI_eq, I.cVar_eq, I.cK_eq, I.c1_eq, I.c2_eq, I.cN_eq, I.aNil_eq, I.aCons_eq, I.aStar_eq, I.cTest_eq, I.cTru_eq, I.cAnd_eq, I.cOr_eq, I.cNot_eq, I.cYes_eq, I.cIf_eq, I.cAndT_eq, I.cOrT_eq, I.cNotT_eq, I.cChain_eq, I.cCall_eq, I.cSlice_eq, I.oNone_eq, I.oSome_eq, I.cKw_eq, I.cMeth_eq, I.cRgL1_eq, I.cRgL2_eq, I.iSeq_eq, I.iRg1_eq, I.iRg2_eq, I.iZp_eq, I.iEn_eq, I.cLc_eq, I.cLc2_eq, I.lcT_eq, I.sNil_eq, I.sPass_eq, I.sBreak_eq, I.sCont_eq, I.sBad_eq, I.sRetN_eq, I.sSeq_eq, I.sExpr_eq, I.sRet_eq, I.sSet_eq, I.sIf_eq, I.sAsg_eq, I.sStore_eq, I.sPar_eq, I.sPar3_eq, I.sAug_eq, I.sFor_eq, I.stp_eq, I.fnD_eq, I.gIxD_eq, I.gAdd_eq, I.gSub_eq, I.gMulI_eq, I.gFdiv_eq, I.gMod_eq, I.gPow_eq, I.gLt_eq, I.gLe_eq, I.gGt_eq, I.gGe_eq, I.gNeg_eq, I.gEqD_eq, I.gIs_eq, I.gIsNot_eq, I.bLen_eq, I.bInt_eq, I.bTuple_eq, I.bListD_eq, I.mTup_eq, I.mLst_eq, I.mNew_eq, I.mSeq_eq, I.mTru_eq, I.mCut_eq, I.mPut_eq, I.bAll_eq, I.bAny_eq, I.bSum_eq, I.bSorted_eq, I.bMax_eq, I.bMin_eq, I.kMM_eq, I.bIsi_eq, I.mIt_eq, I.mEnu_eq, I.mZip_eq, I.forL_eq, I.whileL_eq, I.lcL_eq, I.lcO_eq, I.lcB2_eq, I.cDisp_eq, I.gIn_eq, I.mUpd_eq, I.mApp_eq] at *
  exact R.cKw h
theorem cMeth {Ty : String} {g : T → List T → M T} (h : OkI (a ρ μ) (fun x μ1 => tyOk Ty x μ1 = true ∧ OkI (as ρ μ1) (fun ts μ3 => OkI (g x ts μ3) P E) E) E) : OkI (I.cMeth Ty g a as ρ μ) P E := by
  simp only [OkI_eq, I.cVar_eq, I.cK_eq, I.c1_eq, I.c2_eq, I.cN_eq, I.aNil_eq, I.aCons_eq, I.aStar_eq, I.cTest_eq, I.cTru_eq, I.cAnd_eq, I.cOr_eq, I.cNot_eq, I.cYes_eq, I.cIf_eq, I.cAndT_eq, I.cOrT_eq, I.cNotT_eq, I.cChain_eq, I.cCall_eq, I.cSlice_eq, I.oNone_eq, I.oSome_eq, I.cKw_eq, I.cMeth_eq, I.cRgL1_eq, I.cRgL2_eq, I.iSeq_eq, I.iRg1_eq, I.iRg2_eq, I.iZp_eq, I.iEn_eq, I.cLc_eq, I.cLc2_eq, I.lcT_eq, I.sNil_eq, I.sPass_eq, I.sBreak_eq, I.sCont_eq, I.sBad_eq, I.sRetN_eq, I.sSeq_eq, I.sExpr_eq, I.sRet_eq, I.sSet_eq, I.sIf_eq, I.sAsg_eq, I.sStore_eq, I.sPar_eq, I.sPar3_eq, I.sAug_eq, I.sFor_eq, I.stp_eq, I.fnD_eq, I.gIxD_eq, I.gAdd_eq, I.gSub_eq, I.gMulI_eq, I.gFdiv_eq, I.gMod_eq, I.gPow_eq, I.gLt_eq, I.gLe_eq, I.gGt_eq, I.gGe_eq, I.gNeg_eq, I.gEqD_eq, I.gIs_eq, I.gIsNot_eq, I.bLen_eq, I.bInt_eq, I.bTuple_eq, I.bListD_eq, I.mTup_eq, I.mLst_eq, I.mNew_eq, I.mSeq_eq, I.mTru_eq, I.mCut_eq, I.mPut_eq, I.bAll_eq, I.bAny_eq, I.bSum_eq, I.bSorted_eq, I.bMax_eq, I.bMin_eq, I.kMM_eq, I.bIsi_eq, I.mIt_eq, I.mEnu_eq, I.mZip_eq, I.forL_eq, I.whileL_eq, I.lcL_eq, I.lcO_eq, I.lcB2_eq, I.cDisp_eq, I.gIn_eq, I.mUpd_eq, I.mApp_eq] at *
  exact R.cMeth h
theorem cRgL1 {mk : List T → T} (h : OkI (a ρ μ) (fun x μ' => IsInt x fun j => rgOk 0 j = true ∧ P (mk (rgT 0 j)) μ') E) : OkI (I.cRgL1 mk a ρ μ) P E := by
  simp only [OkI_eq, I.cVar_eq, I.cK_eq, I.c1_eq, I.c2_eq, I.cN_eq, I.aNil_eq, I.aCons_eq, I.aStar_eq, I.cTest_eq, I.cTru_eq, I.cAnd_eq, I.cOr_eq, I.cNot_eq, I.cYes_eq, I.cIf_eq, I.cAndT_eq, I.cOrT_eq, I.cNotT_eq, I.cChain_eq, I.cCall_eq, I.cSlice_eq, I.oNone_eq, I.oSome_eq, I.cKw_eq, I.cMeth_eq, I.cRgL1_eq, I.cRgL2_eq, I.iSeq_eq, I.iRg1_eq, I.iRg2_eq, I.iZp_eq, I.iEn_eq, I.cLc_eq, I.cLc2_eq, I.lcT_eq, I.sNil_eq, I.sPass_eq, I.sBreak_eq, I.sCont_eq, I.sBad_eq, I.sRetN_eq, I.sSeq_eq, I.sExpr_eq, I.sRet_eq, I.sSet_eq, I.sIf_eq, I.sAsg_eq, I.sStore_eq, I.sPar_eq, I.sPar3_eq, I.sAug_eq, I.sFor_eq, I.stp_eq, I.fnD_eq, I.gIxD_eq, I.gAdd_eq, I.gSub_eq, I.gMulI_eq, I.gFdiv_eq, I.gMod_eq, I.gPow_eq, I.gLt_eq, I.gLe_eq, I.gGt_eq, I.gGe_eq, I.gNeg_eq, I.gEqD_eq, I.gIs_eq, I.gIsNot_eq, I.bLen_eq, I.bInt_eq, I.bTuple_eq, I.bListD_eq, I.mTup_eq, I.mLst_eq, I.mNew_eq, I.mSeq_eq, I.mTru_eq, I.mCut_eq, I.mPut_eq, I.bAll_eq, I.bAny_eq, I.bSum_eq, I.bSorted_eq, I.bMax_eq, I.bMin_eq, I.kMM_eq, I.bIsi_eq, I.mIt_eq, I.mEnu_eq, I.mZip_eq, I.forL_eq, I.whileL_eq, I.lcL_eq, I.lcO_eq, I.lcB2_eq, I.cDisp_eq, I.gIn_eq, I.mUpd_eq, I.mApp_eq] at *
  exact R.cRgL1 h
theorem cRgL2 {mk : List T → T} (h : OkI (a ρ μ) (fun x μ1 => OkI (b ρ μ1) (fun y μ' => IsI2 [x, y] fun i j => rgOk i j = true ∧ P (mk (rgT i j)) μ') E) E) : OkI (I.cRgL2 mk a b ρ μ) P E := by
  simp only [OkI_eq, I.cVar_eq, I.cK_eq, I.c1_eq, I.c2_eq, I.cN_eq, I.aNil_eq, I.aCons_eq, I.aStar_eq, I.cTest_eq, I.cTru_eq, I.cAnd_eq, I.cOr_eq, I.cNot_eq, I.cYes_eq, I.cIf_eq, I.cAndT_eq, I.cOrT_eq, I.cNotT_eq, I.cChain_eq, I.cCall_eq, I.cSlice_eq, I.oNone_eq, I.oSome_eq, I.cKw_eq, I.cMeth_eq, I.cRgL1_eq, I.cRgL2_eq, I.iSeq_eq, I.iRg1_eq, I.iRg2_eq, I.iZp_eq, I.iEn_eq, I.cLc_eq, I.cLc2_eq, I.lcT_eq, I.sNil_eq, I.sPass_eq, I.sBreak_eq, I.sCont_eq, I.sBad_eq, I.sRetN_eq, I.sSeq_eq, I.sExpr_eq, I.sRet_eq, I.sSet_eq, I.sIf_eq, I.sAsg_eq, I.sStore_eq, I.sPar_eq, I.sPar3_eq, I.sAug_eq, I.sFor_eq, I.stp_eq, I.fnD_eq, I.gIxD_eq, I.gAdd_eq, I.gSub_eq, I.gMulI_eq, I.gFdiv_eq, I.gMod_eq, I.gPow_eq, I.gLt_eq, I.gLe_eq, I.gGt_eq, I.gGe_eq, I.gNeg_eq, I.gEqD_eq, I.gIs_eq, I.gIsNot_eq, I.bLen_eq, I.bInt_eq, I.bTuple_eq, I.bListD_eq, I.mTup_eq, I.mLst_eq, I.mNew_eq, I.mSeq_eq, I.mTru_eq, I.mCut_eq, I.mPut_eq, I.bAll_eq, I.bAny_eq, I.bSum_eq, I.bSorted_eq, I.bMax_eq, I.bMin_eq, I.kMM_eq, I.bIsi_eq, I.mIt_eq, I.mEnu_eq, I.mZip_eq, I.forL_eq, I.whileL_eq, I.lcL_eq, I.lcO_eq, I.lcB2_eq, I.cDisp_eq, I.gIn_eq, I.mUpd_eq, I.mApp_eq] at *
  exact R.cRgL2 h
theorem iSeq (h : OkI (a ρ μ) (fun x μ' => OkI (I.mIt x μ') PL E) E) : OkI (I.iSeq a ρ μ) PL E := by
  simp only [OkI_eq, I.cVar_eq, I.cK_eq, I.c1_eq, I.c2_eq, I.cN_eq, I.aNil_eq, I.aCons_eq, I.aStar_eq, I.cTest_eq, I.cTru_eq, I.cAnd_eq, I.cOr_eq, I.cNot_eq, I.cYes_eq, I.cIf_eq, I.cAndT_eq, I.cOrT_eq, I.cNotT_eq, I.cChain_eq, I.cCall_eq, I.cSlice_eq, I.oNone_eq, I.oSome_eq, I.cKw_eq, I.cMeth_eq, I.cRgL1_eq, I.cRgL2_eq, I.iSeq_eq, I.iRg1_eq, I.iRg2_eq, I.iZp_eq, I.iEn_eq, I.cLc_eq, I.cLc2_eq, I.lcT_eq, I.sNil_eq, I.sPass_eq, I.sBreak_eq, I.sCont_eq, I.sBad_eq, I.sRetN_eq, I.sSeq_eq, I.sExpr_eq, I.sRet_eq, I.sSet_eq, I.sIf_eq, I.sAsg_eq, I.sStore_eq, I.sPar_eq, I.sPar3_eq, I.sAug_eq, I.sFor_eq, I.stp_eq, I.fnD_eq, I.gIxD_eq, I.gAdd_eq, I.gSub_eq, I.gMulI_eq, I.gFdiv_eq, I.gMod_eq, I.gPow_eq, I.gLt_eq, I.gLe_eq, I.gGt_eq, I.gGe_eq, I.gNeg_eq, I.gEqD_eq, I.gIs_eq, I.gIsNot_eq, I.bLen_eq, I.bInt_eq, I.bTuple_eq, I.bListD_eq, I.mTup_eq, I.mLst_eq, I.mNew_eq, I.mSeq_eq, I.mTru_eq, I.mCut_eq, I.mPut_eq, I.bAll_eq, I.bAny_eq, I.bSum_eq, I.bSorted_eq, I.bMax_eq, I.bMin_eq, I.kMM_eq, I.bIsi_eq, I.mIt_eq, I.mEnu_eq, I.mZip_eq, I.forL_eq, I.whileL_eq, I.lcL_eq, I.lcO_eq, I.lcB2_eq, I.cDisp_eq, I.gIn_eq, I.mUpd_eq, I.mApp_eq] at *
  exact R.iSeq h
theorem mItT {ts : List T} (h : PL ts μ) : OkI (I.mIt (.tup ts) μ) PL E := by
  simp only [OkI_eq, I.cVar_eq, I.cK_eq, I.c1_eq, I.c2_eq, I.cN_eq, I.aNil_eq, I.aCons_eq, I.aStar_eq, I.cTest_eq, I.cTru_eq, I.cAnd_eq, I.cOr_eq, I.cNot_eq, I.cYes_eq, I.cIf_eq, I.cAndT_eq, I.cOrT_eq, I.cNotT_eq, I.cChain_eq, I.cCall_eq, I.cSlice_eq, I.oNone_eq, I.oSome_eq, I.cKw_eq, I.cMeth_eq, I.cRgL1_eq, I.cRgL2_eq, I.iSeq_eq, I.iRg1_eq, I.iRg2_eq, I.iZp_eq, I.iEn_eq, I.cLc_eq, I.cLc2_eq, I.lcT_eq, I.sNil_eq, I.sPass_eq, I.sBreak_eq, I.sCont_eq, I.sBad_eq, I.sRetN_eq, I.sSeq_eq, I.sExpr_eq, I.sRet_eq, I.sSet_eq, I.sIf_eq, I.sAsg_eq, I.sStore_eq, I.sPar_eq, I.sPar3_eq, I.sAug_eq, I.sFor_eq, I.stp_eq, I.fnD_eq, I.gIxD_eq, I.gAdd_eq, I.gSub_eq, I.gMulI_eq, I.gFdiv_eq, I.gMod_eq, I.gPow_eq, I.gLt_eq, I.gLe_eq, I.gGt_eq, I.gGe_eq, I.gNeg_eq, I.gEqD_eq, I.gIs_eq, I.gIsNot_eq, I.bLen_eq, I.bInt_eq, I.bTuple_eq, I.bListD_eq, I.mTup_eq, I.mLst_eq, I.mNew_eq, I.mSeq_eq, I.mTru_eq, I.mCut_eq, I.mPut_eq, I.bAll_eq, I.bAny_eq, I.bSum_eq, I.bSorted_eq, I.bMax_eq, I.bMin_eq, I.kMM_eq, I.bIsi_eq, I.mIt_eq, I.mEnu_eq, I.mZip_eq, I.forL_eq, I.whileL_eq, I.lcL_eq, I.lcO_eq, I.lcB2_eq, I.cDisp_eq, I.gIn_eq, I.mUpd_eq, I.mApp_eq] at *
  exact R.mItT h
theorem mItL {ts : List T} (h : PL ts μ) : OkI (I.mIt (.lst ts) μ) PL E := by
  simp only [OkI_eq, I.cVar_eq, I.cK_eq, I.c1_eq, I.c2_eq, I.cN_eq, I.aNil_eq, I.aCons_eq, I.aStar_eq, I.cTest_eq, I.cTru_eq, I.cAnd_eq, I.cOr_eq, I.cNot_eq, I.cYes_eq, I.cIf_eq, I.cAndT_eq, I.cOrT_eq, I.cNotT_eq, I.cChain_eq, I.cCall_eq, I.cSlice_eq, I.oNone_eq, I.oSome_eq, I.cKw_eq, I.cMeth_eq, I.cRgL1_eq, I.cRgL2_eq, I.iSeq_eq, I.iRg1_eq, I.iRg2_eq, I.iZp_eq, I.iEn_eq, I.cLc_eq, I.cLc2_eq, I.lcT_eq, I.sNil_eq, I.sPass_eq, I.sBreak_eq, I.sCont_eq, I.sBad_eq, I.sRetN_eq, I.sSeq_eq, I.sExpr_eq, I.sRet_eq, I.sSet_eq, I.sIf_eq, I.sAsg_eq, I.sStore_eq, I.sPar_eq, I.sPar3_eq, I.sAug_eq, I.sFor_eq, I.stp_eq, I.fnD_eq, I.gIxD_eq, I.gAdd_eq, I.gSub_eq, I.gMulI_eq, I.gFdiv_eq, I.gMod_eq, I.gPow_eq, I.gLt_eq, I.gLe_eq, I.gGt_eq, I.gGe_eq, I.gNeg_eq, I.gEqD_eq, I.gIs_eq, I.gIsNot_eq, I.bLen_eq, I.bInt_eq, I.bTuple_eq, I.bListD_eq, I.mTup_eq, I.mLst_eq, I.mNew_eq, I.mSeq_eq, I.mTru_eq, I.mCut_eq, I.mPut_eq, I.bAll_eq, I.bAny_eq, I.bSum_eq, I.bSorted_eq, I.bMax_eq, I.bMin_eq, I.kMM_eq, I.bIsi_eq, I.mIt_eq, I.mEnu_eq, I.mZip_eq, I.forL_eq, I.whileL_eq, I.lcL_eq, I.lcO_eq, I.lcB2_eq, I.cDisp_eq, I.gIn_eq, I.mUpd_eq, I.mApp_eq] at *
  exact R.mItL h
theorem iRg1 (h : OkI (as ρ μ) (fun x μ' => IsI1 x fun j => inR j = true ∧ PL (rgT 0 j) μ') E) : OkI (I.iRg1 as ρ μ) PL E := by
  simp only [OkI_eq, I.cVar_eq, I.cK_eq, I.c1_eq, I.c2_eq, I.cN_eq, I.aNil_eq, I.aCons_eq, I.aStar_eq, I.cTest_eq, I.cTru_eq, I.cAnd_eq, I.cOr_eq, I.cNot_eq, I.cYes_eq, I.cIf_eq, I.cAndT_eq, I.cOrT_eq, I.cNotT_eq, I.cChain_eq, I.cCall_eq, I.cSlice_eq, I.oNone_eq, I.oSome_eq, I.cKw_eq, I.cMeth_eq, I.cRgL1_eq, I.cRgL2_eq, I.iSeq_eq, I.iRg1_eq, I.iRg2_eq, I.iZp_eq, I.iEn_eq, I.cLc_eq, I.cLc2_eq, I.lcT_eq, I.sNil_eq, I.sPass_eq, I.sBreak_eq, I.sCont_eq, I.sBad_eq, I.sRetN_eq, I.sSeq_eq, I.sExpr_eq, I.sRet_eq, I.sSet_eq, I.sIf_eq, I.sAsg_eq, I.sStore_eq, I.sPar_eq, I.sPar3_eq, I.sAug_eq, I.sFor_eq, I.stp_eq, I.fnD_eq, I.gIxD_eq, I.gAdd_eq, I.gSub_eq, I.gMulI_eq, I.gFdiv_eq, I.gMod_eq, I.gPow_eq, I.gLt_eq, I.gLe_eq, I.gGt_eq, I.gGe_eq, I.gNeg_eq, I.gEqD_eq, I.gIs_eq, I.gIsNot_eq, I.bLen_eq, I.bInt_eq, I.bTuple_eq, I.bListD_eq, I.mTup_eq, I.mLst_eq, I.mNew_eq, I.mSeq_eq, I.mTru_eq, I.mCut_eq, I.mPut_eq, I.bAll_eq, I.bAny_eq, I.bSum_eq, I.bSorted_eq, I.bMax_eq, I.bMin_eq, I.kMM_eq, I.bIsi_eq, I.mIt_eq, I.mEnu_eq, I.mZip_eq, I.forL_eq, I.whileL_eq, I.lcL_eq, I.lcO_eq, I.lcB2_eq, I.cDisp_eq, I.gIn_eq, I.mUpd_eq, I.mApp_eq] at *
  exact R.iRg1 h
theorem iRg2 (h : OkI (as ρ μ) (fun x μ' => IsI2 x fun i j => inR i = true ∧ inR j = true ∧ PL (rgT i j) μ') E) : OkI (I.iRg2 as ρ μ) PL E := by
  simp only [OkI_eq, I.cVar_eq, I.cK_eq, I.c1_eq, I.c2_eq, I.cN_eq, I.aNil_eq, I.aCons_eq, I.aStar_eq, I.cTest_eq, I.cTru_eq, I.cAnd_eq, I.cOr_eq, I.cNot_eq, I.cYes_eq, I.cIf_eq, I.cAndT_eq, I.cOrT_eq, I.cNotT_eq, I.cChain_eq, I.cCall_eq, I.cSlice_eq, I.oNone_eq, I.oSome_eq, I.cKw_eq, I.cMeth_eq, I.cRgL1_eq, I.cRgL2_eq, I.iSeq_eq, I.iRg1_eq, I.iRg2_eq, I.iZp_eq, I.iEn_eq, I.cLc_eq, I.cLc2_eq, I.lcT_eq, I.sNil_eq, I.sPass_eq, I.sBreak_eq, I.sCont_eq, I.sBad_eq, I.sRetN_eq, I.sSeq_eq, I.sExpr_eq, I.sRet_eq, I.sSet_eq, I.sIf_eq, I.sAsg_eq, I.sStore_eq, I.sPar_eq, I.sPar3_eq, I.sAug_eq, I.sFor_eq, I.stp_eq, I.fnD_eq, I.gIxD_eq, I.gAdd_eq, I.gSub_eq, I.gMulI_eq, I.gFdiv_eq, I.gMod_eq, I.gPow_eq, I.gLt_eq, I.gLe_eq, I.gGt_eq, I.gGe_eq, I.gNeg_eq, I.gEqD_eq, I.gIs_eq, I.gIsNot_eq, I.bLen_eq, I.bInt_eq, I.bTuple_eq, I.bListD_eq, I.mTup_eq, I.mLst_eq, I.mNew_eq, I.mSeq_eq, I.mTru_eq, I.mCut_eq, I.mPut_eq, I.bAll_eq, I.bAny_eq, I.bSum_eq, I.bSorted_eq, I.bMax_eq, I.bMin_eq, I.kMM_eq, I.bIsi_eq, I.mIt_eq, I.mEnu_eq, I.mZip_eq, I.forL_eq, I.whileL_eq, I.lcL_eq, I.lcO_eq, I.lcB2_eq, I.cDisp_eq, I.gIn_eq, I.mUpd_eq, I.mApp_eq] at *
  exact R.iRg2 h
theorem iZp (h : OkI (as ρ μ) (fun x μ' => OkI (I.mZip x μ') PL E) E) : OkI (I.iZp as ρ μ) PL E := by
  simp only [OkI_eq, I.cVar_eq, I.cK_eq, I.c1_eq, I.c2_eq, I.cN_eq, I.aNil_eq, I.aCons_eq, I.aStar_eq, I.cTest_eq, I.cTru_eq, I.cAnd_eq, I.cOr_eq, I.cNot_eq, I.cYes_eq, I.cIf_eq, I.cAndT_eq, I.cOrT_eq, I.cNotT_eq, I.cChain_eq, I.cCall_eq, I.cSlice_eq, I.oNone_eq, I.oSome_eq, I.cKw_eq, I.cMeth_eq, I.cRgL1_eq, I.cRgL2_eq, I.iSeq_eq, I.iRg1_eq, I.iRg2_eq, I.iZp_eq, I.iEn_eq, I.cLc_eq, I.cLc2_eq, I.lcT_eq, I.sNil_eq, I.sPass_eq, I.sBreak_eq, I.sCont_eq, I.sBad_eq, I.sRetN_eq, I.sSeq_eq, I.sExpr_eq, I.sRet_eq, I.sSet_eq, I.sIf_eq, I.sAsg_eq, I.sStore_eq, I.sPar_eq, I.sPar3_eq, I.sAug_eq, I.sFor_eq, I.stp_eq, I.fnD_eq, I.gIxD_eq, I.gAdd_eq, I.gSub_eq, I.gMulI_eq, I.gFdiv_eq, I.gMod_eq, I.gPow_eq, I.gLt_eq, I.gLe_eq, I.gGt_eq, I.gGe_eq, I.gNeg_eq, I.gEqD_eq, I.gIs_eq, I.gIsNot_eq, I.bLen_eq, I.bInt_eq, I.bTuple_eq, I.bListD_eq, I.mTup_eq, I.mLst_eq, I.mNew_eq, I.mSeq_eq, I.mTru_eq, I.mCut_eq, I.mPut_eq, I.bAll_eq, I.bAny_eq, I.bSum_eq, I.bSorted_eq, I.bMax_eq, I.bMin_eq, I.kMM_eq, I.bIsi_eq, I.mIt_eq, I.mEnu_eq, I.mZip_eq, I.forL_eq, I.whileL_eq, I.lcL_eq, I.lcO_eq, I.lcB2_eq, I.cDisp_eq, I.gIn_eq, I.mUpd_eq, I.mApp_eq] at *
  exact R.iZp h
theorem iEn (h : OkI (as ρ μ) (fun x μ' => OkI (I.mEnu x μ') PL E) E) : OkI (I.iEn as ρ μ) PL E := by
  simp only [OkI_eq, I.cVar_eq, I.cK_eq, I.c1_eq, I.c2_eq, I.cN_eq, I.aNil_eq, I.aCons_eq, I.aStar_eq, I.cTest_eq, I.cTru_eq, I.cAnd_eq, I.cOr_eq, I.cNot_eq, I.cYes_eq, I.cIf_eq, I.cAndT_eq, I.cOrT_eq, I.cNotT_eq, I.cChain_eq, I.cCall_eq, I.cSlice_eq, I.oNone_eq, I.oSome_eq, I.cKw_eq, I.cMeth_eq, I.cRgL1_eq, I.cRgL2_eq, I.iSeq_eq, I.iRg1_eq, I.iRg2_eq, I.iZp_eq, I.iEn_eq, I.cLc_eq, I.cLc2_eq, I.lcT_eq, I.sNil_eq, I.sPass_eq, I.sBreak_eq, I.sCont_eq, I.sBad_eq, I.sRetN_eq, I.sSeq_eq, I.sExpr_eq, I.sRet_eq, I.sSet_eq, I.sIf_eq, I.sAsg_eq, I.sStore_eq, I.sPar_eq, I.sPar3_eq, I.sAug_eq, I.sFor_eq, I.stp_eq, I.fnD_eq, I.gIxD_eq, I.gAdd_eq, I.gSub_eq, I.gMulI_eq, I.gFdiv_eq, I.gMod_eq, I.gPow_eq, I.gLt_eq, I.gLe_eq, I.gGt_eq, I.gGe_eq, I.gNeg_eq, I.gEqD_eq, I.gIs_eq, I.gIsNot_eq, I.bLen_eq, I.bInt_eq, I.bTuple_eq, I.bListD_eq, I.mTup_eq, I.mLst_eq, I.mNew_eq, I.mSeq_eq, I.mTru_eq, I.mCut_eq, I.mPut_eq, I.bAll_eq, I.bAny_eq, I.bSum_eq, I.bSorted_eq, I.bMax_eq, I.bMin_eq, I.kMM_eq, I.bIsi_eq, I.mIt_eq, I.mEnu_eq, I.mZip_eq, I.forL_eq, I.whileL_eq, I.lcL_eq, I.lcO_eq, I.lcB2_eq, I.cDisp_eq, I.gIn_eq, I.mUpd_eq, I.mApp_eq] at *
  exact R.iEn h
theorem mEnuT {ts : List T} (h : PL (enT ts) μ) : OkI (I.mEnu [.tup ts] μ) PL E := by
  simp only [OkI_eq, I.cVar_eq, I.cK_eq, I.c1_eq, I.c2_eq, I.cN_eq, I.aNil_eq, I.aCons_eq, I.aStar_eq, I.cTest_eq, I.cTru_eq, I.cAnd_eq, I.cOr_eq, I.cNot_eq, I.cYes_eq, I.cIf_eq, I.cAndT_eq, I.cOrT_eq, I.cNotT_eq, I.cChain_eq, I.cCall_eq, I.cSlice_eq, I.oNone_eq, I.oSome_eq, I.cKw_eq, I.cMeth_eq, I.cRgL1_eq, I.cRgL2_eq, I.iSeq_eq, I.iRg1_eq, I.iRg2_eq, I.iZp_eq, I.iEn_eq, I.cLc_eq, I.cLc2_eq, I.lcT_eq, I.sNil_eq, I.sPass_eq, I.sBreak_eq, I.sCont_eq, I.sBad_eq, I.sRetN_eq, I.sSeq_eq, I.sExpr_eq, I.sRet_eq, I.sSet_eq, I.sIf_eq, I.sAsg_eq, I.sStore_eq, I.sPar_eq, I.sPar3_eq, I.sAug_eq, I.sFor_eq, I.stp_eq, I.fnD_eq, I.gIxD_eq, I.gAdd_eq, I.gSub_eq, I.gMulI_eq, I.gFdiv_eq, I.gMod_eq, I.gPow_eq, I.gLt_eq, I.gLe_eq, I.gGt_eq, I.gGe_eq, I.gNeg_eq, I.gEqD_eq, I.gIs_eq, I.gIsNot_eq, I.bLen_eq, I.bInt_eq, I.bTuple_eq, I.bListD_eq, I.mTup_eq, I.mLst_eq, I.mNew_eq, I.mSeq_eq, I.mTru_eq, I.mCut_eq, I.mPut_eq, I.bAll_eq, I.bAny_eq, I.bSum_eq, I.bSorted_eq, I.bMax_eq, I.bMin_eq, I.kMM_eq, I.bIsi_eq, I.mIt_eq, I.mEnu_eq, I.mZip_eq, I.forL_eq, I.whileL_eq, I.lcL_eq, I.lcO_eq, I.lcB2_eq, I.cDisp_eq, I.gIn_eq, I.mUpd_eq, I.mApp_eq] at *
  exact R.mEnuT h
theorem mEnuL {ts : List T} (h : PL (enT ts) μ) : OkI (I.mEnu [.lst ts] μ) PL E := by
  simp only [OkI_eq, I.cVar_eq, I.cK_eq, I.c1_eq, I.c2_eq, I.cN_eq, I.aNil_eq, I.aCons_eq, I.aStar_eq, I.cTest_eq, I.cTru_eq, I.cAnd_eq, I.cOr_eq, I.cNot_eq, I.cYes_eq, I.cIf_eq, I.cAndT_eq, I.cOrT_eq, I.cNotT_eq, I.cChain_eq, I.cCall_eq, I.cSlice_eq, I.oNone_eq, I.oSome_eq, I.cKw_eq, I.cMeth_eq, I.cRgL1_eq, I.cRgL2_eq, I.iSeq_eq, I.iRg1_eq, I.iRg2_eq, I.iZp_eq, I.iEn_eq, I.cLc_eq, I.cLc2_eq, I.lcT_eq, I.sNil_eq, I.sPass_eq, I.sBreak_eq, I.sCont_eq, I.sBad_eq, I.sRetN_eq, I.sSeq_eq, I.sExpr_eq, I.sRet_eq, I.sSet_eq, I.sIf_eq, I.sAsg_eq, I.sStore_eq, I.sPar_eq, I.sPar3_eq, I.sAug_eq, I.sFor_eq, I.stp_eq, I.fnD_eq, I.gIxD_eq, I.gAdd_eq, I.gSub_eq, I.gMulI_eq, I.gFdiv_eq, I.gMod_eq, I.gPow_eq, I.gLt_eq, I.gLe_eq, I.gGt_eq, I.gGe_eq, I.gNeg_eq, I.gEqD_eq, I.gIs_eq, I.gIsNot_eq, I.bLen_eq, I.bInt_eq, I.bTuple_eq, I.bListD_eq, I.mTup_eq, I.mLst_eq, I.mNew_eq, I.mSeq_eq, I.mTru_eq, I.mCut_eq, I.mPut_eq, I.bAll_eq, I.bAny_eq, I.bSum_eq, I.bSorted_eq, I.bMax_eq, I.bMin_eq, I.kMM_eq, I.bIsi_eq, I.mIt_eq, I.mEnu_eq, I.mZip_eq, I.forL_eq, I.whileL_eq, I.lcL_eq, I.lcO_eq, I.lcB2_eq, I.cDisp_eq, I.gIn_eq, I.mUpd_eq, I.mApp_eq] at *
  exact R.mEnuL h
theorem mZipT {ts us : List T} (h : PL (prs ts us) μ) : OkI (I.mZip [.tup ts, .tup us] μ) PL E := by
  simp only [OkI_eq, I.cVar_eq, I.cK_eq, I.c1_eq, I.c2_eq, I.cN_eq, I.aNil_eq, I.aCons_eq, I.aStar_eq, I.cTest_eq, I.cTru_eq, I.cAnd_eq, I.cOr_eq, I.cNot_eq, I.cYes_eq, I.cIf_eq, I.cAndT_eq, I.cOrT_eq, I.cNotT_eq, I.cChain_eq, I.cCall_eq, I.cSlice_eq, I.oNone_eq, I.oSome_eq, I.cKw_eq, I.cMeth_eq, I.cRgL1_eq, I.cRgL2_eq, I.iSeq_eq, I.iRg1_eq, I.iRg2_eq, I.iZp_eq, I.iEn_eq, I.cLc_eq, I.cLc2_eq, I.lcT_eq, I.sNil_eq, I.sPass_eq, I.sBreak_eq, I.sCont_eq, I.sBad_eq, I.sRetN_eq, I.sSeq_eq, I.sExpr_eq, I.sRet_eq, I.sSet_eq, I.sIf_eq, I.sAsg_eq, I.sStore_eq, I.sPar_eq, I.sPar3_eq, I.sAug_eq, I.sFor_eq, I.stp_eq, I.fnD_eq, I.gIxD_eq, I.gAdd_eq, I.gSub_eq, I.gMulI_eq, I.gFdiv_eq, I.gMod_eq, I.gPow_eq, I.gLt_eq, I.gLe_eq, I.gGt_eq, I.gGe_eq, I.gNeg_eq, I.gEqD_eq, I.gIs_eq, I.gIsNot_eq, I.bLen_eq, I.bInt_eq, I.bTuple_eq, I.bListD_eq, I.mTup_eq, I.mLst_eq, I.mNew_eq, I.mSeq_eq, I.mTru_eq, I.mCut_eq, I.mPut_eq, I.bAll_eq, I.bAny_eq, I.bSum_eq, I.bSorted_eq, I.bMax_eq, I.bMin_eq, I.kMM_eq, I.bIsi_eq, I.mIt_eq, I.mEnu_eq, I.mZip_eq, I.forL_eq, I.whileL_eq, I.lcL_eq, I.lcO_eq, I.lcB2_eq, I.cDisp_eq, I.gIn_eq, I.mUpd_eq, I.mApp_eq] at *
  exact R.mZipT h
theorem mZipL {ts us : List T} (h : PL (prs ts us) μ) : OkI (I.mZip [.lst ts, .lst us] μ) PL E := by
  simp only [OkI_eq, I.cVar_eq, I.cK_eq, I.c1_eq, I.c2_eq, I.cN_eq, I.aNil_eq, I.aCons_eq, I.aStar_eq, I.cTest_eq, I.cTru_eq, I.cAnd_eq, I.cOr_eq, I.cNot_eq, I.cYes_eq, I.cIf_eq, I.cAndT_eq, I.cOrT_eq, I.cNotT_eq, I.cChain_eq, I.cCall_eq, I.cSlice_eq, I.oNone_eq, I.oSome_eq, I.cKw_eq, I.cMeth_eq, I.cRgL1_eq, I.cRgL2_eq, I.iSeq_eq, I.iRg1_eq, I.iRg2_eq, I.iZp_eq, I.iEn_eq, I.cLc_eq, I.cLc2_eq, I.lcT_eq, I.sNil_eq, I.sPass_eq, I.sBreak_eq, I.sCont_eq, I.sBad_eq, I.sRetN_eq, I.sSeq_eq, I.sExpr_eq, I.sRet_eq, I.sSet_eq, I.sIf_eq, I.sAsg_eq, I.sStore_eq, I.sPar_eq, I.sPar3_eq, I.sAug_eq, I.sFor_eq, I.stp_eq, I.fnD_eq, I.gIxD_eq, I.gAdd_eq, I.gSub_eq, I.gMulI_eq, I.gFdiv_eq, I.gMod_eq, I.gPow_eq, I.gLt_eq, I.gLe_eq, I.gGt_eq, I.gGe_eq, I.gNeg_eq, I.gEqD_eq, I.gIs_eq, I.gIsNot_eq, I.bLen_eq, I.bInt_eq, I.bTuple_eq, I.bListD_eq, I.mTup_eq, I.mLst_eq, I.mNew_eq, I.mSeq_eq, I.mTru_eq, I.mCut_eq, I.mPut_eq, I.bAll_eq, I.bAny_eq, I.bSum_eq, I.bSorted_eq, I.bMax_eq, I.bMin_eq, I.kMM_eq, I.bIsi_eq, I.mIt_eq, I.mEnu_eq, I.mZip_eq, I.forL_eq, I.whileL_eq, I.lcL_eq, I.lcO_eq, I.lcB2_eq, I.cDisp_eq, I.gIn_eq, I.mUpd_eq, I.mApp_eq] at *
  exact R.mZipL h
theorem cLc {it : Env → M (List T)} {f : T → Env → Option Env} {t : Env → M Bool} {vs : List Nat} (h : OkI (it ρ μ) (fun ts μ1 => OkI (I.lcL ts (I.lcT f t a (wipeE ρ vs)) [] μ1) (fun us μ2 => P (.lst us) μ2) E) E) : OkI (I.cLc it f t a vs ρ μ) P E := by
  simp only [OkI_eq, I.cVar_eq, I.cK_eq, I.c1_eq, I.c2_eq, I.cN_eq, I.aNil_eq, I.aCons_eq, I.aStar_eq, I.cTest_eq, I.cTru_eq, I.cAnd_eq, I.cOr_eq, I.cNot_eq, I.cYes_eq, I.cIf_eq, I.cAndT_eq, I.cOrT_eq, I.cNotT_eq, I.cChain_eq, I.cCall_eq, I.cSlice_eq, I.oNone_eq, I.oSome_eq, I.cKw_eq, I.cMeth_eq, I.cRgL1_eq, I.cRgL2_eq, I.iSeq_eq, I.iRg1_eq, I.iRg2_eq, I.iZp_eq, I.iEn_eq, I.cLc_eq, I.cLc2_eq, I.lcT_eq, I.sNil_eq, I.sPass_eq, I.sBreak_eq, I.sCont_eq, I.sBad_eq, I.sRetN_eq, I.sSeq_eq, I.sExpr_eq, I.sRet_eq, I.sSet_eq, I.sIf_eq, I.sAsg_eq, I.sStore_eq, I.sPar_eq, I.sPar3_eq, I.sAug_eq, I.sFor_eq, I.stp_eq, I.fnD_eq, I.gIxD_eq, I.gAdd_eq, I.gSub_eq, I.gMulI_eq, I.gFdiv_eq, I.gMod_eq, I.gPow_eq, I.gLt_eq, I.gLe_eq, I.gGt_eq, I.gGe_eq, I.gNeg_eq, I.gEqD_eq, I.gIs_eq, I.gIsNot_eq, I.bLen_eq, I.bInt_eq, I.bTuple_eq, I.bListD_eq, I.mTup_eq, I.mLst_eq, I.mNew_eq, I.mSeq_eq, I.mTru_eq, I.mCut_eq, I.mPut_eq, I.bAll_eq, I.bAny_eq, I.bSum_eq, I.bSorted_eq, I.bMax_eq, I.bMin_eq, I.kMM_eq, I.bIsi_eq, I.mIt_eq, I.mEnu_eq, I.mZip_eq, I.forL_eq, I.whileL_eq, I.lcL_eq, I.lcO_eq, I.lcB2_eq, I.cDisp_eq, I.gIn_eq, I.mUpd_eq, I.mApp_eq] at *
  exact R.cLc h
theorem cLc2 {it it1 : Env → M (List T)} {f f1 : T → Env → Option Env} {t t1 : Env → M Bool} {vs vs1 : List Nat} (h : OkI (it ρ μ) (fun ts μ1 => OkI (I.lcO ts (I.lcB2 f t it1 f1 t1 a vs1 (wipeE ρ vs)) [] μ1) (fun us μ2 => P (.lst us) μ2) E) E) : OkI (I.cLc2 it f t it1 f1 t1 a vs vs1 ρ μ) P E := by
  simp only [OkI_eq, I.cVar_eq, I.cK_eq, I.c1_eq, I.c2_eq, I.cN_eq, I.aNil_eq, I.aCons_eq, I.aStar_eq, I.cTest_eq, I.cTru_eq, I.cAnd_eq, I.cOr_eq, I.cNot_eq, I.cYes_eq, I.cIf_eq, I.cAndT_eq, I.cOrT_eq, I.cNotT_eq, I.cChain_eq, I.cCall_eq, I.cSlice_eq, I.oNone_eq, I.oSome_eq, I.cKw_eq, I.cMeth_eq, I.cRgL1_eq, I.cRgL2_eq, I.iSeq_eq, I.iRg1_eq, I.iRg2_eq, I.iZp_eq, I.iEn_eq, I.cLc_eq, I.cLc2_eq, I.lcT_eq, I.sNil_eq, I.sPass_eq, I.sBreak_eq, I.sCont_eq, I.sBad_eq, I.sRetN_eq, I.sSeq_eq, I.sExpr_eq, I.sRet_eq, I.sSet_eq, I.sIf_eq, I.sAsg_eq, I.sStore_eq, I.sPar_eq, I.sPar3_eq, I.sAug_eq, I.sFor_eq, I.stp_eq, I.fnD_eq, I.gIxD_eq, I.gAdd_eq, I.gSub_eq, I.gMulI_eq, I.gFdiv_eq, I.gMod_eq, I.gPow_eq, I.gLt_eq, I.gLe_eq, I.gGt_eq, I.gGe_eq, I.gNeg_eq, I.gEqD_eq, I.gIs_eq, I.gIsNot_eq, I.bLen_eq, I.bInt_eq, I.bTuple_eq, I.bListD_eq, I.mTup_eq, I.mLst_eq, I.mNew_eq, I.mSeq_eq, I.mTru_eq, I.mCut_eq, I.mPut_eq, I.bAll_eq, I.bAny_eq, I.bSum_eq, I.bSorted_eq, I.bMax_eq, I.bMin_eq, I.kMM_eq, I.bIsi_eq, I.mIt_eq, I.mEnu_eq, I.mZip_eq, I.forL_eq, I.whileL_eq, I.lcL_eq, I.lcO_eq, I.lcB2_eq, I.cDisp_eq, I.gIn_eq, I.mUpd_eq, I.mApp_eq] at *
  exact R.cLc2 h
theorem lcT {f : T → Env → Option Env} {c : Env → M Bool} {a : Env → M T} {ρ ρ' : Env} {t : T} {μ : Store} {P : Option T → Store → Prop} (e : f t ρ = some ρ') (h : OkI (c ρ' μ) (fun k μ1 => (k = true → OkI (a ρ' μ1) (fun y μ2 => P (some y) μ2) (fun _ _ => False)) ∧ (k = false → P none μ1)) (fun _ _ => False)) : OkI (I.lcT f c a ρ t μ) P E := by
  simp only [OkI_eq, I.cVar_eq, I.cK_eq, I.c1_eq, I.c2_eq, I.cN_eq, I.aNil_eq, I.aCons_eq, I.aStar_eq, I.cTest_eq, I.cTru_eq, I.cAnd_eq, I.cOr_eq, I.cNot_eq, I.cYes_eq, I.cIf_eq, I.cAndT_eq, I.cOrT_eq, I.cNotT_eq, I.cChain_eq, I.cCall_eq, I.cSlice_eq, I.oNone_eq, I.oSome_eq, I.cKw_eq, I.cMeth_eq, I.cRgL1_eq, I.cRgL2_eq, I.iSeq_eq, I.iRg1_eq, I.iRg2_eq, I.iZp_eq, I.iEn_eq, I.cLc_eq, I.cLc2_eq, I.lcT_eq, I.sNil_eq, I.sPass_eq, I.sBreak_eq, I.sCont_eq, I.sBad_eq, I.sRetN_eq, I.sSeq_eq, I.sExpr_eq, I.sRet_eq, I.sSet_eq, I.sIf_eq, I.sAsg_eq, I.sStore_eq, I.sPar_eq, I.sPar3_eq, I.sAug_eq, I.sFor_eq, I.stp_eq, I.fnD_eq, I.gIxD_eq, I.gAdd_eq, I.gSub_eq, I.gMulI_eq, I.gFdiv_eq, I.gMod_eq, I.gPow_eq, I.gLt_eq, I.gLe_eq, I.gGt_eq, I.gGe_eq, I.gNeg_eq, I.gEqD_eq, I.gIs_eq, I.gIsNot_eq, I.bLen_eq, I.bInt_eq, I.bTuple_eq, I.bListD_eq, I.mTup_eq, I.mLst_eq, I.mNew_eq, I.mSeq_eq, I.mTru_eq, I.mCut_eq, I.mPut_eq, I.bAll_eq, I.bAny_eq, I.bSum_eq, I.bSorted_eq, I.bMax_eq, I.bMin_eq, I.kMM_eq, I.bIsi_eq, I.mIt_eq, I.mEnu_eq, I.mZip_eq, I.forL_eq, I.whileL_eq, I.lcL_eq, I.lcO_eq, I.lcB2_eq, I.cDisp_eq, I.gIn_eq, I.mUpd_eq, I.mApp_eq] at *
  exact R.lcT e h
theorem sNil (h : Q (.nx ρ) μ) : OkI (I.sNil ρ μ) Q E := by
  simp only [OkI_eq, I.cVar_eq, I.cK_eq, I.c1_eq, I.c2_eq, I.cN_eq, I.aNil_eq, I.aCons_eq, I.aStar_eq, I.cTest_eq, I.cTru_eq, I.cAnd_eq, I.cOr_eq, I.cNot_eq, I.cYes_eq, I.cIf_eq, I.cAndT_eq, I.cOrT_eq, I.cNotT_eq, I.cChain_eq, I.cCall_eq, I.cSlice_eq, I.oNone_eq, I.oSome_eq, I.cKw_eq, I.cMeth_eq, I.cRgL1_eq, I.cRgL2_eq, I.iSeq_eq, I.iRg1_eq, I.iRg2_eq, I.iZp_eq, I.iEn_eq, I.cLc_eq, I.cLc2_eq, I.lcT_eq, I.sNil_eq, I.sPass_eq, I.sBreak_eq, I.sCont_eq, I.sBad_eq, I.sRetN_eq, I.sSeq_eq, I.sExpr_eq, I.sRet_eq, I.sSet_eq, I.sIf_eq, I.sAsg_eq, I.sStore_eq, I.sPar_eq, I.sPar3_eq, I.sAug_eq, I.sFor_eq, I.stp_eq, I.fnD_eq, I.gIxD_eq, I.gAdd_eq, I.gSub_eq, I.gMulI_eq, I.gFdiv_eq, I.gMod_eq, I.gPow_eq, I.gLt_eq, I.gLe_eq, I.gGt_eq, I.gGe_eq, I.gNeg_eq, I.gEqD_eq, I.gIs_eq, I.gIsNot_eq, I.bLen_eq, I.bInt_eq, I.bTuple_eq, I.bListD_eq, I.mTup_eq, I.mLst_eq, I.mNew_eq, I.mSeq_eq, I.mTru_eq, I.mCut_eq, I.mPut_eq, I.bAll_eq, I.bAny_eq, I.bSum_eq, I.bSorted_eq, I.bMax_eq, I.bMin_eq, I.kMM_eq, I.bIsi_eq, I.mIt_eq, I.mEnu_eq, I.mZip_eq, I.forL_eq, I.whileL_eq, I.lcL_eq, I.lcO_eq, I.lcB2_eq, I.cDisp_eq, I.gIn_eq, I.mUpd_eq, I.mApp_eq] at *
  exact R.sNil h
theorem sPass (h : Q (.nx ρ) μ) : OkI (I.sPass ρ μ) Q E := by
  simp only [OkI_eq, I.cVar_eq, I.cK_eq, I.c1_eq, I.c2_eq, I.cN_eq, I.aNil_eq, I.aCons_eq, I.aStar_eq, I.cTest_eq, I.cTru_eq, I.cAnd_eq, I.cOr_eq, I.cNot_eq, I.cYes_eq, I.cIf_eq, I.cAndT_eq, I.cOrT_eq, I.cNotT_eq, I.cChain_eq, I.cCall_eq, I.cSlice_eq, I.oNone_eq, I.oSome_eq, I.cKw_eq, I.cMeth_eq, I.cRgL1_eq, I.cRgL2_eq, I.iSeq_eq, I.iRg1_eq, I.iRg2_eq, I.iZp_eq, I.iEn_eq, I.cLc_eq, I.cLc2_eq, I.lcT_eq, I.sNil_eq, I.sPass_eq, I.sBreak_eq, I.sCont_eq, I.sBad_eq, I.sRetN_eq, I.sSeq_eq, I.sExpr_eq, I.sRet_eq, I.sSet_eq, I.sIf_eq, I.sAsg_eq, I.sStore_eq, I.sPar_eq, I.sPar3_eq, I.sAug_eq, I.sFor_eq, I.stp_eq, I.fnD_eq, I.gIxD_eq, I.gAdd_eq, I.gSub_eq, I.gMulI_eq, I.gFdiv_eq, I.gMod_eq, I.gPow_eq, I.gLt_eq, I.gLe_eq, I.gGt_eq, I.gGe_eq, I.gNeg_eq, I.gEqD_eq, I.gIs_eq, I.gIsNot_eq, I.bLen_eq, I.bInt_eq, I.bTuple_eq, I.bListD_eq, I.mTup_eq, I.mLst_eq, I.mNew_eq, I.mSeq_eq, I.mTru_eq, I.mCut_eq, I.mPut_eq, I.bAll_eq, I.bAny_eq, I.bSum_eq, I.bSorted_eq, I.bMax_eq, I.bMin_eq, I.kMM_eq, I.bIsi_eq, I.mIt_eq, I.mEnu_eq, I.mZip_eq, I.forL_eq, I.whileL_eq, I.lcL_eq, I.lcO_eq, I.lcB2_eq, I.cDisp_eq, I.gIn_eq, I.mUpd_eq, I.mApp_eq] at *
  exact R.sPass h
theorem sBreak (h : Q (.bk ρ) μ) : OkI (I.sBreak ρ μ) Q E := by
  simp only [OkI_eq, I.cVar_eq, I.cK_eq, I.c1_eq, I.c2_eq, I.cN_eq, I.aNil_eq, I.aCons_eq, I.aStar_eq, I.cTest_eq, I.cTru_eq, I.cAnd_eq, I.cOr_eq, I.cNot_eq, I.cYes_eq, I.cIf_eq, I.cAndT_eq, I.cOrT_eq, I.cNotT_eq, I.cChain_eq, I.cCall_eq, I.cSlice_eq, I.oNone_eq, I.oSome_eq, I.cKw_eq, I.cMeth_eq, I.cRgL1_eq, I.cRgL2_eq, I.iSeq_eq, I.iRg1_eq, I.iRg2_eq, I.iZp_eq, I.iEn_eq, I.cLc_eq, I.cLc2_eq, I.lcT_eq, I.sNil_eq, I.sPass_eq, I.sBreak_eq, I.sCont_eq, I.sBad_eq, I.sRetN_eq, I.sSeq_eq, I.sExpr_eq, I.sRet_eq, I.sSet_eq, I.sIf_eq, I.sAsg_eq, I.sStore_eq, I.sPar_eq, I.sPar3_eq, I.sAug_eq, I.sFor_eq, I.stp_eq, I.fnD_eq, I.gIxD_eq, I.gAdd_eq, I.gSub_eq, I.gMulI_eq, I.gFdiv_eq, I.gMod_eq, I.gPow_eq, I.gLt_eq, I.gLe_eq, I.gGt_eq, I.gGe_eq, I.gNeg_eq, I.gEqD_eq, I.gIs_eq, I.gIsNot_eq, I.bLen_eq, I.bInt_eq, I.bTuple_eq, I.bListD_eq, I.mTup_eq, I.mLst_eq, I.mNew_eq, I.mSeq_eq, I.mTru_eq, I.mCut_eq, I.mPut_eq, I.bAll_eq, I.bAny_eq, I.bSum_eq, I.bSorted_eq, I.bMax_eq, I.bMin_eq, I.kMM_eq, I.bIsi_eq, I.mIt_eq, I.mEnu_eq, I.mZip_eq, I.forL_eq, I.whileL_eq, I.lcL_eq, I.lcO_eq, I.lcB2_eq, I.cDisp_eq, I.gIn_eq, I.mUpd_eq, I.mApp_eq] at *
  exact R.sBreak h
theorem sCont (h : Q (.ct ρ) μ) : OkI (I.sCont ρ μ) Q E := by
  simp only [OkI_eq, I.cVar_eq, I.cK_eq, I.c1_eq, I.c2_eq, I.cN_eq, I.aNil_eq, I.aCons_eq, I.aStar_eq, I.cTest_eq, I.cTru_eq, I.cAnd_eq, I.cOr_eq, I.cNot_eq, I.cYes_eq, I.cIf_eq, I.cAndT_eq, I.cOrT_eq, I.cNotT_eq, I.cChain_eq, I.cCall_eq, I.cSlice_eq, I.oNone_eq, I.oSome_eq, I.cKw_eq, I.cMeth_eq, I.cRgL1_eq, I.cRgL2_eq, I.iSeq_eq, I.iRg1_eq, I.iRg2_eq, I.iZp_eq, I.iEn_eq, I.cLc_eq, I.cLc2_eq, I.lcT_eq, I.sNil_eq, I.sPass_eq, I.sBreak_eq, I.sCont_eq, I.sBad_eq, I.sRetN_eq, I.sSeq_eq, I.sExpr_eq, I.sRet_eq, I.sSet_eq, I.sIf_eq, I.sAsg_eq, I.sStore_eq, I.sPar_eq, I.sPar3_eq, I.sAug_eq, I.sFor_eq, I.stp_eq, I.fnD_eq, I.gIxD_eq, I.gAdd_eq, I.gSub_eq, I.gMulI_eq, I.gFdiv_eq, I.gMod_eq, I.gPow_eq, I.gLt_eq, I.gLe_eq, I.gGt_eq, I.gGe_eq, I.gNeg_eq, I.gEqD_eq, I.gIs_eq, I.gIsNot_eq, I.bLen_eq, I.bInt_eq, I.bTuple_eq, I.bListD_eq, I.mTup_eq, I.mLst_eq, I.mNew_eq, I.mSeq_eq, I.mTru_eq, I.mCut_eq, I.mPut_eq, I.bAll_eq, I.bAny_eq, I.bSum_eq, I.bSorted_eq, I.bMax_eq, I.bMin_eq, I.kMM_eq, I.bIsi_eq, I.mIt_eq, I.mEnu_eq, I.mZip_eq, I.forL_eq, I.whileL_eq, I.lcL_eq, I.lcO_eq, I.lcB2_eq, I.cDisp_eq, I.gIn_eq, I.mUpd_eq, I.mApp_eq] at *
  exact R.sCont h
theorem sRetN (h : Q (.rt .non) μ) : OkI (I.sRetN ρ μ) Q E := by
  simp only [OkI_eq, I.cVar_eq, I.cK_eq, I.c1_eq, I.c2_eq, I.cN_eq, I.aNil_eq, I.aCons_eq, I.aStar_eq, I.cTest_eq, I.cTru_eq, I.cAnd_eq, I.cOr_eq, I.cNot_eq, I.cYes_eq, I.cIf_eq, I.cAndT_eq, I.cOrT_eq, I.cNotT_eq, I.cChain_eq, I.cCall_eq, I.cSlice_eq, I.oNone_eq, I.oSome_eq, I.cKw_eq, I.cMeth_eq, I.cRgL1_eq, I.cRgL2_eq, I.iSeq_eq, I.iRg1_eq, I.iRg2_eq, I.iZp_eq, I.iEn_eq, I.cLc_eq, I.cLc2_eq, I.lcT_eq, I.sNil_eq, I.sPass_eq, I.sBreak_eq, I.sCont_eq, I.sBad_eq, I.sRetN_eq, I.sSeq_eq, I.sExpr_eq, I.sRet_eq, I.sSet_eq, I.sIf_eq, I.sAsg_eq, I.sStore_eq, I.sPar_eq, I.sPar3_eq, I.sAug_eq, I.sFor_eq, I.stp_eq, I.fnD_eq, I.gIxD_eq, I.gAdd_eq, I.gSub_eq, I.gMulI_eq, I.gFdiv_eq, I.gMod_eq, I.gPow_eq, I.gLt_eq, I.gLe_eq, I.gGt_eq, I.gGe_eq, I.gNeg_eq, I.gEqD_eq, I.gIs_eq, I.gIsNot_eq, I.bLen_eq, I.bInt_eq, I.bTuple_eq, I.bListD_eq, I.mTup_eq, I.mLst_eq, I.mNew_eq, I.mSeq_eq, I.mTru_eq, I.mCut_eq, I.mPut_eq, I.bAll_eq, I.bAny_eq, I.bSum_eq, I.bSorted_eq, I.bMax_eq, I.bMin_eq, I.kMM_eq, I.bIsi_eq, I.mIt_eq, I.mEnu_eq, I.mZip_eq, I.forL_eq, I.whileL_eq, I.lcL_eq, I.lcO_eq, I.lcB2_eq, I.cDisp_eq, I.gIn_eq, I.mUpd_eq, I.mApp_eq] at *
  exact R.sRetN h
theorem sSeq (h : OkI (s ρ μ) (seqQ s' Q E) E) : OkI (I.sSeq s s' ρ μ) Q E := by
  simp only [OkI_eq, I.cVar_eq, I.cK_eq, I.c1_eq, I.c2_eq, I.cN_eq, I.aNil_eq, I.aCons_eq, I.aStar_eq, I.cTest_eq, I.cTru_eq, I.cAnd_eq, I.cOr_eq, I.cNot_eq, I.cYes_eq, I.cIf_eq, I.cAndT_eq, I.cOrT_eq, I.cNotT_eq, I.cChain_eq, I.cCall_eq, I.cSlice_eq, I.oNone_eq, I.oSome_eq, I.cKw_eq, I.cMeth_eq, I.cRgL1_eq, I.cRgL2_eq, I.iSeq_eq, I.iRg1_eq, I.iRg2_eq, I.iZp_eq, I.iEn_eq, I.cLc_eq, I.cLc2_eq, I.lcT_eq, I.sNil_eq, I.sPass_eq, I.sBreak_eq, I.sCont_eq, I.sBad_eq, I.sRetN_eq, I.sSeq_eq, I.sExpr_eq, I.sRet_eq, I.sSet_eq, I.sIf_eq, I.sAsg_eq, I.sStore_eq, I.sPar_eq, I.sPar3_eq, I.sAug_eq, I.sFor_eq, I.stp_eq, I.fnD_eq, I.gIxD_eq, I.gAdd_eq, I.gSub_eq, I.gMulI_eq, I.gFdiv_eq, I.gMod_eq, I.gPow_eq, I.gLt_eq, I.gLe_eq, I.gGt_eq, I.gGe_eq, I.gNeg_eq, I.gEqD_eq, I.gIs_eq, I.gIsNot_eq, I.bLen_eq, I.bInt_eq, I.bTuple_eq, I.bListD_eq, I.mTup_eq, I.mLst_eq, I.mNew_eq, I.mSeq_eq, I.mTru_eq, I.mCut_eq, I.mPut_eq, I.bAll_eq, I.bAny_eq, I.bSum_eq, I.bSorted_eq, I.bMax_eq, I.bMin_eq, I.kMM_eq, I.bIsi_eq, I.mIt_eq, I.mEnu_eq, I.mZip_eq, I.forL_eq, I.whileL_eq, I.lcL_eq, I.lcO_eq, I.lcB2_eq, I.cDisp_eq, I.gIn_eq, I.mUpd_eq, I.mApp_eq] at *
  exact R.sSeq h
theorem qnx (h : OkI (s' ρ μ) Q E) : seqQ s' Q E (.nx ρ) μ := by
  simp only [OkI_eq, I.cVar_eq, I.cK_eq, I.c1_eq, I.c2_eq, I.cN_eq, I.aNil_eq, I.aCons_eq, I.aStar_eq, I.cTest_eq, I.cTru_eq, I.cAnd_eq, I.cOr_eq, I.cNot_eq, I.cYes_eq, I.cIf_eq, I.cAndT_eq, I.cOrT_eq, I.cNotT_eq, I.cChain_eq, I.cCall_eq, I.cSlice_eq, I.oNone_eq, I.oSome_eq, I.cKw_eq, I.cMeth_eq, I.cRgL1_eq, I.cRgL2_eq, I.iSeq_eq, I.iRg1_eq, I.iRg2_eq, I.iZp_eq, I.iEn_eq, I.cLc_eq, I.cLc2_eq, I.lcT_eq, I.sNil_eq, I.sPass_eq, I.sBreak_eq, I.sCont_eq, I.sBad_eq, I.sRetN_eq, I.sSeq_eq, I.sExpr_eq, I.sRet_eq, I.sSet_eq, I.sIf_eq, I.sAsg_eq, I.sStore_eq, I.sPar_eq, I.sPar3_eq, I.sAug_eq, I.sFor_eq, I.stp_eq, I.fnD_eq, I.gIxD_eq, I.gAdd_eq, I.gSub_eq, I.gMulI_eq, I.gFdiv_eq, I.gMod_eq, I.gPow_eq, I.gLt_eq, I.gLe_eq, I.gGt_eq, I.gGe_eq, I.gNeg_eq, I.gEqD_eq, I.gIs_eq, I.gIsNot_eq, I.bLen_eq, I.bInt_eq, I.bTuple_eq, I.bListD_eq, I.mTup_eq, I.mLst_eq, I.mNew_eq, I.mSeq_eq, I.mTru_eq, I.mCut_eq, I.mPut_eq, I.bAll_eq, I.bAny_eq, I.bSum_eq, I.bSorted_eq, I.bMax_eq, I.bMin_eq, I.kMM_eq, I.bIsi_eq, I.mIt_eq, I.mEnu_eq, I.mZip_eq, I.forL_eq, I.whileL_eq, I.lcL_eq, I.lcO_eq, I.lcB2_eq, I.cDisp_eq, I.gIn_eq, I.mUpd_eq, I.mApp_eq] at *
  exact R.qnx h
theorem sExpr (h : OkI (a ρ μ) (fun _ μ' => Q (.nx ρ) μ') (fun e μ' => Q (.xx ρ e) μ')) : OkI (I.sExpr a ρ μ) Q E := by
  simp only [OkI_eq, I.cVar_eq, I.cK_eq, I.c1_eq, I.c2_eq, I.cN_eq, I.aNil_eq, I.aCons_eq, I.aStar_eq, I.cTest_eq, I.cTru_eq, I.cAnd_eq, I.cOr_eq, I.cNot_eq, I.cYes_eq, I.cIf_eq, I.cAndT_eq, I.cOrT_eq, I.cNotT_eq, I.cChain_eq, I.cCall_eq, I.cSlice_eq, I.oNone_eq, I.oSome_eq, I.cKw_eq, I.cMeth_eq, I.cRgL1_eq, I.cRgL2_eq, I.iSeq_eq, I.iRg1_eq, I.iRg2_eq, I.iZp_eq, I.iEn_eq, I.cLc_eq, I.cLc2_eq, I.lcT_eq, I.sNil_eq, I.sPass_eq, I.sBreak_eq, I.sCont_eq, I.sBad_eq, I.sRetN_eq, I.sSeq_eq, I.sExpr_eq, I.sRet_eq, I.sSet_eq, I.sIf_eq, I.sAsg_eq, I.sStore_eq, I.sPar_eq, I.sPar3_eq, I.sAug_eq, I.sFor_eq, I.stp_eq, I.fnD_eq, I.gIxD_eq, I.gAdd_eq, I.gSub_eq, I.gMulI_eq, I.gFdiv_eq, I.gMod_eq, I.gPow_eq, I.gLt_eq, I.gLe_eq, I.gGt_eq, I.gGe_eq, I.gNeg_eq, I.gEqD_eq, I.gIs_eq, I.gIsNot_eq, I.bLen_eq, I.bInt_eq, I.bTuple_eq, I.bListD_eq, I.mTup_eq, I.mLst_eq, I.mNew_eq, I.mSeq_eq, I.mTru_eq, I.mCut_eq, I.mPut_eq, I.bAll_eq, I.bAny_eq, I.bSum_eq, I.bSorted_eq, I.bMax_eq, I.bMin_eq, I.kMM_eq, I.bIsi_eq, I.mIt_eq, I.mEnu_eq, I.mZip_eq, I.forL_eq, I.whileL_eq, I.lcL_eq, I.lcO_eq, I.lcB2_eq, I.cDisp_eq, I.gIn_eq, I.mUpd_eq, I.mApp_eq] at *
  exact R.sExpr h
theorem sRet (h : OkI (a ρ μ) (fun t μ' => Q (.rt t) μ') (fun e μ' => Q (.xx ρ e) μ')) : OkI (I.sRet a ρ μ) Q E := by
  simp only [OkI_eq, I.cVar_eq, I.cK_eq, I.c1_eq, I.c2_eq, I.cN_eq, I.aNil_eq, I.aCons_eq, I.aStar_eq, I.cTest_eq, I.cTru_eq, I.cAnd_eq, I.cOr_eq, I.cNot_eq, I.cYes_eq, I.cIf_eq, I.cAndT_eq, I.cOrT_eq, I.cNotT_eq, I.cChain_eq, I.cCall_eq, I.cSlice_eq, I.oNone_eq, I.oSome_eq, I.cKw_eq, I.cMeth_eq, I.cRgL1_eq, I.cRgL2_eq, I.iSeq_eq, I.iRg1_eq, I.iRg2_eq, I.iZp_eq, I.iEn_eq, I.cLc_eq, I.cLc2_eq, I.lcT_eq, I.sNil_eq, I.sPass_eq, I.sBreak_eq, I.sCont_eq, I.sBad_eq, I.sRetN_eq, I.sSeq_eq, I.sExpr_eq, I.sRet_eq, I.sSet_eq, I.sIf_eq, I.sAsg_eq, I.sStore_eq, I.sPar_eq, I.sPar3_eq, I.sAug_eq, I.sFor_eq, I.stp_eq, I.fnD_eq, I.gIxD_eq, I.gAdd_eq, I.gSub_eq, I.gMulI_eq, I.gFdiv_eq, I.gMod_eq, I.gPow_eq, I.gLt_eq, I.gLe_eq, I.gGt_eq, I.gGe_eq, I.gNeg_eq, I.gEqD_eq, I.gIs_eq, I.gIsNot_eq, I.bLen_eq, I.bInt_eq, I.bTuple_eq, I.bListD_eq, I.mTup_eq, I.mLst_eq, I.mNew_eq, I.mSeq_eq, I.mTru_eq, I.mCut_eq, I.mPut_eq, I.bAll_eq, I.bAny_eq, I.bSum_eq, I.bSorted_eq, I.bMax_eq, I.bMin_eq, I.kMM_eq, I.bIsi_eq, I.mIt_eq, I.mEnu_eq, I.mZip_eq, I.forL_eq, I.whileL_eq, I.lcL_eq, I.lcO_eq, I.lcB2_eq, I.cDisp_eq, I.gIn_eq, I.mUpd_eq, I.mApp_eq] at *
  exact R.sRet h
theorem sSet {i : Nat} (h : OkI (a ρ μ) (fun t μ' => Q (.nx (ρ.set i (some t))) μ') (fun e μ' => Q (.xx ρ e) μ')) : OkI (I.sSet i a ρ μ) Q E := by
  simp only [OkI_eq, I.cVar_eq, I.cK_eq, I.c1_eq, I.c2_eq, I.cN_eq, I.aNil_eq, I.aCons_eq, I.aStar_eq, I.cTest_eq, I.cTru_eq, I.cAnd_eq, I.cOr_eq, I.cNot_eq, I.cYes_eq, I.cIf_eq, I.cAndT_eq, I.cOrT_eq, I.cNotT_eq, I.cChain_eq, I.cCall_eq, I.cSlice_eq, I.oNone_eq, I.oSome_eq, I.cKw_eq, I.cMeth_eq, I.cRgL1_eq, I.cRgL2_eq, I.iSeq_eq, I.iRg1_eq, I.iRg2_eq, I.iZp_eq, I.iEn_eq, I.cLc_eq, I.cLc2_eq, I.lcT_eq, I.sNil_eq, I.sPass_eq, I.sBreak_eq, I.sCont_eq, I.sBad_eq, I.sRetN_eq, I.sSeq_eq, I.sExpr_eq, I.sRet_eq, I.sSet_eq, I.sIf_eq, I.sAsg_eq, I.sStore_eq, I.sPar_eq, I.sPar3_eq, I.sAug_eq, I.sFor_eq, I.stp_eq, I.fnD_eq, I.gIxD_eq, I.gAdd_eq, I.gSub_eq, I.gMulI_eq, I.gFdiv_eq, I.gMod_eq, I.gPow_eq, I.gLt_eq, I.gLe_eq, I.gGt_eq, I.gGe_eq, I.gNeg_eq, I.gEqD_eq, I.gIs_eq, I.gIsNot_eq, I.bLen_eq, I.bInt_eq, I.bTuple_eq, I.bListD_eq, I.mTup_eq, I.mLst_eq, I.mNew_eq, I.mSeq_eq, I.mTru_eq, I.mCut_eq, I.mPut_eq, I.bAll_eq, I.bAny_eq, I.bSum_eq, I.bSorted_eq, I.bMax_eq, I.bMin_eq, I.kMM_eq, I.bIsi_eq, I.mIt_eq, I.mEnu_eq, I.mZip_eq, I.forL_eq, I.whileL_eq, I.lcL_eq, I.lcO_eq, I.lcB2_eq, I.cDisp_eq, I.gIn_eq, I.mUpd_eq, I.mApp_eq] at *
  exact R.sSet h
theorem sIf {x : Env → M Bool} (h : OkI (x ρ μ) (fun k μ' => (k = true → OkI (s ρ μ') Q E) ∧ (k = false → OkI (s' ρ μ') Q E)) (fun e μ' => Q (.xx ρ e) μ')) : OkI (I.sIf x s s' ρ μ) Q E := by
  simp only [OkI_eq, I.cVar_eq, I.cK_eq, I.c1_eq, I.c2_eq, I.cN_eq, I.aNil_eq, I.aCons_eq, I.aStar_eq, I.cTest_eq, I.cTru_eq, I.cAnd_eq, I.cOr_eq, I.cNot_eq, I.cYes_eq, I.cIf_eq, I.cAndT_eq, I.cOrT_eq, I.cNotT_eq, I.cChain_eq, I.cCall_eq, I.cSlice_eq, I.oNone_eq, I.oSome_eq, I.cKw_eq, I.cMeth_eq, I.cRgL1_eq, I.cRgL2_eq, I.iSeq_eq, I.iRg1_eq, I.iRg2_eq, I.iZp_eq, I.iEn_eq, I.cLc_eq, I.cLc2_eq, I.lcT_eq, I.sNil_eq, I.sPass_eq, I.sBreak_eq, I.sCont_eq, I.sBad_eq, I.sRetN_eq, I.sSeq_eq, I.sExpr_eq, I.sRet_eq, I.sSet_eq, I.sIf_eq, I.sAsg_eq, I.sStore_eq, I.sPar_eq, I.sPar3_eq, I.sAug_eq, I.sFor_eq, I.stp_eq, I.fnD_eq, I.gIxD_eq, I.gAdd_eq, I.gSub_eq, I.gMulI_eq, I.gFdiv_eq, I.gMod_eq, I.gPow_eq, I.gLt_eq, I.gLe_eq, I.gGt_eq, I.gGe_eq, I.gNeg_eq, I.gEqD_eq, I.gIs_eq, I.gIsNot_eq, I.bLen_eq, I.bInt_eq, I.bTuple_eq, I.bListD_eq, I.mTup_eq, I.mLst_eq, I.mNew_eq, I.mSeq_eq, I.mTru_eq, I.mCut_eq, I.mPut_eq, I.bAll_eq, I.bAny_eq, I.bSum_eq, I.bSorted_eq, I.bMax_eq, I.bMin_eq, I.kMM_eq, I.bIsi_eq, I.mIt_eq, I.mEnu_eq, I.mZip_eq, I.forL_eq, I.whileL_eq, I.lcL_eq, I.lcO_eq, I.lcB2_eq, I.cDisp_eq, I.gIn_eq, I.mUpd_eq, I.mApp_eq] at *
  exact R.sIf h
theorem sAsg {f : T → Env → Option Env} (h : OkI (a ρ μ) (fun t μ' => ∃ ρ', f t ρ = some ρ' ∧ Q (.nx ρ') μ') (fun e μ' => Q (.xx ρ e) μ')) : OkI (I.sAsg a f ρ μ) Q E := by
  simp only [OkI_eq, I.cVar_eq, I.cK_eq, I.c1_eq, I.c2_eq, I.cN_eq, I.aNil_eq, I.aCons_eq, I.aStar_eq, I.cTest_eq, I.cTru_eq, I.cAnd_eq, I.cOr_eq, I.cNot_eq, I.cYes_eq, I.cIf_eq, I.cAndT_eq, I.cOrT_eq, I.cNotT_eq, I.cChain_eq, I.cCall_eq, I.cSlice_eq, I.oNone_eq, I.oSome_eq, I.cKw_eq, I.cMeth_eq, I.cRgL1_eq, I.cRgL2_eq, I.iSeq_eq, I.iRg1_eq, I.iRg2_eq, I.iZp_eq, I.iEn_eq, I.cLc_eq, I.cLc2_eq, I.lcT_eq, I.sNil_eq, I.sPass_eq, I.sBreak_eq, I.sCont_eq, I.sBad_eq, I.sRetN_eq, I.sSeq_eq, I.sExpr_eq, I.sRet_eq, I.sSet_eq, I.sIf_eq, I.sAsg_eq, I.sStore_eq, I.sPar_eq, I.sPar3_eq, I.sAug_eq, I.sFor_eq, I.stp_eq, I.fnD_eq, I.gIxD_eq, I.gAdd_eq, I.gSub_eq, I.gMulI_eq, I.gFdiv_eq, I.gMod_eq, I.gPow_eq, I.gLt_eq, I.gLe_eq, I.gGt_eq, I.gGe_eq, I.gNeg_eq, I.gEqD_eq, I.gIs_eq, I.gIsNot_eq, I.bLen_eq, I.bInt_eq, I.bTuple_eq, I.bListD_eq, I.mTup_eq, I.mLst_eq, I.mNew_eq, I.mSeq_eq, I.mTru_eq, I.mCut_eq, I.mPut_eq, I.bAll_eq, I.bAny_eq, I.bSum_eq, I.bSorted_eq, I.bMax_eq, I.bMin_eq, I.kMM_eq, I.bIsi_eq, I.mIt_eq, I.mEnu_eq, I.mZip_eq, I.forL_eq, I.whileL_eq, I.lcL_eq, I.lcO_eq, I.lcB2_eq, I.cDisp_eq, I.gIn_eq, I.mUpd_eq, I.mApp_eq] at *
  exact R.sAsg h
theorem sStore {i : Env → M T} (h : OkI (a ρ μ) (fun v μ1 => OkI (b ρ μ1) (fun o μ2 => OkI (i ρ μ2) (fun k μ3 => OkI (I.mPut o k v μ3) (fun _ μ4 => Q (.nx ρ) μ4) (fun e μ' => Q (.xx ρ e) μ')) (fun e μ' => Q (.xx ρ e) μ')) (fun e μ' => Q (.xx ρ e) μ')) (fun e μ' => Q (.xx ρ e) μ')) : OkI (I.sStore a b i ρ μ) Q E := by
  simp only [OkI_eq, I.cVar_eq, I.cK_eq, I.c1_eq, I.c2_eq, I.cN_eq, I.aNil_eq, I.aCons_eq, I.aStar_eq, I.cTest_eq, I.cTru_eq, I.cAnd_eq, I.cOr_eq, I.cNot_eq, I.cYes_eq, I.cIf_eq, I.cAndT_eq, I.cOrT_eq, I.cNotT_eq, I.cChain_eq, I.cCall_eq, I.cSlice_eq, I.oNone_eq, I.oSome_eq, I.cKw_eq, I.cMeth_eq, I.cRgL1_eq, I.cRgL2_eq, I.iSeq_eq, I.iRg1_eq, I.iRg2_eq, I.iZp_eq, I.iEn_eq, I.cLc_eq, I.cLc2_eq, I.lcT_eq, I.sNil_eq, I.sPass_eq, I.sBreak_eq, I.sCont_eq, I.sBad_eq, I.sRetN_eq, I.sSeq_eq, I.sExpr_eq, I.sRet_eq, I.sSet_eq, I.sIf_eq, I.sAsg_eq, I.sStore_eq, I.sPar_eq, I.sPar3_eq, I.sAug_eq, I.sFor_eq, I.stp_eq, I.fnD_eq, I.gIxD_eq, I.gAdd_eq, I.gSub_eq, I.gMulI_eq, I.gFdiv_eq, I.gMod_eq, I.gPow_eq, I.gLt_eq, I.gLe_eq, I.gGt_eq, I.gGe_eq, I.gNeg_eq, I.gEqD_eq, I.gIs_eq, I.gIsNot_eq, I.bLen_eq, I.bInt_eq, I.bTuple_eq, I.bListD_eq, I.mTup_eq, I.mLst_eq, I.mNew_eq, I.mSeq_eq, I.mTru_eq, I.mCut_eq, I.mPut_eq, I.bAll_eq, I.bAny_eq, I.bSum_eq, I.bSorted_eq, I.bMax_eq, I.bMin_eq, I.kMM_eq, I.bIsi_eq, I.mIt_eq, I.mEnu_eq, I.mZip_eq, I.forL_eq, I.whileL_eq, I.lcL_eq, I.lcO_eq, I.lcB2_eq, I.cDisp_eq, I.gIn_eq, I.mUpd_eq, I.mApp_eq] at *
  exact R.sStore h
theorem sPar {i j : Nat} (h : OkI (a ρ μ) (fun x μ1 => OkI (b ρ μ1) (fun y μ2 => Q (.nx ((ρ.set i (some x)).set j (some y))) μ2) (fun e μ' => Q (.xx ρ e) μ')) (fun e μ' => Q (.xx ρ e) μ')) : OkI (I.sPar i j a b ρ μ) Q E := by
  simp only [OkI_eq, I.cVar_eq, I.cK_eq, I.c1_eq, I.c2_eq, I.cN_eq, I.aNil_eq, I.aCons_eq, I.aStar_eq, I.cTest_eq, I.cTru_eq, I.cAnd_eq, I.cOr_eq, I.cNot_eq, I.cYes_eq, I.cIf_eq, I.cAndT_eq, I.cOrT_eq, I.cNotT_eq, I.cChain_eq, I.cCall_eq, I.cSlice_eq, I.oNone_eq, I.oSome_eq, I.cKw_eq, I.cMeth_eq, I.cRgL1_eq, I.cRgL2_eq, I.iSeq_eq, I.iRg1_eq, I.iRg2_eq, I.iZp_eq, I.iEn_eq, I.cLc_eq, I.cLc2_eq, I.lcT_eq, I.sNil_eq, I.sPass_eq, I.sBreak_eq, I.sCont_eq, I.sBad_eq, I.sRetN_eq, I.sSeq_eq, I.sExpr_eq, I.sRet_eq, I.sSet_eq, I.sIf_eq, I.sAsg_eq, I.sStore_eq, I.sPar_eq, I.sPar3_eq, I.sAug_eq, I.sFor_eq, I.stp_eq, I.fnD_eq, I.gIxD_eq, I.gAdd_eq, I.gSub_eq, I.gMulI_eq, I.gFdiv_eq, I.gMod_eq, I.gPow_eq, I.gLt_eq, I.gLe_eq, I.gGt_eq, I.gGe_eq, I.gNeg_eq, I.gEqD_eq, I.gIs_eq, I.gIsNot_eq, I.bLen_eq, I.bInt_eq, I.bTuple_eq, I.bListD_eq, I.mTup_eq, I.mLst_eq, I.mNew_eq, I.mSeq_eq, I.mTru_eq, I.mCut_eq, I.mPut_eq, I.bAll_eq, I.bAny_eq, I.bSum_eq, I.bSorted_eq, I.bMax_eq, I.bMin_eq, I.kMM_eq, I.bIsi_eq, I.mIt_eq, I.mEnu_eq, I.mZip_eq, I.forL_eq, I.whileL_eq, I.lcL_eq, I.lcO_eq, I.lcB2_eq, I.cDisp_eq, I.gIn_eq, I.mUpd_eq, I.mApp_eq] at *
  exact R.sPar h
theorem sFor {it : Env → M (List T)} {f : T → Env → Option Env} (h : OkI (it ρ μ) (fun ts μ' => OkI (I.forL ts (I.stp f s) ρ μ') Q E) (fun e μ' => Q (.xx ρ e) μ')) : OkI (I.sFor it f s ρ μ) Q E := by
  simp only [OkI_eq, I.cVar_eq, I.cK_eq, I.c1_eq, I.c2_eq, I.cN_eq, I.aNil_eq, I.aCons_eq, I.aStar_eq, I.cTest_eq, I.cTru_eq, I.cAnd_eq, I.cOr_eq, I.cNot_eq, I.cYes_eq, I.cIf_eq, I.cAndT_eq, I.cOrT_eq, I.cNotT_eq, I.cChain_eq, I.cCall_eq, I.cSlice_eq, I.oNone_eq, I.oSome_eq, I.cKw_eq, I.cMeth_eq, I.cRgL1_eq, I.cRgL2_eq, I.iSeq_eq, I.iRg1_eq, I.iRg2_eq, I.iZp_eq, I.iEn_eq, I.cLc_eq, I.cLc2_eq, I.lcT_eq, I.sNil_eq, I.sPass_eq, I.sBreak_eq, I.sCont_eq, I.sBad_eq, I.sRetN_eq, I.sSeq_eq, I.sExpr_eq, I.sRet_eq, I.sSet_eq, I.sIf_eq, I.sAsg_eq, I.sStore_eq, I.sPar_eq, I.sPar3_eq, I.sAug_eq, I.sFor_eq, I.stp_eq, I.fnD_eq, I.gIxD_eq, I.gAdd_eq, I.gSub_eq, I.gMulI_eq, I.gFdiv_eq, I.gMod_eq, I.gPow_eq, I.gLt_eq, I.gLe_eq, I.gGt_eq, I.gGe_eq, I.gNeg_eq, I.gEqD_eq, I.gIs_eq, I.gIsNot_eq, I.bLen_eq, I.bInt_eq, I.bTuple_eq, I.bListD_eq, I.mTup_eq, I.mLst_eq, I.mNew_eq, I.mSeq_eq, I.mTru_eq, I.mCut_eq, I.mPut_eq, I.bAll_eq, I.bAny_eq, I.bSum_eq, I.bSorted_eq, I.bMax_eq, I.bMin_eq, I.kMM_eq, I.bIsi_eq, I.mIt_eq, I.mEnu_eq, I.mZip_eq, I.forL_eq, I.whileL_eq, I.lcL_eq, I.lcO_eq, I.lcB2_eq, I.cDisp_eq, I.gIn_eq, I.mUpd_eq, I.mApp_eq] at *
  exact R.sFor h
theorem stp {f : T → Env → Option Env} {t : T} {ρ' : Env} (e : f t ρ = some ρ') (h : OkI (s ρ' μ) Q E) : OkI (I.stp f s t ρ μ) Q E := by
  simp only [OkI_eq, I.cVar_eq, I.cK_eq, I.c1_eq, I.c2_eq, I.cN_eq, I.aNil_eq, I.aCons_eq, I.aStar_eq, I.cTest_eq, I.cTru_eq, I.cAnd_eq, I.cOr_eq, I.cNot_eq, I.cYes_eq, I.cIf_eq, I.cAndT_eq, I.cOrT_eq, I.cNotT_eq, I.cChain_eq, I.cCall_eq, I.cSlice_eq, I.oNone_eq, I.oSome_eq, I.cKw_eq, I.cMeth_eq, I.cRgL1_eq, I.cRgL2_eq, I.iSeq_eq, I.iRg1_eq, I.iRg2_eq, I.iZp_eq, I.iEn_eq, I.cLc_eq, I.cLc2_eq, I.lcT_eq, I.sNil_eq, I.sPass_eq, I.sBreak_eq, I.sCont_eq, I.sBad_eq, I.sRetN_eq, I.sSeq_eq, I.sExpr_eq, I.sRet_eq, I.sSet_eq, I.sIf_eq, I.sAsg_eq, I.sStore_eq, I.sPar_eq, I.sPar3_eq, I.sAug_eq, I.sFor_eq, I.stp_eq, I.fnD_eq, I.gIxD_eq, I.gAdd_eq, I.gSub_eq, I.gMulI_eq, I.gFdiv_eq, I.gMod_eq, I.gPow_eq, I.gLt_eq, I.gLe_eq, I.gGt_eq, I.gGe_eq, I.gNeg_eq, I.gEqD_eq, I.gIs_eq, I.gIsNot_eq, I.bLen_eq, I.bInt_eq, I.bTuple_eq, I.bListD_eq, I.mTup_eq, I.mLst_eq, I.mNew_eq, I.mSeq_eq, I.mTru_eq, I.mCut_eq, I.mPut_eq, I.bAll_eq, I.bAny_eq, I.bSum_eq, I.bSorted_eq, I.bMax_eq, I.bMin_eq, I.kMM_eq, I.bIsi_eq, I.mIt_eq, I.mEnu_eq, I.mZip_eq, I.forL_eq, I.whileL_eq, I.lcL_eq, I.lcO_eq, I.lcB2_eq, I.cDisp_eq, I.gIn_eq, I.mUpd_eq, I.mApp_eq] at *
  exact R.stp e h
theorem fnD {N : Nat} {ts : List T} (h : OkI (s (ts.map some ++ List.replicate (N - ts.length) none) μ) (fnQ P E) (fun _ _ => False)) : OkI (I.fnD N s ts μ) P E := by
  simp only [OkI_eq, I.cVar_eq, I.cK_eq, I.c1_eq, I.c2_eq, I.cN_eq, I.aNil_eq, I.aCons_eq, I.aStar_eq, I.cTest_eq, I.cTru_eq, I.cAnd_eq, I.cOr_eq, I.cNot_eq, I.cYes_eq, I.cIf_eq, I.cAndT_eq, I.cOrT_eq, I.cNotT_eq, I.cChain_eq, I.cCall_eq, I.cSlice_eq, I.oNone_eq, I.oSome_eq, I.cKw_eq, I.cMeth_eq, I.cRgL1_eq, I.cRgL2_eq, I.iSeq_eq, I.iRg1_eq, I.iRg2_eq, I.iZp_eq, I.iEn_eq, I.cLc_eq, I.cLc2_eq, I.lcT_eq, I.sNil_eq, I.sPass_eq, I.sBreak_eq, I.sCont_eq, I.sBad_eq, I.sRetN_eq, I.sSeq_eq, I.sExpr_eq, I.sRet_eq, I.sSet_eq, I.sIf_eq, I.sAsg_eq, I.sStore_eq, I.sPar_eq, I.sPar3_eq, I.sAug_eq, I.sFor_eq, I.stp_eq, I.fnD_eq, I.gIxD_eq, I.gAdd_eq, I.gSub_eq, I.gMulI_eq, I.gFdiv_eq, I.gMod_eq, I.gPow_eq, I.gLt_eq, I.gLe_eq, I.gGt_eq, I.gGe_eq, I.gNeg_eq, I.gEqD_eq, I.gIs_eq, I.gIsNot_eq, I.bLen_eq, I.bInt_eq, I.bTuple_eq, I.bListD_eq, I.mTup_eq, I.mLst_eq, I.mNew_eq, I.mSeq_eq, I.mTru_eq, I.mCut_eq, I.mPut_eq, I.bAll_eq, I.bAny_eq, I.bSum_eq, I.bSorted_eq, I.bMax_eq, I.bMin_eq, I.kMM_eq, I.bIsi_eq, I.mIt_eq, I.mEnu_eq, I.mZip_eq, I.forL_eq, I.whileL_eq, I.lcL_eq, I.lcO_eq, I.lcB2_eq, I.cDisp_eq, I.gIn_eq, I.mUpd_eq, I.mApp_eq] at *
  exact R.fnD h
theorem gIx0 {a : T} {l : List T} (h : P a μ) : OkI (I.gIxD (.lst (a :: l)) (.int 0) μ) P E := by
  simp only [OkI_eq, I.cVar_eq, I.cK_eq, I.c1_eq, I.c2_eq, I.cN_eq, I.aNil_eq, I.aCons_eq, I.aStar_eq, I.cTest_eq, I.cTru_eq, I.cAnd_eq, I.cOr_eq, I.cNot_eq, I.cYes_eq, I.cIf_eq, I.cAndT_eq, I.cOrT_eq, I.cNotT_eq, I.cChain_eq, I.cCall_eq, I.cSlice_eq, I.oNone_eq, I.oSome_eq, I.cKw_eq, I.cMeth_eq, I.cRgL1_eq, I.cRgL2_eq, I.iSeq_eq, I.iRg1_eq, I.iRg2_eq, I.iZp_eq, I.iEn_eq, I.cLc_eq, I.cLc2_eq, I.lcT_eq, I.sNil_eq, I.sPass_eq, I.sBreak_eq, I.sCont_eq, I.sBad_eq, I.sRetN_eq, I.sSeq_eq, I.sExpr_eq, I.sRet_eq, I.sSet_eq, I.sIf_eq, I.sAsg_eq, I.sStore_eq, I.sPar_eq, I.sPar3_eq, I.sAug_eq, I.sFor_eq, I.stp_eq, I.fnD_eq, I.gIxD_eq, I.gAdd_eq, I.gSub_eq, I.gMulI_eq, I.gFdiv_eq, I.gMod_eq, I.gPow_eq, I.gLt_eq, I.gLe_eq, I.gGt_eq, I.gGe_eq, I.gNeg_eq, I.gEqD_eq, I.gIs_eq, I.gIsNot_eq, I.bLen_eq, I.bInt_eq, I.bTuple_eq, I.bListD_eq, I.mTup_eq, I.mLst_eq, I.mNew_eq, I.mSeq_eq, I.mTru_eq, I.mCut_eq, I.mPut_eq, I.bAll_eq, I.bAny_eq, I.bSum_eq, I.bSorted_eq, I.bMax_eq, I.bMin_eq, I.kMM_eq, I.bIsi_eq, I.mIt_eq, I.mEnu_eq, I.mZip_eq, I.forL_eq, I.whileL_eq, I.lcL_eq, I.lcO_eq, I.lcB2_eq, I.cDisp_eq, I.gIn_eq, I.mUpd_eq, I.mApp_eq] at *
  exact R.gIx0 h
theorem gIxO {n : Nat} {ts : List T} {i : Int} {t : T} (hm : μ[n]? = some (some (.lst ts))) (hi : atI ts i = some t) (h : P t μ) : OkI (I.gIxD (.obj n) (.int i) μ) P E := by
  simp only [OkI_eq, I.cVar_eq, I.cK_eq, I.c1_eq, I.c2_eq, I.cN_eq, I.aNil_eq, I.aCons_eq, I.aStar_eq, I.cTest_eq, I.cTru_eq, I.cAnd_eq, I.cOr_eq, I.cNot_eq, I.cYes_eq, I.cIf_eq, I.cAndT_eq, I.cOrT_eq, I.cNotT_eq, I.cChain_eq, I.cCall_eq, I.cSlice_eq, I.oNone_eq, I.oSome_eq, I.cKw_eq, I.cMeth_eq, I.cRgL1_eq, I.cRgL2_eq, I.iSeq_eq, I.iRg1_eq, I.iRg2_eq, I.iZp_eq, I.iEn_eq, I.cLc_eq, I.cLc2_eq, I.lcT_eq, I.sNil_eq, I.sPass_eq, I.sBreak_eq, I.sCont_eq, I.sBad_eq, I.sRetN_eq, I.sSeq_eq, I.sExpr_eq, I.sRet_eq, I.sSet_eq, I.sIf_eq, I.sAsg_eq, I.sStore_eq, I.sPar_eq, I.sPar3_eq, I.sAug_eq, I.sFor_eq, I.stp_eq, I.fnD_eq, I.gIxD_eq, I.gAdd_eq, I.gSub_eq, I.gMulI_eq, I.gFdiv_eq, I.gMod_eq, I.gPow_eq, I.gLt_eq, I.gLe_eq, I.gGt_eq, I.gGe_eq, I.gNeg_eq, I.gEqD_eq, I.gIs_eq, I.gIsNot_eq, I.bLen_eq, I.bInt_eq, I.bTuple_eq, I.bListD_eq, I.mTup_eq, I.mLst_eq, I.mNew_eq, I.mSeq_eq, I.mTru_eq, I.mCut_eq, I.mPut_eq, I.bAll_eq, I.bAny_eq, I.bSum_eq, I.bSorted_eq, I.bMax_eq, I.bMin_eq, I.kMM_eq, I.bIsi_eq, I.mIt_eq, I.mEnu_eq, I.mZip_eq, I.forL_eq, I.whileL_eq, I.lcL_eq, I.lcO_eq, I.lcB2_eq, I.cDisp_eq, I.gIn_eq, I.mUpd_eq, I.mApp_eq] at *
  exact R.gIxO hm hi h
theorem gIxT {ts : List T} {i : Int} {t : T} (hi : atI ts i = some t) (h : P t μ) : OkI (I.gIxD (.tup ts) (.int i) μ) P E := by
  simp only [OkI_eq, I.cVar_eq, I.cK_eq, I.c1_eq, I.c2_eq, I.cN_eq, I.aNil_eq, I.aCons_eq, I.aStar_eq, I.cTest_eq, I.cTru_eq, I.cAnd_eq, I.cOr_eq, I.cNot_eq, I.cYes_eq, I.cIf_eq, I.cAndT_eq, I.cOrT_eq, I.cNotT_eq, I.cChain_eq, I.cCall_eq, I.cSlice_eq, I.oNone_eq, I.oSome_eq, I.cKw_eq, I.cMeth_eq, I.cRgL1_eq, I.cRgL2_eq, I.iSeq_eq, I.iRg1_eq, I.iRg2_eq, I.iZp_eq, I.iEn_eq, I.cLc_eq, I.cLc2_eq, I.lcT_eq, I.sNil_eq, I.sPass_eq, I.sBreak_eq, I.sCont_eq, I.sBad_eq, I.sRetN_eq, I.sSeq_eq, I.sExpr_eq, I.sRet_eq, I.sSet_eq, I.sIf_eq, I.sAsg_eq, I.sStore_eq, I.sPar_eq, I.sPar3_eq, I.sAug_eq, I.sFor_eq, I.stp_eq, I.fnD_eq, I.gIxD_eq, I.gAdd_eq, I.gSub_eq, I.gMulI_eq, I.gFdiv_eq, I.gMod_eq, I.gPow_eq, I.gLt_eq, I.gLe_eq, I.gGt_eq, I.gGe_eq, I.gNeg_eq, I.gEqD_eq, I.gIs_eq, I.gIsNot_eq, I.bLen_eq, I.bInt_eq, I.bTuple_eq, I.bListD_eq, I.mTup_eq, I.mLst_eq, I.mNew_eq, I.mSeq_eq, I.mTru_eq, I.mCut_eq, I.mPut_eq, I.bAll_eq, I.bAny_eq, I.bSum_eq, I.bSorted_eq, I.bMax_eq, I.bMin_eq, I.kMM_eq, I.bIsi_eq, I.mIt_eq, I.mEnu_eq, I.mZip_eq, I.forL_eq, I.whileL_eq, I.lcL_eq, I.lcO_eq, I.lcB2_eq, I.cDisp_eq, I.gIn_eq, I.mUpd_eq, I.mApp_eq] at *
  exact R.gIxT hi h
theorem gIxL {ts : List T} {i : Int} {t : T} (hi : atI ts i = some t) (h : P t μ) : OkI (I.gIxD (.lst ts) (.int i) μ) P E := by
  simp only [OkI_eq, I.cVar_eq, I.cK_eq, I.c1_eq, I.c2_eq, I.cN_eq, I.aNil_eq, I.aCons_eq, I.aStar_eq, I.cTest_eq, I.cTru_eq, I.cAnd_eq, I.cOr_eq, I.cNot_eq, I.cYes_eq, I.cIf_eq, I.cAndT_eq, I.cOrT_eq, I.cNotT_eq, I.cChain_eq, I.cCall_eq, I.cSlice_eq, I.oNone_eq, I.oSome_eq, I.cKw_eq, I.cMeth_eq, I.cRgL1_eq, I.cRgL2_eq, I.iSeq_eq, I.iRg1_eq, I.iRg2_eq, I.iZp_eq, I.iEn_eq, I.cLc_eq, I.cLc2_eq, I.lcT_eq, I.sNil_eq, I.sPass_eq, I.sBreak_eq, I.sCont_eq, I.sBad_eq, I.sRetN_eq, I.sSeq_eq, I.sExpr_eq, I.sRet_eq, I.sSet_eq, I.sIf_eq, I.sAsg_eq, I.sStore_eq, I.sPar_eq, I.sPar3_eq, I.sAug_eq, I.sFor_eq, I.stp_eq, I.fnD_eq, I.gIxD_eq, I.gAdd_eq, I.gSub_eq, I.gMulI_eq, I.gFdiv_eq, I.gMod_eq, I.gPow_eq, I.gLt_eq, I.gLe_eq, I.gGt_eq, I.gGe_eq, I.gNeg_eq, I.gEqD_eq, I.gIs_eq, I.gIsNot_eq, I.bLen_eq, I.bInt_eq, I.bTuple_eq, I.bListD_eq, I.mTup_eq, I.mLst_eq, I.mNew_eq, I.mSeq_eq, I.mTru_eq, I.mCut_eq, I.mPut_eq, I.bAll_eq, I.bAny_eq, I.bSum_eq, I.bSorted_eq, I.bMax_eq, I.bMin_eq, I.kMM_eq, I.bIsi_eq, I.mIt_eq, I.mEnu_eq, I.mZip_eq, I.forL_eq, I.whileL_eq, I.lcL_eq, I.lcO_eq, I.lcB2_eq, I.cDisp_eq, I.gIn_eq, I.mUpd_eq, I.mApp_eq] at *
  exact R.gIxL hi h
theorem gIxS {ts : List T} {i : Int} {t : T} (hi : atI ts i = some t) (h : P t μ) : OkI (I.gIxD (.scr ts) (.int i) μ) P E := by
  simp only [OkI_eq, I.cVar_eq, I.cK_eq, I.c1_eq, I.c2_eq, I.cN_eq, I.aNil_eq, I.aCons_eq, I.aStar_eq, I.cTest_eq, I.cTru_eq, I.cAnd_eq, I.cOr_eq, I.cNot_eq, I.cYes_eq, I.cIf_eq, I.cAndT_eq, I.cOrT_eq, I.cNotT_eq, I.cChain_eq, I.cCall_eq, I.cSlice_eq, I.oNone_eq, I.oSome_eq, I.cKw_eq, I.cMeth_eq, I.cRgL1_eq, I.cRgL2_eq, I.iSeq_eq, I.iRg1_eq, I.iRg2_eq, I.iZp_eq, I.iEn_eq, I.cLc_eq, I.cLc2_eq, I.lcT_eq, I.sNil_eq, I.sPass_eq, I.sBreak_eq, I.sCont_eq, I.sBad_eq, I.sRetN_eq, I.sSeq_eq, I.sExpr_eq, I.sRet_eq, I.sSet_eq, I.sIf_eq, I.sAsg_eq, I.sStore_eq, I.sPar_eq, I.sPar3_eq, I.sAug_eq, I.sFor_eq, I.stp_eq, I.fnD_eq, I.gIxD_eq, I.gAdd_eq, I.gSub_eq, I.gMulI_eq, I.gFdiv_eq, I.gMod_eq, I.gPow_eq, I.gLt_eq, I.gLe_eq, I.gGt_eq, I.gGe_eq, I.gNeg_eq, I.gEqD_eq, I.gIs_eq, I.gIsNot_eq, I.bLen_eq, I.bInt_eq, I.bTuple_eq, I.bListD_eq, I.mTup_eq, I.mLst_eq, I.mNew_eq, I.mSeq_eq, I.mTru_eq, I.mCut_eq, I.mPut_eq, I.bAll_eq, I.bAny_eq, I.bSum_eq, I.bSorted_eq, I.bMax_eq, I.bMin_eq, I.kMM_eq, I.bIsi_eq, I.mIt_eq, I.mEnu_eq, I.mZip_eq, I.forL_eq, I.whileL_eq, I.lcL_eq, I.lcO_eq, I.lcB2_eq, I.cDisp_eq, I.gIn_eq, I.mUpd_eq, I.mApp_eq] at *
  exact R.gIxS hi h
theorem gAddI {i j : Int} (h : P (.int (i + j)) μ) : OkI (I.gAdd (.int i) (.int j) μ) P E := by
  simp only [OkI_eq, I.cVar_eq, I.cK_eq, I.c1_eq, I.c2_eq, I.cN_eq, I.aNil_eq, I.aCons_eq, I.aStar_eq, I.cTest_eq, I.cTru_eq, I.cAnd_eq, I.cOr_eq, I.cNot_eq, I.cYes_eq, I.cIf_eq, I.cAndT_eq, I.cOrT_eq, I.cNotT_eq, I.cChain_eq, I.cCall_eq, I.cSlice_eq, I.oNone_eq, I.oSome_eq, I.cKw_eq, I.cMeth_eq, I.cRgL1_eq, I.cRgL2_eq, I.iSeq_eq, I.iRg1_eq, I.iRg2_eq, I.iZp_eq, I.iEn_eq, I.cLc_eq, I.cLc2_eq, I.lcT_eq, I.sNil_eq, I.sPass_eq, I.sBreak_eq, I.sCont_eq, I.sBad_eq, I.sRetN_eq, I.sSeq_eq, I.sExpr_eq, I.sRet_eq, I.sSet_eq, I.sIf_eq, I.sAsg_eq, I.sStore_eq, I.sPar_eq, I.sPar3_eq, I.sAug_eq, I.sFor_eq, I.stp_eq, I.fnD_eq, I.gIxD_eq, I.gAdd_eq, I.gSub_eq, I.gMulI_eq, I.gFdiv_eq, I.gMod_eq, I.gPow_eq, I.gLt_eq, I.gLe_eq, I.gGt_eq, I.gGe_eq, I.gNeg_eq, I.gEqD_eq, I.gIs_eq, I.gIsNot_eq, I.bLen_eq, I.bInt_eq, I.bTuple_eq, I.bListD_eq, I.mTup_eq, I.mLst_eq, I.mNew_eq, I.mSeq_eq, I.mTru_eq, I.mCut_eq, I.mPut_eq, I.bAll_eq, I.bAny_eq, I.bSum_eq, I.bSorted_eq, I.bMax_eq, I.bMin_eq, I.kMM_eq, I.bIsi_eq, I.mIt_eq, I.mEnu_eq, I.mZip_eq, I.forL_eq, I.whileL_eq, I.lcL_eq, I.lcO_eq, I.lcB2_eq, I.cDisp_eq, I.gIn_eq, I.mUpd_eq, I.mApp_eq] at *
  exact R.gAddI h
theorem gAddT {i j : List T} (hl : i.length + j.length ≤ lim) (h : P (.tup (i ++ j)) μ) : OkI (I.gAdd (.tup i) (.tup j) μ) P E := by
  simp only [OkI_eq, I.cVar_eq, I.cK_eq, I.c1_eq, I.c2_eq, I.cN_eq, I.aNil_eq, I.aCons_eq, I.aStar_eq, I.cTest_eq, I.cTru_eq, I.cAnd_eq, I.cOr_eq, I.cNot_eq, I.cYes_eq, I.cIf_eq, I.cAndT_eq, I.cOrT_eq, I.cNotT_eq, I.cChain_eq, I.cCall_eq, I.cSlice_eq, I.oNone_eq, I.oSome_eq, I.cKw_eq, I.cMeth_eq, I.cRgL1_eq, I.cRgL2_eq, I.iSeq_eq, I.iRg1_eq, I.iRg2_eq, I.iZp_eq, I.iEn_eq, I.cLc_eq, I.cLc2_eq, I.lcT_eq, I.sNil_eq, I.sPass_eq, I.sBreak_eq, I.sCont_eq, I.sBad_eq, I.sRetN_eq, I.sSeq_eq, I.sExpr_eq, I.sRet_eq, I.sSet_eq, I.sIf_eq, I.sAsg_eq, I.sStore_eq, I.sPar_eq, I.sPar3_eq, I.sAug_eq, I.sFor_eq, I.stp_eq, I.fnD_eq, I.gIxD_eq, I.gAdd_eq, I.gSub_eq, I.gMulI_eq, I.gFdiv_eq, I.gMod_eq, I.gPow_eq, I.gLt_eq, I.gLe_eq, I.gGt_eq, I.gGe_eq, I.gNeg_eq, I.gEqD_eq, I.gIs_eq, I.gIsNot_eq, I.bLen_eq, I.bInt_eq, I.bTuple_eq, I.bListD_eq, I.mTup_eq, I.mLst_eq, I.mNew_eq, I.mSeq_eq, I.mTru_eq, I.mCut_eq, I.mPut_eq, I.bAll_eq, I.bAny_eq, I.bSum_eq, I.bSorted_eq, I.bMax_eq, I.bMin_eq, I.kMM_eq, I.bIsi_eq, I.mIt_eq, I.mEnu_eq, I.mZip_eq, I.forL_eq, I.whileL_eq, I.lcL_eq, I.lcO_eq, I.lcB2_eq, I.cDisp_eq, I.gIn_eq, I.mUpd_eq, I.mApp_eq] at *
  exact R.gAddT hl h
theorem gAddL {i j : List T} (hl : i.length + j.length ≤ lim) (h : P (.lst (i ++ j)) μ) : OkI (I.gAdd (.lst i) (.lst j) μ) P E := by
  simp only [OkI_eq, I.cVar_eq, I.cK_eq, I.c1_eq, I.c2_eq, I.cN_eq, I.aNil_eq, I.aCons_eq, I.aStar_eq, I.cTest_eq, I.cTru_eq, I.cAnd_eq, I.cOr_eq, I.cNot_eq, I.cYes_eq, I.cIf_eq, I.cAndT_eq, I.cOrT_eq, I.cNotT_eq, I.cChain_eq, I.cCall_eq, I.cSlice_eq, I.oNone_eq, I.oSome_eq, I.cKw_eq, I.cMeth_eq, I.cRgL1_eq, I.cRgL2_eq, I.iSeq_eq, I.iRg1_eq, I.iRg2_eq, I.iZp_eq, I.iEn_eq, I.cLc_eq, I.cLc2_eq, I.lcT_eq, I.sNil_eq, I.sPass_eq, I.sBreak_eq, I.sCont_eq, I.sBad_eq, I.sRetN_eq, I.sSeq_eq, I.sExpr_eq, I.sRet_eq, I.sSet_eq, I.sIf_eq, I.sAsg_eq, I.sStore_eq, I.sPar_eq, I.sPar3_eq, I.sAug_eq, I.sFor_eq, I.stp_eq, I.fnD_eq, I.gIxD_eq, I.gAdd_eq, I.gSub_eq, I.gMulI_eq, I.gFdiv_eq, I.gMod_eq, I.gPow_eq, I.gLt_eq, I.gLe_eq, I.gGt_eq, I.gGe_eq, I.gNeg_eq, I.gEqD_eq, I.gIs_eq, I.gIsNot_eq, I.bLen_eq, I.bInt_eq, I.bTuple_eq, I.bListD_eq, I.mTup_eq, I.mLst_eq, I.mNew_eq, I.mSeq_eq, I.mTru_eq, I.mCut_eq, I.mPut_eq, I.bAll_eq, I.bAny_eq, I.bSum_eq, I.bSorted_eq, I.bMax_eq, I.bMin_eq, I.kMM_eq, I.bIsi_eq, I.mIt_eq, I.mEnu_eq, I.mZip_eq, I.forL_eq, I.whileL_eq, I.lcL_eq, I.lcO_eq, I.lcB2_eq, I.cDisp_eq, I.gIn_eq, I.mUpd_eq, I.mApp_eq] at *
  exact R.gAddL hl h
theorem gSub {i j : Int} (h : P (.int (i - j)) μ) : OkI (I.gSub (.int i) (.int j) μ) P E := by
  simp only [OkI_eq, I.cVar_eq, I.cK_eq, I.c1_eq, I.c2_eq, I.cN_eq, I.aNil_eq, I.aCons_eq, I.aStar_eq, I.cTest_eq, I.cTru_eq, I.cAnd_eq, I.cOr_eq, I.cNot_eq, I.cYes_eq, I.cIf_eq, I.cAndT_eq, I.cOrT_eq, I.cNotT_eq, I.cChain_eq, I.cCall_eq, I.cSlice_eq, I.oNone_eq, I.oSome_eq, I.cKw_eq, I.cMeth_eq, I.cRgL1_eq, I.cRgL2_eq, I.iSeq_eq, I.iRg1_eq, I.iRg2_eq, I.iZp_eq, I.iEn_eq, I.cLc_eq, I.cLc2_eq, I.lcT_eq, I.sNil_eq, I.sPass_eq, I.sBreak_eq, I.sCont_eq, I.sBad_eq, I.sRetN_eq, I.sSeq_eq, I.sExpr_eq, I.sRet_eq, I.sSet_eq, I.sIf_eq, I.sAsg_eq, I.sStore_eq, I.sPar_eq, I.sPar3_eq, I.sAug_eq, I.sFor_eq, I.stp_eq, I.fnD_eq, I.gIxD_eq, I.gAdd_eq, I.gSub_eq, I.gMulI_eq, I.gFdiv_eq, I.gMod_eq, I.gPow_eq, I.gLt_eq, I.gLe_eq, I.gGt_eq, I.gGe_eq, I.gNeg_eq, I.gEqD_eq, I.gIs_eq, I.gIsNot_eq, I.bLen_eq, I.bInt_eq, I.bTuple_eq, I.bListD_eq, I.mTup_eq, I.mLst_eq, I.mNew_eq, I.mSeq_eq, I.mTru_eq, I.mCut_eq, I.mPut_eq, I.bAll_eq, I.bAny_eq, I.bSum_eq, I.bSorted_eq, I.bMax_eq, I.bMin_eq, I.kMM_eq, I.bIsi_eq, I.mIt_eq, I.mEnu_eq, I.mZip_eq, I.forL_eq, I.whileL_eq, I.lcL_eq, I.lcO_eq, I.lcB2_eq, I.cDisp_eq, I.gIn_eq, I.mUpd_eq, I.mApp_eq] at *
  exact R.gSub h
theorem gMul {i j : Int} (hc : cMulB i j = true) (h : P (.int (i * j)) μ) : OkI (I.gMulI (.int i) (.int j) μ) P E := by
  simp only [OkI_eq, I.cVar_eq, I.cK_eq, I.c1_eq, I.c2_eq, I.cN_eq, I.aNil_eq, I.aCons_eq, I.aStar_eq, I.cTest_eq, I.cTru_eq, I.cAnd_eq, I.cOr_eq, I.cNot_eq, I.cYes_eq, I.cIf_eq, I.cAndT_eq, I.cOrT_eq, I.cNotT_eq, I.cChain_eq, I.cCall_eq, I.cSlice_eq, I.oNone_eq, I.oSome_eq, I.cKw_eq, I.cMeth_eq, I.cRgL1_eq, I.cRgL2_eq, I.iSeq_eq, I.iRg1_eq, I.iRg2_eq, I.iZp_eq, I.iEn_eq, I.cLc_eq, I.cLc2_eq, I.lcT_eq, I.sNil_eq, I.sPass_eq, I.sBreak_eq, I.sCont_eq, I.sBad_eq, I.sRetN_eq, I.sSeq_eq, I.sExpr_eq, I.sRet_eq, I.sSet_eq, I.sIf_eq, I.sAsg_eq, I.sStore_eq, I.sPar_eq, I.sPar3_eq, I.sAug_eq, I.sFor_eq, I.stp_eq, I.fnD_eq, I.gIxD_eq, I.gAdd_eq, I.gSub_eq, I.gMulI_eq, I.gFdiv_eq, I.gMod_eq, I.gPow_eq, I.gLt_eq, I.gLe_eq, I.gGt_eq, I.gGe_eq, I.gNeg_eq, I.gEqD_eq, I.gIs_eq, I.gIsNot_eq, I.bLen_eq, I.bInt_eq, I.bTuple_eq, I.bListD_eq, I.mTup_eq, I.mLst_eq, I.mNew_eq, I.mSeq_eq, I.mTru_eq, I.mCut_eq, I.mPut_eq, I.bAll_eq, I.bAny_eq, I.bSum_eq, I.bSorted_eq, I.bMax_eq, I.bMin_eq, I.kMM_eq, I.bIsi_eq, I.mIt_eq, I.mEnu_eq, I.mZip_eq, I.forL_eq, I.whileL_eq, I.lcL_eq, I.lcO_eq, I.lcB2_eq, I.cDisp_eq, I.gIn_eq, I.mUpd_eq, I.mApp_eq] at *
  exact R.gMul hc h
theorem gFdiv {i j : Int} (h0 : 0 < j) (h1 : j < 1073741824) (h : P (.int (i / j)) μ) : OkI (I.gFdiv (.int i) (.int j) μ) P E := by
  simp only [OkI_eq, I.cVar_eq, I.cK_eq, I.c1_eq, I.c2_eq, I.cN_eq, I.aNil_eq, I.aCons_eq, I.aStar_eq, I.cTest_eq, I.cTru_eq, I.cAnd_eq, I.cOr_eq, I.cNot_eq, I.cYes_eq, I.cIf_eq, I.cAndT_eq, I.cOrT_eq, I.cNotT_eq, I.cChain_eq, I.cCall_eq, I.cSlice_eq, I.oNone_eq, I.oSome_eq, I.cKw_eq, I.cMeth_eq, I.cRgL1_eq, I.cRgL2_eq, I.iSeq_eq, I.iRg1_eq, I.iRg2_eq, I.iZp_eq, I.iEn_eq, I.cLc_eq, I.cLc2_eq, I.lcT_eq, I.sNil_eq, I.sPass_eq, I.sBreak_eq, I.sCont_eq, I.sBad_eq, I.sRetN_eq, I.sSeq_eq, I.sExpr_eq, I.sRet_eq, I.sSet_eq, I.sIf_eq, I.sAsg_eq, I.sStore_eq, I.sPar_eq, I.sPar3_eq, I.sAug_eq, I.sFor_eq, I.stp_eq, I.fnD_eq, I.gIxD_eq, I.gAdd_eq, I.gSub_eq, I.gMulI_eq, I.gFdiv_eq, I.gMod_eq, I.gPow_eq, I.gLt_eq, I.gLe_eq, I.gGt_eq, I.gGe_eq, I.gNeg_eq, I.gEqD_eq, I.gIs_eq, I.gIsNot_eq, I.bLen_eq, I.bInt_eq, I.bTuple_eq, I.bListD_eq, I.mTup_eq, I.mLst_eq, I.mNew_eq, I.mSeq_eq, I.mTru_eq, I.mCut_eq, I.mPut_eq, I.bAll_eq, I.bAny_eq, I.bSum_eq, I.bSorted_eq, I.bMax_eq, I.bMin_eq, I.kMM_eq, I.bIsi_eq, I.mIt_eq, I.mEnu_eq, I.mZip_eq, I.forL_eq, I.whileL_eq, I.lcL_eq, I.lcO_eq, I.lcB2_eq, I.cDisp_eq, I.gIn_eq, I.mUpd_eq, I.mApp_eq] at *
  exact R.gFdiv h0 h1 h
theorem gMod {i j : Int} (h0 : 0 < j) (h : P (.int (i % j)) μ) : OkI (I.gMod (.int i) (.int j) μ) P E := by
  simp only [OkI_eq, I.cVar_eq, I.cK_eq, I.c1_eq, I.c2_eq, I.cN_eq, I.aNil_eq, I.aCons_eq, I.aStar_eq, I.cTest_eq, I.cTru_eq, I.cAnd_eq, I.cOr_eq, I.cNot_eq, I.cYes_eq, I.cIf_eq, I.cAndT_eq, I.cOrT_eq, I.cNotT_eq, I.cChain_eq, I.cCall_eq, I.cSlice_eq, I.oNone_eq, I.oSome_eq, I.cKw_eq, I.cMeth_eq, I.cRgL1_eq, I.cRgL2_eq, I.iSeq_eq, I.iRg1_eq, I.iRg2_eq, I.iZp_eq, I.iEn_eq, I.cLc_eq, I.cLc2_eq, I.lcT_eq, I.sNil_eq, I.sPass_eq, I.sBreak_eq, I.sCont_eq, I.sBad_eq, I.sRetN_eq, I.sSeq_eq, I.sExpr_eq, I.sRet_eq, I.sSet_eq, I.sIf_eq, I.sAsg_eq, I.sStore_eq, I.sPar_eq, I.sPar3_eq, I.sAug_eq, I.sFor_eq, I.stp_eq, I.fnD_eq, I.gIxD_eq, I.gAdd_eq, I.gSub_eq, I.gMulI_eq, I.gFdiv_eq, I.gMod_eq, I.gPow_eq, I.gLt_eq, I.gLe_eq, I.gGt_eq, I.gGe_eq, I.gNeg_eq, I.gEqD_eq, I.gIs_eq, I.gIsNot_eq, I.bLen_eq, I.bInt_eq, I.bTuple_eq, I.bListD_eq, I.mTup_eq, I.mLst_eq, I.mNew_eq, I.mSeq_eq, I.mTru_eq, I.mCut_eq, I.mPut_eq, I.bAll_eq, I.bAny_eq, I.bSum_eq, I.bSorted_eq, I.bMax_eq, I.bMin_eq, I.kMM_eq, I.bIsi_eq, I.mIt_eq, I.mEnu_eq, I.mZip_eq, I.forL_eq, I.whileL_eq, I.lcL_eq, I.lcO_eq, I.lcB2_eq, I.cDisp_eq, I.gIn_eq, I.mUpd_eq, I.mApp_eq] at *
  exact R.gMod h0 h
theorem gPow {i j : Int} (h0 : (decide (0 ≤ j) && decide (j ≤ 1000000) && decide (i.natAbs < 2 ^ 64)) = true) (h : P (.int (i ^ j.toNat)) μ) : OkI (I.gPow (.int i) (.int j) μ) P E := by
  simp only [OkI_eq, I.cVar_eq, I.cK_eq, I.c1_eq, I.c2_eq, I.cN_eq, I.aNil_eq, I.aCons_eq, I.aStar_eq, I.cTest_eq, I.cTru_eq, I.cAnd_eq, I.cOr_eq, I.cNot_eq, I.cYes_eq, I.cIf_eq, I.cAndT_eq, I.cOrT_eq, I.cNotT_eq, I.cChain_eq, I.cCall_eq, I.cSlice_eq, I.oNone_eq, I.oSome_eq, I.cKw_eq, I.cMeth_eq, I.cRgL1_eq, I.cRgL2_eq, I.iSeq_eq, I.iRg1_eq, I.iRg2_eq, I.iZp_eq, I.iEn_eq, I.cLc_eq, I.cLc2_eq, I.lcT_eq, I.sNil_eq, I.sPass_eq, I.sBreak_eq, I.sCont_eq, I.sBad_eq, I.sRetN_eq, I.sSeq_eq, I.sExpr_eq, I.sRet_eq, I.sSet_eq, I.sIf_eq, I.sAsg_eq, I.sStore_eq, I.sPar_eq, I.sPar3_eq, I.sAug_eq, I.sFor_eq, I.stp_eq, I.fnD_eq, I.gIxD_eq, I.gAdd_eq, I.gSub_eq, I.gMulI_eq, I.gFdiv_eq, I.gMod_eq, I.gPow_eq, I.gLt_eq, I.gLe_eq, I.gGt_eq, I.gGe_eq, I.gNeg_eq, I.gEqD_eq, I.gIs_eq, I.gIsNot_eq, I.bLen_eq, I.bInt_eq, I.bTuple_eq, I.bListD_eq, I.mTup_eq, I.mLst_eq, I.mNew_eq, I.mSeq_eq, I.mTru_eq, I.mCut_eq, I.mPut_eq, I.bAll_eq, I.bAny_eq, I.bSum_eq, I.bSorted_eq, I.bMax_eq, I.bMin_eq, I.kMM_eq, I.bIsi_eq, I.mIt_eq, I.mEnu_eq, I.mZip_eq, I.forL_eq, I.whileL_eq, I.lcL_eq, I.lcO_eq, I.lcB2_eq, I.cDisp_eq, I.gIn_eq, I.mUpd_eq, I.mApp_eq] at *
  exact R.gPow h0 h
theorem gLt {i j : Int} (h : P (.bl (decide (i < j))) μ) : OkI (I.gLt (.int i) (.int j) μ) P E := by
  simp only [OkI_eq, I.cVar_eq, I.cK_eq, I.c1_eq, I.c2_eq, I.cN_eq, I.aNil_eq, I.aCons_eq, I.aStar_eq, I.cTest_eq, I.cTru_eq, I.cAnd_eq, I.cOr_eq, I.cNot_eq, I.cYes_eq, I.cIf_eq, I.cAndT_eq, I.cOrT_eq, I.cNotT_eq, I.cChain_eq, I.cCall_eq, I.cSlice_eq, I.oNone_eq, I.oSome_eq, I.cKw_eq, I.cMeth_eq, I.cRgL1_eq, I.cRgL2_eq, I.iSeq_eq, I.iRg1_eq, I.iRg2_eq, I.iZp_eq, I.iEn_eq, I.cLc_eq, I.cLc2_eq, I.lcT_eq, I.sNil_eq, I.sPass_eq, I.sBreak_eq, I.sCont_eq, I.sBad_eq, I.sRetN_eq, I.sSeq_eq, I.sExpr_eq, I.sRet_eq, I.sSet_eq, I.sIf_eq, I.sAsg_eq, I.sStore_eq, I.sPar_eq, I.sPar3_eq, I.sAug_eq, I.sFor_eq, I.stp_eq, I.fnD_eq, I.gIxD_eq, I.gAdd_eq, I.gSub_eq, I.gMulI_eq, I.gFdiv_eq, I.gMod_eq, I.gPow_eq, I.gLt_eq, I.gLe_eq, I.gGt_eq, I.gGe_eq, I.gNeg_eq, I.gEqD_eq, I.gIs_eq, I.gIsNot_eq, I.bLen_eq, I.bInt_eq, I.bTuple_eq, I.bListD_eq, I.mTup_eq, I.mLst_eq, I.mNew_eq, I.mSeq_eq, I.mTru_eq, I.mCut_eq, I.mPut_eq, I.bAll_eq, I.bAny_eq, I.bSum_eq, I.bSorted_eq, I.bMax_eq, I.bMin_eq, I.kMM_eq, I.bIsi_eq, I.mIt_eq, I.mEnu_eq, I.mZip_eq, I.forL_eq, I.whileL_eq, I.lcL_eq, I.lcO_eq, I.lcB2_eq, I.cDisp_eq, I.gIn_eq, I.mUpd_eq, I.mApp_eq] at *
  exact R.gLt h
theorem gLe {i j : Int} (h : P (.bl (decide (i ≤ j))) μ) : OkI (I.gLe (.int i) (.int j) μ) P E := by
  simp only [OkI_eq, I.cVar_eq, I.cK_eq, I.c1_eq, I.c2_eq, I.cN_eq, I.aNil_eq, I.aCons_eq, I.aStar_eq, I.cTest_eq, I.cTru_eq, I.cAnd_eq, I.cOr_eq, I.cNot_eq, I.cYes_eq, I.cIf_eq, I.cAndT_eq, I.cOrT_eq, I.cNotT_eq, I.cChain_eq, I.cCall_eq, I.cSlice_eq, I.oNone_eq, I.oSome_eq, I.cKw_eq, I.cMeth_eq, I.cRgL1_eq, I.cRgL2_eq, I.iSeq_eq, I.iRg1_eq, I.iRg2_eq, I.iZp_eq, I.iEn_eq, I.cLc_eq, I.cLc2_eq, I.lcT_eq, I.sNil_eq, I.sPass_eq, I.sBreak_eq, I.sCont_eq, I.sBad_eq, I.sRetN_eq, I.sSeq_eq, I.sExpr_eq, I.sRet_eq, I.sSet_eq, I.sIf_eq, I.sAsg_eq, I.sStore_eq, I.sPar_eq, I.sPar3_eq, I.sAug_eq, I.sFor_eq, I.stp_eq, I.fnD_eq, I.gIxD_eq, I.gAdd_eq, I.gSub_eq, I.gMulI_eq, I.gFdiv_eq, I.gMod_eq, I.gPow_eq, I.gLt_eq, I.gLe_eq, I.gGt_eq, I.gGe_eq, I.gNeg_eq, I.gEqD_eq, I.gIs_eq, I.gIsNot_eq, I.bLen_eq, I.bInt_eq, I.bTuple_eq, I.bListD_eq, I.mTup_eq, I.mLst_eq, I.mNew_eq, I.mSeq_eq, I.mTru_eq, I.mCut_eq, I.mPut_eq, I.bAll_eq, I.bAny_eq, I.bSum_eq, I.bSorted_eq, I.bMax_eq, I.bMin_eq, I.kMM_eq, I.bIsi_eq, I.mIt_eq, I.mEnu_eq, I.mZip_eq, I.forL_eq, I.whileL_eq, I.lcL_eq, I.lcO_eq, I.lcB2_eq, I.cDisp_eq, I.gIn_eq, I.mUpd_eq, I.mApp_eq] at *
  exact R.gLe h
theorem gGt {i j : Int} (h : P (.bl (decide (j < i))) μ) : OkI (I.gGt (.int i) (.int j) μ) P E := by
  simp only [OkI_eq, I.cVar_eq, I.cK_eq, I.c1_eq, I.c2_eq, I.cN_eq, I.aNil_eq, I.aCons_eq, I.aStar_eq, I.cTest_eq, I.cTru_eq, I.cAnd_eq, I.cOr_eq, I.cNot_eq, I.cYes_eq, I.cIf_eq, I.cAndT_eq, I.cOrT_eq, I.cNotT_eq, I.cChain_eq, I.cCall_eq, I.cSlice_eq, I.oNone_eq, I.oSome_eq, I.cKw_eq, I.cMeth_eq, I.cRgL1_eq, I.cRgL2_eq, I.iSeq_eq, I.iRg1_eq, I.iRg2_eq, I.iZp_eq, I.iEn_eq, I.cLc_eq, I.cLc2_eq, I.lcT_eq, I.sNil_eq, I.sPass_eq, I.sBreak_eq, I.sCont_eq, I.sBad_eq, I.sRetN_eq, I.sSeq_eq, I.sExpr_eq, I.sRet_eq, I.sSet_eq, I.sIf_eq, I.sAsg_eq, I.sStore_eq, I.sPar_eq, I.sPar3_eq, I.sAug_eq, I.sFor_eq, I.stp_eq, I.fnD_eq, I.gIxD_eq, I.gAdd_eq, I.gSub_eq, I.gMulI_eq, I.gFdiv_eq, I.gMod_eq, I.gPow_eq, I.gLt_eq, I.gLe_eq, I.gGt_eq, I.gGe_eq, I.gNeg_eq, I.gEqD_eq, I.gIs_eq, I.gIsNot_eq, I.bLen_eq, I.bInt_eq, I.bTuple_eq, I.bListD_eq, I.mTup_eq, I.mLst_eq, I.mNew_eq, I.mSeq_eq, I.mTru_eq, I.mCut_eq, I.mPut_eq, I.bAll_eq, I.bAny_eq, I.bSum_eq, I.bSorted_eq, I.bMax_eq, I.bMin_eq, I.kMM_eq, I.bIsi_eq, I.mIt_eq, I.mEnu_eq, I.mZip_eq, I.forL_eq, I.whileL_eq, I.lcL_eq, I.lcO_eq, I.lcB2_eq, I.cDisp_eq, I.gIn_eq, I.mUpd_eq, I.mApp_eq] at *
  exact R.gGt h
theorem gGe {i j : Int} (h : P (.bl (decide (j ≤ i))) μ) : OkI (I.gGe (.int i) (.int j) μ) P E := by
  simp only [OkI_eq, I.cVar_eq, I.cK_eq, I.c1_eq, I.c2_eq, I.cN_eq, I.aNil_eq, I.aCons_eq, I.aStar_eq, I.cTest_eq, I.cTru_eq, I.cAnd_eq, I.cOr_eq, I.cNot_eq, I.cYes_eq, I.cIf_eq, I.cAndT_eq, I.cOrT_eq, I.cNotT_eq, I.cChain_eq, I.cCall_eq, I.cSlice_eq, I.oNone_eq, I.oSome_eq, I.cKw_eq, I.cMeth_eq, I.cRgL1_eq, I.cRgL2_eq, I.iSeq_eq, I.iRg1_eq, I.iRg2_eq, I.iZp_eq, I.iEn_eq, I.cLc_eq, I.cLc2_eq, I.lcT_eq, I.sNil_eq, I.sPass_eq, I.sBreak_eq, I.sCont_eq, I.sBad_eq, I.sRetN_eq, I.sSeq_eq, I.sExpr_eq, I.sRet_eq, I.sSet_eq, I.sIf_eq, I.sAsg_eq, I.sStore_eq, I.sPar_eq, I.sPar3_eq, I.sAug_eq, I.sFor_eq, I.stp_eq, I.fnD_eq, I.gIxD_eq, I.gAdd_eq, I.gSub_eq, I.gMulI_eq, I.gFdiv_eq, I.gMod_eq, I.gPow_eq, I.gLt_eq, I.gLe_eq, I.gGt_eq, I.gGe_eq, I.gNeg_eq, I.gEqD_eq, I.gIs_eq, I.gIsNot_eq, I.bLen_eq, I.bInt_eq, I.bTuple_eq, I.bListD_eq, I.mTup_eq, I.mLst_eq, I.mNew_eq, I.mSeq_eq, I.mTru_eq, I.mCut_eq, I.mPut_eq, I.bAll_eq, I.bAny_eq, I.bSum_eq, I.bSorted_eq, I.bMax_eq, I.bMin_eq, I.kMM_eq, I.bIsi_eq, I.mIt_eq, I.mEnu_eq, I.mZip_eq, I.forL_eq, I.whileL_eq, I.lcL_eq, I.lcO_eq, I.lcB2_eq, I.cDisp_eq, I.gIn_eq, I.mUpd_eq, I.mApp_eq] at *
  exact R.gGe h
theorem gNeg {i : Int} (h : P (.int (-i)) μ) : OkI (I.gNeg (.int i) μ) P E := by
  simp only [OkI_eq, I.cVar_eq, I.cK_eq, I.c1_eq, I.c2_eq, I.cN_eq, I.aNil_eq, I.aCons_eq, I.aStar_eq, I.cTest_eq, I.cTru_eq, I.cAnd_eq, I.cOr_eq, I.cNot_eq, I.cYes_eq, I.cIf_eq, I.cAndT_eq, I.cOrT_eq, I.cNotT_eq, I.cChain_eq, I.cCall_eq, I.cSlice_eq, I.oNone_eq, I.oSome_eq, I.cKw_eq, I.cMeth_eq, I.cRgL1_eq, I.cRgL2_eq, I.iSeq_eq, I.iRg1_eq, I.iRg2_eq, I.iZp_eq, I.iEn_eq, I.cLc_eq, I.cLc2_eq, I.lcT_eq, I.sNil_eq, I.sPass_eq, I.sBreak_eq, I.sCont_eq, I.sBad_eq, I.sRetN_eq, I.sSeq_eq, I.sExpr_eq, I.sRet_eq, I.sSet_eq, I.sIf_eq, I.sAsg_eq, I.sStore_eq, I.sPar_eq, I.sPar3_eq, I.sAug_eq, I.sFor_eq, I.stp_eq, I.fnD_eq, I.gIxD_eq, I.gAdd_eq, I.gSub_eq, I.gMulI_eq, I.gFdiv_eq, I.gMod_eq, I.gPow_eq, I.gLt_eq, I.gLe_eq, I.gGt_eq, I.gGe_eq, I.gNeg_eq, I.gEqD_eq, I.gIs_eq, I.gIsNot_eq, I.bLen_eq, I.bInt_eq, I.bTuple_eq, I.bListD_eq, I.mTup_eq, I.mLst_eq, I.mNew_eq, I.mSeq_eq, I.mTru_eq, I.mCut_eq, I.mPut_eq, I.bAll_eq, I.bAny_eq, I.bSum_eq, I.bSorted_eq, I.bMax_eq, I.bMin_eq, I.kMM_eq, I.bIsi_eq, I.mIt_eq, I.mEnu_eq, I.mZip_eq, I.forL_eq, I.whileL_eq, I.lcL_eq, I.lcO_eq, I.lcB2_eq, I.cDisp_eq, I.gIn_eq, I.mUpd_eq, I.mApp_eq] at *
  exact R.gNeg h
theorem eqI {neg : Bool} {i j : Int} (h : P (.bl (if neg then !decide (i = j) else decide (i = j))) μ) : OkI (I.gEqD neg (.int i) (.int j) μ) P E := by
  simp only [OkI_eq, I.cVar_eq, I.cK_eq, I.c1_eq, I.c2_eq, I.cN_eq, I.aNil_eq, I.aCons_eq, I.aStar_eq, I.cTest_eq, I.cTru_eq, I.cAnd_eq, I.cOr_eq, I.cNot_eq, I.cYes_eq, I.cIf_eq, I.cAndT_eq, I.cOrT_eq, I.cNotT_eq, I.cChain_eq, I.cCall_eq, I.cSlice_eq, I.oNone_eq, I.oSome_eq, I.cKw_eq, I.cMeth_eq, I.cRgL1_eq, I.cRgL2_eq, I.iSeq_eq, I.iRg1_eq, I.iRg2_eq, I.iZp_eq, I.iEn_eq, I.cLc_eq, I.cLc2_eq, I.lcT_eq, I.sNil_eq, I.sPass_eq, I.sBreak_eq, I.sCont_eq, I.sBad_eq, I.sRetN_eq, I.sSeq_eq, I.sExpr_eq, I.sRet_eq, I.sSet_eq, I.sIf_eq, I.sAsg_eq, I.sStore_eq, I.sPar_eq, I.sPar3_eq, I.sAug_eq, I.sFor_eq, I.stp_eq, I.fnD_eq, I.gIxD_eq, I.gAdd_eq, I.gSub_eq, I.gMulI_eq, I.gFdiv_eq, I.gMod_eq, I.gPow_eq, I.gLt_eq, I.gLe_eq, I.gGt_eq, I.gGe_eq, I.gNeg_eq, I.gEqD_eq, I.gIs_eq, I.gIsNot_eq, I.bLen_eq, I.bInt_eq, I.bTuple_eq, I.bListD_eq, I.mTup_eq, I.mLst_eq, I.mNew_eq, I.mSeq_eq, I.mTru_eq, I.mCut_eq, I.mPut_eq, I.bAll_eq, I.bAny_eq, I.bSum_eq, I.bSorted_eq, I.bMax_eq, I.bMin_eq, I.kMM_eq, I.bIsi_eq, I.mIt_eq, I.mEnu_eq, I.mZip_eq, I.forL_eq, I.whileL_eq, I.lcL_eq, I.lcO_eq, I.lcB2_eq, I.cDisp_eq, I.gIn_eq, I.mUpd_eq, I.mApp_eq] at *
  exact R.eqI h
theorem eqD {neg : Bool} {x y : T} {n : Nat} (hn : n ≤ 64) (hx : dat n x = true) (hy : dat n y = true) (h : P (.bl (if neg then !decide (x = y) else decide (x = y))) μ) : OkI (I.gEqD neg x y μ) P E := by
  simp only [OkI_eq, I.cVar_eq, I.cK_eq, I.c1_eq, I.c2_eq, I.cN_eq, I.aNil_eq, I.aCons_eq, I.aStar_eq, I.cTest_eq, I.cTru_eq, I.cAnd_eq, I.cOr_eq, I.cNot_eq, I.cYes_eq, I.cIf_eq, I.cAndT_eq, I.cOrT_eq, I.cNotT_eq, I.cChain_eq, I.cCall_eq, I.cSlice_eq, I.oNone_eq, I.oSome_eq, I.cKw_eq, I.cMeth_eq, I.cRgL1_eq, I.cRgL2_eq, I.iSeq_eq, I.iRg1_eq, I.iRg2_eq, I.iZp_eq, I.iEn_eq, I.cLc_eq, I.cLc2_eq, I.lcT_eq, I.sNil_eq, I.sPass_eq, I.sBreak_eq, I.sCont_eq, I.sBad_eq, I.sRetN_eq, I.sSeq_eq, I.sExpr_eq, I.sRet_eq, I.sSet_eq, I.sIf_eq, I.sAsg_eq, I.sStore_eq, I.sPar_eq, I.sPar3_eq, I.sAug_eq, I.sFor_eq, I.stp_eq, I.fnD_eq, I.gIxD_eq, I.gAdd_eq, I.gSub_eq, I.gMulI_eq, I.gFdiv_eq, I.gMod_eq, I.gPow_eq, I.gLt_eq, I.gLe_eq, I.gGt_eq, I.gGe_eq, I.gNeg_eq, I.gEqD_eq, I.gIs_eq, I.gIsNot_eq, I.bLen_eq, I.bInt_eq, I.bTuple_eq, I.bListD_eq, I.mTup_eq, I.mLst_eq, I.mNew_eq, I.mSeq_eq, I.mTru_eq, I.mCut_eq, I.mPut_eq, I.bAll_eq, I.bAny_eq, I.bSum_eq, I.bSorted_eq, I.bMax_eq, I.bMin_eq, I.kMM_eq, I.bIsi_eq, I.mIt_eq, I.mEnu_eq, I.mZip_eq, I.forL_eq, I.whileL_eq, I.lcL_eq, I.lcO_eq, I.lcB2_eq, I.cDisp_eq, I.gIn_eq, I.mUpd_eq, I.mApp_eq] at *
  exact R.eqD hn hx hy h
theorem eqI0 {i j : Int} (h : P (.bl (decide (i = j))) μ) : OkI (I.gEqD false (.int i) (.int j) μ) P E := by
  simp only [OkI_eq, I.cVar_eq, I.cK_eq, I.c1_eq, I.c2_eq, I.cN_eq, I.aNil_eq, I.aCons_eq, I.aStar_eq, I.cTest_eq, I.cTru_eq, I.cAnd_eq, I.cOr_eq, I.cNot_eq, I.cYes_eq, I.cIf_eq, I.cAndT_eq, I.cOrT_eq, I.cNotT_eq, I.cChain_eq, I.cCall_eq, I.cSlice_eq, I.oNone_eq, I.oSome_eq, I.cKw_eq, I.cMeth_eq, I.cRgL1_eq, I.cRgL2_eq, I.iSeq_eq, I.iRg1_eq, I.iRg2_eq, I.iZp_eq, I.iEn_eq, I.cLc_eq, I.cLc2_eq, I.lcT_eq, I.sNil_eq, I.sPass_eq, I.sBreak_eq, I.sCont_eq, I.sBad_eq, I.sRetN_eq, I.sSeq_eq, I.sExpr_eq, I.sRet_eq, I.sSet_eq, I.sIf_eq, I.sAsg_eq, I.sStore_eq, I.sPar_eq, I.sPar3_eq, I.sAug_eq, I.sFor_eq, I.stp_eq, I.fnD_eq, I.gIxD_eq, I.gAdd_eq, I.gSub_eq, I.gMulI_eq, I.gFdiv_eq, I.gMod_eq, I.gPow_eq, I.gLt_eq, I.gLe_eq, I.gGt_eq, I.gGe_eq, I.gNeg_eq, I.gEqD_eq, I.gIs_eq, I.gIsNot_eq, I.bLen_eq, I.bInt_eq, I.bTuple_eq, I.bListD_eq, I.mTup_eq, I.mLst_eq, I.mNew_eq, I.mSeq_eq, I.mTru_eq, I.mCut_eq, I.mPut_eq, I.bAll_eq, I.bAny_eq, I.bSum_eq, I.bSorted_eq, I.bMax_eq, I.bMin_eq, I.kMM_eq, I.bIsi_eq, I.mIt_eq, I.mEnu_eq, I.mZip_eq, I.forL_eq, I.whileL_eq, I.lcL_eq, I.lcO_eq, I.lcB2_eq, I.cDisp_eq, I.gIn_eq, I.mUpd_eq, I.mApp_eq] at *
  exact R.eqI0 h
theorem eqI1 {i j : Int} (h : P (.bl (!decide (i = j))) μ) : OkI (I.gEqD true (.int i) (.int j) μ) P E := by
  simp only [OkI_eq, I.cVar_eq, I.cK_eq, I.c1_eq, I.c2_eq, I.cN_eq, I.aNil_eq, I.aCons_eq, I.aStar_eq, I.cTest_eq, I.cTru_eq, I.cAnd_eq, I.cOr_eq, I.cNot_eq, I.cYes_eq, I.cIf_eq, I.cAndT_eq, I.cOrT_eq, I.cNotT_eq, I.cChain_eq, I.cCall_eq, I.cSlice_eq, I.oNone_eq, I.oSome_eq, I.cKw_eq, I.cMeth_eq, I.cRgL1_eq, I.cRgL2_eq, I.iSeq_eq, I.iRg1_eq, I.iRg2_eq, I.iZp_eq, I.iEn_eq, I.cLc_eq, I.cLc2_eq, I.lcT_eq, I.sNil_eq, I.sPass_eq, I.sBreak_eq, I.sCont_eq, I.sBad_eq, I.sRetN_eq, I.sSeq_eq, I.sExpr_eq, I.sRet_eq, I.sSet_eq, I.sIf_eq, I.sAsg_eq, I.sStore_eq, I.sPar_eq, I.sPar3_eq, I.sAug_eq, I.sFor_eq, I.stp_eq, I.fnD_eq, I.gIxD_eq, I.gAdd_eq, I.gSub_eq, I.gMulI_eq, I.gFdiv_eq, I.gMod_eq, I.gPow_eq, I.gLt_eq, I.gLe_eq, I.gGt_eq, I.gGe_eq, I.gNeg_eq, I.gEqD_eq, I.gIs_eq, I.gIsNot_eq, I.bLen_eq, I.bInt_eq, I.bTuple_eq, I.bListD_eq, I.mTup_eq, I.mLst_eq, I.mNew_eq, I.mSeq_eq, I.mTru_eq, I.mCut_eq, I.mPut_eq, I.bAll_eq, I.bAny_eq, I.bSum_eq, I.bSorted_eq, I.bMax_eq, I.bMin_eq, I.kMM_eq, I.bIsi_eq, I.mIt_eq, I.mEnu_eq, I.mZip_eq, I.forL_eq, I.whileL_eq, I.lcL_eq, I.lcO_eq, I.lcB2_eq, I.cDisp_eq, I.gIn_eq, I.mUpd_eq, I.mApp_eq] at *
  exact R.eqI1 h
theorem eqD0 {x y : T} {n : Nat} (hn : n ≤ 64) (hx : dat n x = true) (hy : dat n y = true) (h : P (.bl (decide (x = y))) μ) : OkI (I.gEqD false x y μ) P E := by
  simp only [OkI_eq, I.cVar_eq, I.cK_eq, I.c1_eq, I.c2_eq, I.cN_eq, I.aNil_eq, I.aCons_eq, I.aStar_eq, I.cTest_eq, I.cTru_eq, I.cAnd_eq, I.cOr_eq, I.cNot_eq, I.cYes_eq, I.cIf_eq, I.cAndT_eq, I.cOrT_eq, I.cNotT_eq, I.cChain_eq, I.cCall_eq, I.cSlice_eq, I.oNone_eq, I.oSome_eq, I.cKw_eq, I.cMeth_eq, I.cRgL1_eq, I.cRgL2_eq, I.iSeq_eq, I.iRg1_eq, I.iRg2_eq, I.iZp_eq, I.iEn_eq, I.cLc_eq, I.cLc2_eq, I.lcT_eq, I.sNil_eq, I.sPass_eq, I.sBreak_eq, I.sCont_eq, I.sBad_eq, I.sRetN_eq, I.sSeq_eq, I.sExpr_eq, I.sRet_eq, I.sSet_eq, I.sIf_eq, I.sAsg_eq, I.sStore_eq, I.sPar_eq, I.sPar3_eq, I.sAug_eq, I.sFor_eq, I.stp_eq, I.fnD_eq, I.gIxD_eq, I.gAdd_eq, I.gSub_eq, I.gMulI_eq, I.gFdiv_eq, I.gMod_eq, I.gPow_eq, I.gLt_eq, I.gLe_eq, I.gGt_eq, I.gGe_eq, I.gNeg_eq, I.gEqD_eq, I.gIs_eq, I.gIsNot_eq, I.bLen_eq, I.bInt_eq, I.bTuple_eq, I.bListD_eq, I.mTup_eq, I.mLst_eq, I.mNew_eq, I.mSeq_eq, I.mTru_eq, I.mCut_eq, I.mPut_eq, I.bAll_eq, I.bAny_eq, I.bSum_eq, I.bSorted_eq, I.bMax_eq, I.bMin_eq, I.kMM_eq, I.bIsi_eq, I.mIt_eq, I.mEnu_eq, I.mZip_eq, I.forL_eq, I.whileL_eq, I.lcL_eq, I.lcO_eq, I.lcB2_eq, I.cDisp_eq, I.gIn_eq, I.mUpd_eq, I.mApp_eq] at *
  exact R.eqD0 hn hx hy h
theorem eqD1 {x y : T} {n : Nat} (hn : n ≤ 64) (hx : dat n x = true) (hy : dat n y = true) (h : P (.bl (!decide (x = y))) μ) : OkI (I.gEqD true x y μ) P E := by
  simp only [OkI_eq, I.cVar_eq, I.cK_eq, I.c1_eq, I.c2_eq, I.cN_eq, I.aNil_eq, I.aCons_eq, I.aStar_eq, I.cTest_eq, I.cTru_eq, I.cAnd_eq, I.cOr_eq, I.cNot_eq, I.cYes_eq, I.cIf_eq, I.cAndT_eq, I.cOrT_eq, I.cNotT_eq, I.cChain_eq, I.cCall_eq, I.cSlice_eq, I.oNone_eq, I.oSome_eq, I.cKw_eq, I.cMeth_eq, I.cRgL1_eq, I.cRgL2_eq, I.iSeq_eq, I.iRg1_eq, I.iRg2_eq, I.iZp_eq, I.iEn_eq, I.cLc_eq, I.cLc2_eq, I.lcT_eq, I.sNil_eq, I.sPass_eq, I.sBreak_eq, I.sCont_eq, I.sBad_eq, I.sRetN_eq, I.sSeq_eq, I.sExpr_eq, I.sRet_eq, I.sSet_eq, I.sIf_eq, I.sAsg_eq, I.sStore_eq, I.sPar_eq, I.sPar3_eq, I.sAug_eq, I.sFor_eq, I.stp_eq, I.fnD_eq, I.gIxD_eq, I.gAdd_eq, I.gSub_eq, I.gMulI_eq, I.gFdiv_eq, I.gMod_eq, I.gPow_eq, I.gLt_eq, I.gLe_eq, I.gGt_eq, I.gGe_eq, I.gNeg_eq, I.gEqD_eq, I.gIs_eq, I.gIsNot_eq, I.bLen_eq, I.bInt_eq, I.bTuple_eq, I.bListD_eq, I.mTup_eq, I.mLst_eq, I.mNew_eq, I.mSeq_eq, I.mTru_eq, I.mCut_eq, I.mPut_eq, I.bAll_eq, I.bAny_eq, I.bSum_eq, I.bSorted_eq, I.bMax_eq, I.bMin_eq, I.kMM_eq, I.bIsi_eq, I.mIt_eq, I.mEnu_eq, I.mZip_eq, I.forL_eq, I.whileL_eq, I.lcL_eq, I.lcO_eq, I.lcB2_eq, I.cDisp_eq, I.gIn_eq, I.mUpd_eq, I.mApp_eq] at *
  exact R.eqD1 hn hx hy h
theorem bLenT {ts : List T} (h : P (.int ts.length) μ) : OkI (I.bLen [.tup ts] μ) P E := by
  simp only [OkI_eq, I.cVar_eq, I.cK_eq, I.c1_eq, I.c2_eq, I.cN_eq, I.aNil_eq, I.aCons_eq, I.aStar_eq, I.cTest_eq, I.cTru_eq, I.cAnd_eq, I.cOr_eq, I.cNot_eq, I.cYes_eq, I.cIf_eq, I.cAndT_eq, I.cOrT_eq, I.cNotT_eq, I.cChain_eq, I.cCall_eq, I.cSlice_eq, I.oNone_eq, I.oSome_eq, I.cKw_eq, I.cMeth_eq, I.cRgL1_eq, I.cRgL2_eq, I.iSeq_eq, I.iRg1_eq, I.iRg2_eq, I.iZp_eq, I.iEn_eq, I.cLc_eq, I.cLc2_eq, I.lcT_eq, I.sNil_eq, I.sPass_eq, I.sBreak_eq, I.sCont_eq, I.sBad_eq, I.sRetN_eq, I.sSeq_eq, I.sExpr_eq, I.sRet_eq, I.sSet_eq, I.sIf_eq, I.sAsg_eq, I.sStore_eq, I.sPar_eq, I.sPar3_eq, I.sAug_eq, I.sFor_eq, I.stp_eq, I.fnD_eq, I.gIxD_eq, I.gAdd_eq, I.gSub_eq, I.gMulI_eq, I.gFdiv_eq, I.gMod_eq, I.gPow_eq, I.gLt_eq, I.gLe_eq, I.gGt_eq, I.gGe_eq, I.gNeg_eq, I.gEqD_eq, I.gIs_eq, I.gIsNot_eq, I.bLen_eq, I.bInt_eq, I.bTuple_eq, I.bListD_eq, I.mTup_eq, I.mLst_eq, I.mNew_eq, I.mSeq_eq, I.mTru_eq, I.mCut_eq, I.mPut_eq, I.bAll_eq, I.bAny_eq, I.bSum_eq, I.bSorted_eq, I.bMax_eq, I.bMin_eq, I.kMM_eq, I.bIsi_eq, I.mIt_eq, I.mEnu_eq, I.mZip_eq, I.forL_eq, I.whileL_eq, I.lcL_eq, I.lcO_eq, I.lcB2_eq, I.cDisp_eq, I.gIn_eq, I.mUpd_eq, I.mApp_eq] at *
  exact R.bLenT h
theorem bLenL {ts : List T} (h : P (.int ts.length) μ) : OkI (I.bLen [.lst ts] μ) P E := by
  simp only [OkI_eq, I.cVar_eq, I.cK_eq, I.c1_eq, I.c2_eq, I.cN_eq, I.aNil_eq, I.aCons_eq, I.aStar_eq, I.cTest_eq, I.cTru_eq, I.cAnd_eq, I.cOr_eq, I.cNot_eq, I.cYes_eq, I.cIf_eq, I.cAndT_eq, I.cOrT_eq, I.cNotT_eq, I.cChain_eq, I.cCall_eq, I.cSlice_eq, I.oNone_eq, I.oSome_eq, I.cKw_eq, I.cMeth_eq, I.cRgL1_eq, I.cRgL2_eq, I.iSeq_eq, I.iRg1_eq, I.iRg2_eq, I.iZp_eq, I.iEn_eq, I.cLc_eq, I.cLc2_eq, I.lcT_eq, I.sNil_eq, I.sPass_eq, I.sBreak_eq, I.sCont_eq, I.sBad_eq, I.sRetN_eq, I.sSeq_eq, I.sExpr_eq, I.sRet_eq, I.sSet_eq, I.sIf_eq, I.sAsg_eq, I.sStore_eq, I.sPar_eq, I.sPar3_eq, I.sAug_eq, I.sFor_eq, I.stp_eq, I.fnD_eq, I.gIxD_eq, I.gAdd_eq, I.gSub_eq, I.gMulI_eq, I.gFdiv_eq, I.gMod_eq, I.gPow_eq, I.gLt_eq, I.gLe_eq, I.gGt_eq, I.gGe_eq, I.gNeg_eq, I.gEqD_eq, I.gIs_eq, I.gIsNot_eq, I.bLen_eq, I.bInt_eq, I.bTuple_eq, I.bListD_eq, I.mTup_eq, I.mLst_eq, I.mNew_eq, I.mSeq_eq, I.mTru_eq, I.mCut_eq, I.mPut_eq, I.bAll_eq, I.bAny_eq, I.bSum_eq, I.bSorted_eq, I.bMax_eq, I.bMin_eq, I.kMM_eq, I.bIsi_eq, I.mIt_eq, I.mEnu_eq, I.mZip_eq, I.forL_eq, I.whileL_eq, I.lcL_eq, I.lcO_eq, I.lcB2_eq, I.cDisp_eq, I.gIn_eq, I.mUpd_eq, I.mApp_eq] at *
  exact R.bLenL h
theorem bLenS {ts : List T} (h : P (.int ts.length) μ) : OkI (I.bLen [.scr ts] μ) P E := by
  simp only [OkI_eq, I.cVar_eq, I.cK_eq, I.c1_eq, I.c2_eq, I.cN_eq, I.aNil_eq, I.aCons_eq, I.aStar_eq, I.cTest_eq, I.cTru_eq, I.cAnd_eq, I.cOr_eq, I.cNot_eq, I.cYes_eq, I.cIf_eq, I.cAndT_eq, I.cOrT_eq, I.cNotT_eq, I.cChain_eq, I.cCall_eq, I.cSlice_eq, I.oNone_eq, I.oSome_eq, I.cKw_eq, I.cMeth_eq, I.cRgL1_eq, I.cRgL2_eq, I.iSeq_eq, I.iRg1_eq, I.iRg2_eq, I.iZp_eq, I.iEn_eq, I.cLc_eq, I.cLc2_eq, I.lcT_eq, I.sNil_eq, I.sPass_eq, I.sBreak_eq, I.sCont_eq, I.sBad_eq, I.sRetN_eq, I.sSeq_eq, I.sExpr_eq, I.sRet_eq, I.sSet_eq, I.sIf_eq, I.sAsg_eq, I.sStore_eq, I.sPar_eq, I.sPar3_eq, I.sAug_eq, I.sFor_eq, I.stp_eq, I.fnD_eq, I.gIxD_eq, I.gAdd_eq, I.gSub_eq, I.gMulI_eq, I.gFdiv_eq, I.gMod_eq, I.gPow_eq, I.gLt_eq, I.gLe_eq, I.gGt_eq, I.gGe_eq, I.gNeg_eq, I.gEqD_eq, I.gIs_eq, I.gIsNot_eq, I.bLen_eq, I.bInt_eq, I.bTuple_eq, I.bListD_eq, I.mTup_eq, I.mLst_eq, I.mNew_eq, I.mSeq_eq, I.mTru_eq, I.mCut_eq, I.mPut_eq, I.bAll_eq, I.bAny_eq, I.bSum_eq, I.bSorted_eq, I.bMax_eq, I.bMin_eq, I.kMM_eq, I.bIsi_eq, I.mIt_eq, I.mEnu_eq, I.mZip_eq, I.forL_eq, I.whileL_eq, I.lcL_eq, I.lcO_eq, I.lcB2_eq, I.cDisp_eq, I.gIn_eq, I.mUpd_eq, I.mApp_eq] at *
  exact R.bLenS h
theorem bLenO {n : Nat} {ts : List T} (hm : μ[n]? = some (some (.lst ts))) (h : P (.int ts.length) μ) : OkI (I.bLen [.obj n] μ) P E := by
  simp only [OkI_eq, I.cVar_eq, I.cK_eq, I.c1_eq, I.c2_eq, I.cN_eq, I.aNil_eq, I.aCons_eq, I.aStar_eq, I.cTest_eq, I.cTru_eq, I.cAnd_eq, I.cOr_eq, I.cNot_eq, I.cYes_eq, I.cIf_eq, I.cAndT_eq, I.cOrT_eq, I.cNotT_eq, I.cChain_eq, I.cCall_eq, I.cSlice_eq, I.oNone_eq, I.oSome_eq, I.cKw_eq, I.cMeth_eq, I.cRgL1_eq, I.cRgL2_eq, I.iSeq_eq, I.iRg1_eq, I.iRg2_eq, I.iZp_eq, I.iEn_eq, I.cLc_eq, I.cLc2_eq, I.lcT_eq, I.sNil_eq, I.sPass_eq, I.sBreak_eq, I.sCont_eq, I.sBad_eq, I.sRetN_eq, I.sSeq_eq, I.sExpr_eq, I.sRet_eq, I.sSet_eq, I.sIf_eq, I.sAsg_eq, I.sStore_eq, I.sPar_eq, I.sPar3_eq, I.sAug_eq, I.sFor_eq, I.stp_eq, I.fnD_eq, I.gIxD_eq, I.gAdd_eq, I.gSub_eq, I.gMulI_eq, I.gFdiv_eq, I.gMod_eq, I.gPow_eq, I.gLt_eq, I.gLe_eq, I.gGt_eq, I.gGe_eq, I.gNeg_eq, I.gEqD_eq, I.gIs_eq, I.gIsNot_eq, I.bLen_eq, I.bInt_eq, I.bTuple_eq, I.bListD_eq, I.mTup_eq, I.mLst_eq, I.mNew_eq, I.mSeq_eq, I.mTru_eq, I.mCut_eq, I.mPut_eq, I.bAll_eq, I.bAny_eq, I.bSum_eq, I.bSorted_eq, I.bMax_eq, I.bMin_eq, I.kMM_eq, I.bIsi_eq, I.mIt_eq, I.mEnu_eq, I.mZip_eq, I.forL_eq, I.whileL_eq, I.lcL_eq, I.lcO_eq, I.lcB2_eq, I.cDisp_eq, I.gIn_eq, I.mUpd_eq, I.mApp_eq] at *
  exact R.bLenO hm h
theorem bInt {i : Int} (h : P (.int i) μ) : OkI (I.bInt [.int i] μ) P E := by
  simp only [OkI_eq, I.cVar_eq, I.cK_eq, I.c1_eq, I.c2_eq, I.cN_eq, I.aNil_eq, I.aCons_eq, I.aStar_eq, I.cTest_eq, I.cTru_eq, I.cAnd_eq, I.cOr_eq, I.cNot_eq, I.cYes_eq, I.cIf_eq, I.cAndT_eq, I.cOrT_eq, I.cNotT_eq, I.cChain_eq, I.cCall_eq, I.cSlice_eq, I.oNone_eq, I.oSome_eq, I.cKw_eq, I.cMeth_eq, I.cRgL1_eq, I.cRgL2_eq, I.iSeq_eq, I.iRg1_eq, I.iRg2_eq, I.iZp_eq, I.iEn_eq, I.cLc_eq, I.cLc2_eq, I.lcT_eq, I.sNil_eq, I.sPass_eq, I.sBreak_eq, I.sCont_eq, I.sBad_eq, I.sRetN_eq, I.sSeq_eq, I.sExpr_eq, I.sRet_eq, I.sSet_eq, I.sIf_eq, I.sAsg_eq, I.sStore_eq, I.sPar_eq, I.sPar3_eq, I.sAug_eq, I.sFor_eq, I.stp_eq, I.fnD_eq, I.gIxD_eq, I.gAdd_eq, I.gSub_eq, I.gMulI_eq, I.gFdiv_eq, I.gMod_eq, I.gPow_eq, I.gLt_eq, I.gLe_eq, I.gGt_eq, I.gGe_eq, I.gNeg_eq, I.gEqD_eq, I.gIs_eq, I.gIsNot_eq, I.bLen_eq, I.bInt_eq, I.bTuple_eq, I.bListD_eq, I.mTup_eq, I.mLst_eq, I.mNew_eq, I.mSeq_eq, I.mTru_eq, I.mCut_eq, I.mPut_eq, I.bAll_eq, I.bAny_eq, I.bSum_eq, I.bSorted_eq, I.bMax_eq, I.bMin_eq, I.kMM_eq, I.bIsi_eq, I.mIt_eq, I.mEnu_eq, I.mZip_eq, I.forL_eq, I.whileL_eq, I.lcL_eq, I.lcO_eq, I.lcB2_eq, I.cDisp_eq, I.gIn_eq, I.mUpd_eq, I.mApp_eq] at *
  exact R.bInt h
theorem bIntB {k : Bool} (h : P (.int (if k then 1 else 0)) μ) : OkI (I.bInt [.bl k] μ) P E := by
  simp only [OkI_eq, I.cVar_eq, I.cK_eq, I.c1_eq, I.c2_eq, I.cN_eq, I.aNil_eq, I.aCons_eq, I.aStar_eq, I.cTest_eq, I.cTru_eq, I.cAnd_eq, I.cOr_eq, I.cNot_eq, I.cYes_eq, I.cIf_eq, I.cAndT_eq, I.cOrT_eq, I.cNotT_eq, I.cChain_eq, I.cCall_eq, I.cSlice_eq, I.oNone_eq, I.oSome_eq, I.cKw_eq, I.cMeth_eq, I.cRgL1_eq, I.cRgL2_eq, I.iSeq_eq, I.iRg1_eq, I.iRg2_eq, I.iZp_eq, I.iEn_eq, I.cLc_eq, I.cLc2_eq, I.lcT_eq, I.sNil_eq, I.sPass_eq, I.sBreak_eq, I.sCont_eq, I.sBad_eq, I.sRetN_eq, I.sSeq_eq, I.sExpr_eq, I.sRet_eq, I.sSet_eq, I.sIf_eq, I.sAsg_eq, I.sStore_eq, I.sPar_eq, I.sPar3_eq, I.sAug_eq, I.sFor_eq, I.stp_eq, I.fnD_eq, I.gIxD_eq, I.gAdd_eq, I.gSub_eq, I.gMulI_eq, I.gFdiv_eq, I.gMod_eq, I.gPow_eq, I.gLt_eq, I.gLe_eq, I.gGt_eq, I.gGe_eq, I.gNeg_eq, I.gEqD_eq, I.gIs_eq, I.gIsNot_eq, I.bLen_eq, I.bInt_eq, I.bTuple_eq, I.bListD_eq, I.mTup_eq, I.mLst_eq, I.mNew_eq, I.mSeq_eq, I.mTru_eq, I.mCut_eq, I.mPut_eq, I.bAll_eq, I.bAny_eq, I.bSum_eq, I.bSorted_eq, I.bMax_eq, I.bMin_eq, I.kMM_eq, I.bIsi_eq, I.mIt_eq, I.mEnu_eq, I.mZip_eq, I.forL_eq, I.whileL_eq, I.lcL_eq, I.lcO_eq, I.lcB2_eq, I.cDisp_eq, I.gIn_eq, I.mUpd_eq, I.mApp_eq] at *
  exact R.bIntB h
theorem bTupL {ts : List T} (h : P (.tup ts) μ) : OkI (I.bTuple [.lst ts] μ) P E := by
  simp only [OkI_eq, I.cVar_eq, I.cK_eq, I.c1_eq, I.c2_eq, I.cN_eq, I.aNil_eq, I.aCons_eq, I.aStar_eq, I.cTest_eq, I.cTru_eq, I.cAnd_eq, I.cOr_eq, I.cNot_eq, I.cYes_eq, I.cIf_eq, I.cAndT_eq, I.cOrT_eq, I.cNotT_eq, I.cChain_eq, I.cCall_eq, I.cSlice_eq, I.oNone_eq, I.oSome_eq, I.cKw_eq, I.cMeth_eq, I.cRgL1_eq, I.cRgL2_eq, I.iSeq_eq, I.iRg1_eq, I.iRg2_eq, I.iZp_eq, I.iEn_eq, I.cLc_eq, I.cLc2_eq, I.lcT_eq, I.sNil_eq, I.sPass_eq, I.sBreak_eq, I.sCont_eq, I.sBad_eq, I.sRetN_eq, I.sSeq_eq, I.sExpr_eq, I.sRet_eq, I.sSet_eq, I.sIf_eq, I.sAsg_eq, I.sStore_eq, I.sPar_eq, I.sPar3_eq, I.sAug_eq, I.sFor_eq, I.stp_eq, I.fnD_eq, I.gIxD_eq, I.gAdd_eq, I.gSub_eq, I.gMulI_eq, I.gFdiv_eq, I.gMod_eq, I.gPow_eq, I.gLt_eq, I.gLe_eq, I.gGt_eq, I.gGe_eq, I.gNeg_eq, I.gEqD_eq, I.gIs_eq, I.gIsNot_eq, I.bLen_eq, I.bInt_eq, I.bTuple_eq, I.bListD_eq, I.mTup_eq, I.mLst_eq, I.mNew_eq, I.mSeq_eq, I.mTru_eq, I.mCut_eq, I.mPut_eq, I.bAll_eq, I.bAny_eq, I.bSum_eq, I.bSorted_eq, I.bMax_eq, I.bMin_eq, I.kMM_eq, I.bIsi_eq, I.mIt_eq, I.mEnu_eq, I.mZip_eq, I.forL_eq, I.whileL_eq, I.lcL_eq, I.lcO_eq, I.lcB2_eq, I.cDisp_eq, I.gIn_eq, I.mUpd_eq, I.mApp_eq] at *
  exact R.bTupL h
theorem bTupT {ts : List T} (h : P (.tup ts) μ) : OkI (I.bTuple [.tup ts] μ) P E := by
  simp only [OkI_eq, I.cVar_eq, I.cK_eq, I.c1_eq, I.c2_eq, I.cN_eq, I.aNil_eq, I.aCons_eq, I.aStar_eq, I.cTest_eq, I.cTru_eq, I.cAnd_eq, I.cOr_eq, I.cNot_eq, I.cYes_eq, I.cIf_eq, I.cAndT_eq, I.cOrT_eq, I.cNotT_eq, I.cChain_eq, I.cCall_eq, I.cSlice_eq, I.oNone_eq, I.oSome_eq, I.cKw_eq, I.cMeth_eq, I.cRgL1_eq, I.cRgL2_eq, I.iSeq_eq, I.iRg1_eq, I.iRg2_eq, I.iZp_eq, I.iEn_eq, I.cLc_eq, I.cLc2_eq, I.lcT_eq, I.sNil_eq, I.sPass_eq, I.sBreak_eq, I.sCont_eq, I.sBad_eq, I.sRetN_eq, I.sSeq_eq, I.sExpr_eq, I.sRet_eq, I.sSet_eq, I.sIf_eq, I.sAsg_eq, I.sStore_eq, I.sPar_eq, I.sPar3_eq, I.sAug_eq, I.sFor_eq, I.stp_eq, I.fnD_eq, I.gIxD_eq, I.gAdd_eq, I.gSub_eq, I.gMulI_eq, I.gFdiv_eq, I.gMod_eq, I.gPow_eq, I.gLt_eq, I.gLe_eq, I.gGt_eq, I.gGe_eq, I.gNeg_eq, I.gEqD_eq, I.gIs_eq, I.gIsNot_eq, I.bLen_eq, I.bInt_eq, I.bTuple_eq, I.bListD_eq, I.mTup_eq, I.mLst_eq, I.mNew_eq, I.mSeq_eq, I.mTru_eq, I.mCut_eq, I.mPut_eq, I.bAll_eq, I.bAny_eq, I.bSum_eq, I.bSorted_eq, I.bMax_eq, I.bMin_eq, I.kMM_eq, I.bIsi_eq, I.mIt_eq, I.mEnu_eq, I.mZip_eq, I.forL_eq, I.whileL_eq, I.lcL_eq, I.lcO_eq, I.lcB2_eq, I.cDisp_eq, I.gIn_eq, I.mUpd_eq, I.mApp_eq] at *
  exact R.bTupT h
theorem bLstT {ts : List T} (h : P (.lst ts) μ) : OkI (I.bListD [.tup ts] μ) P E := by
  simp only [OkI_eq, I.cVar_eq, I.cK_eq, I.c1_eq, I.c2_eq, I.cN_eq, I.aNil_eq, I.aCons_eq, I.aStar_eq, I.cTest_eq, I.cTru_eq, I.cAnd_eq, I.cOr_eq, I.cNot_eq, I.cYes_eq, I.cIf_eq, I.cAndT_eq, I.cOrT_eq, I.cNotT_eq, I.cChain_eq, I.cCall_eq, I.cSlice_eq, I.oNone_eq, I.oSome_eq, I.cKw_eq, I.cMeth_eq, I.cRgL1_eq, I.cRgL2_eq, I.iSeq_eq, I.iRg1_eq, I.iRg2_eq, I.iZp_eq, I.iEn_eq, I.cLc_eq, I.cLc2_eq, I.lcT_eq, I.sNil_eq, I.sPass_eq, I.sBreak_eq, I.sCont_eq, I.sBad_eq, I.sRetN_eq, I.sSeq_eq, I.sExpr_eq, I.sRet_eq, I.sSet_eq, I.sIf_eq, I.sAsg_eq, I.sStore_eq, I.sPar_eq, I.sPar3_eq, I.sAug_eq, I.sFor_eq, I.stp_eq, I.fnD_eq, I.gIxD_eq, I.gAdd_eq, I.gSub_eq, I.gMulI_eq, I.gFdiv_eq, I.gMod_eq, I.gPow_eq, I.gLt_eq, I.gLe_eq, I.gGt_eq, I.gGe_eq, I.gNeg_eq, I.gEqD_eq, I.gIs_eq, I.gIsNot_eq, I.bLen_eq, I.bInt_eq, I.bTuple_eq, I.bListD_eq, I.mTup_eq, I.mLst_eq, I.mNew_eq, I.mSeq_eq, I.mTru_eq, I.mCut_eq, I.mPut_eq, I.bAll_eq, I.bAny_eq, I.bSum_eq, I.bSorted_eq, I.bMax_eq, I.bMin_eq, I.kMM_eq, I.bIsi_eq, I.mIt_eq, I.mEnu_eq, I.mZip_eq, I.forL_eq, I.whileL_eq, I.lcL_eq, I.lcO_eq, I.lcB2_eq, I.cDisp_eq, I.gIn_eq, I.mUpd_eq, I.mApp_eq] at *
  exact R.bLstT h
theorem bLstL {ts : List T} (h : P (.lst ts) μ) : OkI (I.bListD [.lst ts] μ) P E := by
  simp only [OkI_eq, I.cVar_eq, I.cK_eq, I.c1_eq, I.c2_eq, I.cN_eq, I.aNil_eq, I.aCons_eq, I.aStar_eq, I.cTest_eq, I.cTru_eq, I.cAnd_eq, I.cOr_eq, I.cNot_eq, I.cYes_eq, I.cIf_eq, I.cAndT_eq, I.cOrT_eq, I.cNotT_eq, I.cChain_eq, I.cCall_eq, I.cSlice_eq, I.oNone_eq, I.oSome_eq, I.cKw_eq, I.cMeth_eq, I.cRgL1_eq, I.cRgL2_eq, I.iSeq_eq, I.iRg1_eq, I.iRg2_eq, I.iZp_eq, I.iEn_eq, I.cLc_eq, I.cLc2_eq, I.lcT_eq, I.sNil_eq, I.sPass_eq, I.sBreak_eq, I.sCont_eq, I.sBad_eq, I.sRetN_eq, I.sSeq_eq, I.sExpr_eq, I.sRet_eq, I.sSet_eq, I.sIf_eq, I.sAsg_eq, I.sStore_eq, I.sPar_eq, I.sPar3_eq, I.sAug_eq, I.sFor_eq, I.stp_eq, I.fnD_eq, I.gIxD_eq, I.gAdd_eq, I.gSub_eq, I.gMulI_eq, I.gFdiv_eq, I.gMod_eq, I.gPow_eq, I.gLt_eq, I.gLe_eq, I.gGt_eq, I.gGe_eq, I.gNeg_eq, I.gEqD_eq, I.gIs_eq, I.gIsNot_eq, I.bLen_eq, I.bInt_eq, I.bTuple_eq, I.bListD_eq, I.mTup_eq, I.mLst_eq, I.mNew_eq, I.mSeq_eq, I.mTru_eq, I.mCut_eq, I.mPut_eq, I.bAll_eq, I.bAny_eq, I.bSum_eq, I.bSorted_eq, I.bMax_eq, I.bMin_eq, I.kMM_eq, I.bIsi_eq, I.mIt_eq, I.mEnu_eq, I.mZip_eq, I.forL_eq, I.whileL_eq, I.lcL_eq, I.lcO_eq, I.lcB2_eq, I.cDisp_eq, I.gIn_eq, I.mUpd_eq, I.mApp_eq] at *
  exact R.bLstL h
theorem bLstD {n : Nat} {ks : List Key} {ts : List T} (hm : μ[n]? = some (some (.dic ks ts))) (h : P (.lst (ks.map unKey)) μ) : OkI (I.bListD [.obj n] μ) P E := by
  simp only [OkI_eq, I.cVar_eq, I.cK_eq, I.c1_eq, I.c2_eq, I.cN_eq, I.aNil_eq, I.aCons_eq, I.aStar_eq, I.cTest_eq, I.cTru_eq, I.cAnd_eq, I.cOr_eq, I.cNot_eq, I.cYes_eq, I.cIf_eq, I.cAndT_eq, I.cOrT_eq, I.cNotT_eq, I.cChain_eq, I.cCall_eq, I.cSlice_eq, I.oNone_eq, I.oSome_eq, I.cKw_eq, I.cMeth_eq, I.cRgL1_eq, I.cRgL2_eq, I.iSeq_eq, I.iRg1_eq, I.iRg2_eq, I.iZp_eq, I.iEn_eq, I.cLc_eq, I.cLc2_eq, I.lcT_eq, I.sNil_eq, I.sPass_eq, I.sBreak_eq, I.sCont_eq, I.sBad_eq, I.sRetN_eq, I.sSeq_eq, I.sExpr_eq, I.sRet_eq, I.sSet_eq, I.sIf_eq, I.sAsg_eq, I.sStore_eq, I.sPar_eq, I.sPar3_eq, I.sAug_eq, I.sFor_eq, I.stp_eq, I.fnD_eq, I.gIxD_eq, I.gAdd_eq, I.gSub_eq, I.gMulI_eq, I.gFdiv_eq, I.gMod_eq, I.gPow_eq, I.gLt_eq, I.gLe_eq, I.gGt_eq, I.gGe_eq, I.gNeg_eq, I.gEqD_eq, I.gIs_eq, I.gIsNot_eq, I.bLen_eq, I.bInt_eq, I.bTuple_eq, I.bListD_eq, I.mTup_eq, I.mLst_eq, I.mNew_eq, I.mSeq_eq, I.mTru_eq, I.mCut_eq, I.mPut_eq, I.bAll_eq, I.bAny_eq, I.bSum_eq, I.bSorted_eq, I.bMax_eq, I.bMin_eq, I.kMM_eq, I.bIsi_eq, I.mIt_eq, I.mEnu_eq, I.mZip_eq, I.forL_eq, I.whileL_eq, I.lcL_eq, I.lcO_eq, I.lcB2_eq, I.cDisp_eq, I.gIn_eq, I.mUpd_eq, I.mApp_eq] at *
  exact R.bLstD hm h
theorem mTup {ts : List T} (hl : ts.length ≤ lim) (h : P (.tup ts) μ) : OkI (I.mTup ts μ) P E := by
  simp only [OkI_eq, I.cVar_eq, I.cK_eq, I.c1_eq, I.c2_eq, I.cN_eq, I.aNil_eq, I.aCons_eq, I.aStar_eq, I.cTest_eq, I.cTru_eq, I.cAnd_eq, I.cOr_eq, I.cNot_eq, I.cYes_eq, I.cIf_eq, I.cAndT_eq, I.cOrT_eq, I.cNotT_eq, I.cChain_eq, I.cCall_eq, I.cSlice_eq, I.oNone_eq, I.oSome_eq, I.cKw_eq, I.cMeth_eq, I.cRgL1_eq, I.cRgL2_eq, I.iSeq_eq, I.iRg1_eq, I.iRg2_eq, I.iZp_eq, I.iEn_eq, I.cLc_eq, I.cLc2_eq, I.lcT_eq, I.sNil_eq, I.sPass_eq, I.sBreak_eq, I.sCont_eq, I.sBad_eq, I.sRetN_eq, I.sSeq_eq, I.sExpr_eq, I.sRet_eq, I.sSet_eq, I.sIf_eq, I.sAsg_eq, I.sStore_eq, I.sPar_eq, I.sPar3_eq, I.sAug_eq, I.sFor_eq, I.stp_eq, I.fnD_eq, I.gIxD_eq, I.gAdd_eq, I.gSub_eq, I.gMulI_eq, I.gFdiv_eq, I.gMod_eq, I.gPow_eq, I.gLt_eq, I.gLe_eq, I.gGt_eq, I.gGe_eq, I.gNeg_eq, I.gEqD_eq, I.gIs_eq, I.gIsNot_eq, I.bLen_eq, I.bInt_eq, I.bTuple_eq, I.bListD_eq, I.mTup_eq, I.mLst_eq, I.mNew_eq, I.mSeq_eq, I.mTru_eq, I.mCut_eq, I.mPut_eq, I.bAll_eq, I.bAny_eq, I.bSum_eq, I.bSorted_eq, I.bMax_eq, I.bMin_eq, I.kMM_eq, I.bIsi_eq, I.mIt_eq, I.mEnu_eq, I.mZip_eq, I.forL_eq, I.whileL_eq, I.lcL_eq, I.lcO_eq, I.lcB2_eq, I.cDisp_eq, I.gIn_eq, I.mUpd_eq, I.mApp_eq] at *
  exact R.mTup hl h
theorem mLst {ts : List T} (hl : ts.length ≤ lim) (h : P (.lst ts) μ) : OkI (I.mLst ts μ) P E := by
  simp only [OkI_eq, I.cVar_eq, I.cK_eq, I.c1_eq, I.c2_eq, I.cN_eq, I.aNil_eq, I.aCons_eq, I.aStar_eq, I.cTest_eq, I.cTru_eq, I.cAnd_eq, I.cOr_eq, I.cNot_eq, I.cYes_eq, I.cIf_eq, I.cAndT_eq, I.cOrT_eq, I.cNotT_eq, I.cChain_eq, I.cCall_eq, I.cSlice_eq, I.oNone_eq, I.oSome_eq, I.cKw_eq, I.cMeth_eq, I.cRgL1_eq, I.cRgL2_eq, I.iSeq_eq, I.iRg1_eq, I.iRg2_eq, I.iZp_eq, I.iEn_eq, I.cLc_eq, I.cLc2_eq, I.lcT_eq, I.sNil_eq, I.sPass_eq, I.sBreak_eq, I.sCont_eq, I.sBad_eq, I.sRetN_eq, I.sSeq_eq, I.sExpr_eq, I.sRet_eq, I.sSet_eq, I.sIf_eq, I.sAsg_eq, I.sStore_eq, I.sPar_eq, I.sPar3_eq, I.sAug_eq, I.sFor_eq, I.stp_eq, I.fnD_eq, I.gIxD_eq, I.gAdd_eq, I.gSub_eq, I.gMulI_eq, I.gFdiv_eq, I.gMod_eq, I.gPow_eq, I.gLt_eq, I.gLe_eq, I.gGt_eq, I.gGe_eq, I.gNeg_eq, I.gEqD_eq, I.gIs_eq, I.gIsNot_eq, I.bLen_eq, I.bInt_eq, I.bTuple_eq, I.bListD_eq, I.mTup_eq, I.mLst_eq, I.mNew_eq, I.mSeq_eq, I.mTru_eq, I.mCut_eq, I.mPut_eq, I.bAll_eq, I.bAny_eq, I.bSum_eq, I.bSorted_eq, I.bMax_eq, I.bMin_eq, I.kMM_eq, I.bIsi_eq, I.mIt_eq, I.mEnu_eq, I.mZip_eq, I.forL_eq, I.whileL_eq, I.lcL_eq, I.lcO_eq, I.lcB2_eq, I.cDisp_eq, I.gIn_eq, I.mUpd_eq, I.mApp_eq] at *
  exact R.mLst hl h
theorem mNew {ts : List T} (hl : ts.length ≤ lim) (h : P (.obj μ.length) (μ ++ [some (.lst ts)])) : OkI (I.mNew ts μ) P E := by
  simp only [OkI_eq, I.cVar_eq, I.cK_eq, I.c1_eq, I.c2_eq, I.cN_eq, I.aNil_eq, I.aCons_eq, I.aStar_eq, I.cTest_eq, I.cTru_eq, I.cAnd_eq, I.cOr_eq, I.cNot_eq, I.cYes_eq, I.cIf_eq, I.cAndT_eq, I.cOrT_eq, I.cNotT_eq, I.cChain_eq, I.cCall_eq, I.cSlice_eq, I.oNone_eq, I.oSome_eq, I.cKw_eq, I.cMeth_eq, I.cRgL1_eq, I.cRgL2_eq, I.iSeq_eq, I.iRg1_eq, I.iRg2_eq, I.iZp_eq, I.iEn_eq, I.cLc_eq, I.cLc2_eq, I.lcT_eq, I.sNil_eq, I.sPass_eq, I.sBreak_eq, I.sCont_eq, I.sBad_eq, I.sRetN_eq, I.sSeq_eq, I.sExpr_eq, I.sRet_eq, I.sSet_eq, I.sIf_eq, I.sAsg_eq, I.sStore_eq, I.sPar_eq, I.sPar3_eq, I.sAug_eq, I.sFor_eq, I.stp_eq, I.fnD_eq, I.gIxD_eq, I.gAdd_eq, I.gSub_eq, I.gMulI_eq, I.gFdiv_eq, I.gMod_eq, I.gPow_eq, I.gLt_eq, I.gLe_eq, I.gGt_eq, I.gGe_eq, I.gNeg_eq, I.gEqD_eq, I.gIs_eq, I.gIsNot_eq, I.bLen_eq, I.bInt_eq, I.bTuple_eq, I.bListD_eq, I.mTup_eq, I.mLst_eq, I.mNew_eq, I.mSeq_eq, I.mTru_eq, I.mCut_eq, I.mPut_eq, I.bAll_eq, I.bAny_eq, I.bSum_eq, I.bSorted_eq, I.bMax_eq, I.bMin_eq, I.kMM_eq, I.bIsi_eq, I.mIt_eq, I.mEnu_eq, I.mZip_eq, I.forL_eq, I.whileL_eq, I.lcL_eq, I.lcO_eq, I.lcB2_eq, I.cDisp_eq, I.gIn_eq, I.mUpd_eq, I.mApp_eq] at *
  exact R.mNew hl h
theorem mSeqT {ts : List T} (h : PL ts μ) : OkI (I.mSeq (.tup ts) μ) PL E := by
  simp only [OkI_eq, I.cVar_eq, I.cK_eq, I.c1_eq, I.c2_eq, I.cN_eq, I.aNil_eq, I.aCons_eq, I.aStar_eq, I.cTest_eq, I.cTru_eq, I.cAnd_eq, I.cOr_eq, I.cNot_eq, I.cYes_eq, I.cIf_eq, I.cAndT_eq, I.cOrT_eq, I.cNotT_eq, I.cChain_eq, I.cCall_eq, I.cSlice_eq, I.oNone_eq, I.oSome_eq, I.cKw_eq, I.cMeth_eq, I.cRgL1_eq, I.cRgL2_eq, I.iSeq_eq, I.iRg1_eq, I.iRg2_eq, I.iZp_eq, I.iEn_eq, I.cLc_eq, I.cLc2_eq, I.lcT_eq, I.sNil_eq, I.sPass_eq, I.sBreak_eq, I.sCont_eq, I.sBad_eq, I.sRetN_eq, I.sSeq_eq, I.sExpr_eq, I.sRet_eq, I.sSet_eq, I.sIf_eq, I.sAsg_eq, I.sStore_eq, I.sPar_eq, I.sPar3_eq, I.sAug_eq, I.sFor_eq, I.stp_eq, I.fnD_eq, I.gIxD_eq, I.gAdd_eq, I.gSub_eq, I.gMulI_eq, I.gFdiv_eq, I.gMod_eq, I.gPow_eq, I.gLt_eq, I.gLe_eq, I.gGt_eq, I.gGe_eq, I.gNeg_eq, I.gEqD_eq, I.gIs_eq, I.gIsNot_eq, I.bLen_eq, I.bInt_eq, I.bTuple_eq, I.bListD_eq, I.mTup_eq, I.mLst_eq, I.mNew_eq, I.mSeq_eq, I.mTru_eq, I.mCut_eq, I.mPut_eq, I.bAll_eq, I.bAny_eq, I.bSum_eq, I.bSorted_eq, I.bMax_eq, I.bMin_eq, I.kMM_eq, I.bIsi_eq, I.mIt_eq, I.mEnu_eq, I.mZip_eq, I.forL_eq, I.whileL_eq, I.lcL_eq, I.lcO_eq, I.lcB2_eq, I.cDisp_eq, I.gIn_eq, I.mUpd_eq, I.mApp_eq] at *
  exact R.mSeqT h
theorem mSeqL {ts : List T} (h : PL ts μ) : OkI (I.mSeq (.lst ts) μ) PL E := by
  simp only [OkI_eq, I.cVar_eq, I.cK_eq, I.c1_eq, I.c2_eq, I.cN_eq, I.aNil_eq, I.aCons_eq, I.aStar_eq, I.cTest_eq, I.cTru_eq, I.cAnd_eq, I.cOr_eq, I.cNot_eq, I.cYes_eq, I.cIf_eq, I.cAndT_eq, I.cOrT_eq, I.cNotT_eq, I.cChain_eq, I.cCall_eq, I.cSlice_eq, I.oNone_eq, I.oSome_eq, I.cKw_eq, I.cMeth_eq, I.cRgL1_eq, I.cRgL2_eq, I.iSeq_eq, I.iRg1_eq, I.iRg2_eq, I.iZp_eq, I.iEn_eq, I.cLc_eq, I.cLc2_eq, I.lcT_eq, I.sNil_eq, I.sPass_eq, I.sBreak_eq, I.sCont_eq, I.sBad_eq, I.sRetN_eq, I.sSeq_eq, I.sExpr_eq, I.sRet_eq, I.sSet_eq, I.sIf_eq, I.sAsg_eq, I.sStore_eq, I.sPar_eq, I.sPar3_eq, I.sAug_eq, I.sFor_eq, I.stp_eq, I.fnD_eq, I.gIxD_eq, I.gAdd_eq, I.gSub_eq, I.gMulI_eq, I.gFdiv_eq, I.gMod_eq, I.gPow_eq, I.gLt_eq, I.gLe_eq, I.gGt_eq, I.gGe_eq, I.gNeg_eq, I.gEqD_eq, I.gIs_eq, I.gIsNot_eq, I.bLen_eq, I.bInt_eq, I.bTuple_eq, I.bListD_eq, I.mTup_eq, I.mLst_eq, I.mNew_eq, I.mSeq_eq, I.mTru_eq, I.mCut_eq, I.mPut_eq, I.bAll_eq, I.bAny_eq, I.bSum_eq, I.bSorted_eq, I.bMax_eq, I.bMin_eq, I.kMM_eq, I.bIsi_eq, I.mIt_eq, I.mEnu_eq, I.mZip_eq, I.forL_eq, I.whileL_eq, I.lcL_eq, I.lcO_eq, I.lcB2_eq, I.cDisp_eq, I.gIn_eq, I.mUpd_eq, I.mApp_eq] at *
  exact R.mSeqL h
theorem mTruB {k : Bool} (h : PB k μ) : OkI (I.mTru (.bl k) μ) PB E := by
  simp only [OkI_eq, I.cVar_eq, I.cK_eq, I.c1_eq, I.c2_eq, I.cN_eq, I.aNil_eq, I.aCons_eq, I.aStar_eq, I.cTest_eq, I.cTru_eq, I.cAnd_eq, I.cOr_eq, I.cNot_eq, I.cYes_eq, I.cIf_eq, I.cAndT_eq, I.cOrT_eq, I.cNotT_eq, I.cChain_eq, I.cCall_eq, I.cSlice_eq, I.oNone_eq, I.oSome_eq, I.cKw_eq, I.cMeth_eq, I.cRgL1_eq, I.cRgL2_eq, I.iSeq_eq, I.iRg1_eq, I.iRg2_eq, I.iZp_eq, I.iEn_eq, I.cLc_eq, I.cLc2_eq, I.lcT_eq, I.sNil_eq, I.sPass_eq, I.sBreak_eq, I.sCont_eq, I.sBad_eq, I.sRetN_eq, I.sSeq_eq, I.sExpr_eq, I.sRet_eq, I.sSet_eq, I.sIf_eq, I.sAsg_eq, I.sStore_eq, I.sPar_eq, I.sPar3_eq, I.sAug_eq, I.sFor_eq, I.stp_eq, I.fnD_eq, I.gIxD_eq, I.gAdd_eq, I.gSub_eq, I.gMulI_eq, I.gFdiv_eq, I.gMod_eq, I.gPow_eq, I.gLt_eq, I.gLe_eq, I.gGt_eq, I.gGe_eq, I.gNeg_eq, I.gEqD_eq, I.gIs_eq, I.gIsNot_eq, I.bLen_eq, I.bInt_eq, I.bTuple_eq, I.bListD_eq, I.mTup_eq, I.mLst_eq, I.mNew_eq, I.mSeq_eq, I.mTru_eq, I.mCut_eq, I.mPut_eq, I.bAll_eq, I.bAny_eq, I.bSum_eq, I.bSorted_eq, I.bMax_eq, I.bMin_eq, I.kMM_eq, I.bIsi_eq, I.mIt_eq, I.mEnu_eq, I.mZip_eq, I.forL_eq, I.whileL_eq, I.lcL_eq, I.lcO_eq, I.lcB2_eq, I.cDisp_eq, I.gIn_eq, I.mUpd_eq, I.mApp_eq] at *
  exact R.mTruB h
theorem mTruI {k : Int} (h : PB (k != 0) μ) : OkI (I.mTru (.int k) μ) PB E := by
  simp only [OkI_eq, I.cVar_eq, I.cK_eq, I.c1_eq, I.c2_eq, I.cN_eq, I.aNil_eq, I.aCons_eq, I.aStar_eq, I.cTest_eq, I.cTru_eq, I.cAnd_eq, I.cOr_eq, I.cNot_eq, I.cYes_eq, I.cIf_eq, I.cAndT_eq, I.cOrT_eq, I.cNotT_eq, I.cChain_eq, I.cCall_eq, I.cSlice_eq, I.oNone_eq, I.oSome_eq, I.cKw_eq, I.cMeth_eq, I.cRgL1_eq, I.cRgL2_eq, I.iSeq_eq, I.iRg1_eq, I.iRg2_eq, I.iZp_eq, I.iEn_eq, I.cLc_eq, I.cLc2_eq, I.lcT_eq, I.sNil_eq, I.sPass_eq, I.sBreak_eq, I.sCont_eq, I.sBad_eq, I.sRetN_eq, I.sSeq_eq, I.sExpr_eq, I.sRet_eq, I.sSet_eq, I.sIf_eq, I.sAsg_eq, I.sStore_eq, I.sPar_eq, I.sPar3_eq, I.sAug_eq, I.sFor_eq, I.stp_eq, I.fnD_eq, I.gIxD_eq, I.gAdd_eq, I.gSub_eq, I.gMulI_eq, I.gFdiv_eq, I.gMod_eq, I.gPow_eq, I.gLt_eq, I.gLe_eq, I.gGt_eq, I.gGe_eq, I.gNeg_eq, I.gEqD_eq, I.gIs_eq, I.gIsNot_eq, I.bLen_eq, I.bInt_eq, I.bTuple_eq, I.bListD_eq, I.mTup_eq, I.mLst_eq, I.mNew_eq, I.mSeq_eq, I.mTru_eq, I.mCut_eq, I.mPut_eq, I.bAll_eq, I.bAny_eq, I.bSum_eq, I.bSorted_eq, I.bMax_eq, I.bMin_eq, I.kMM_eq, I.bIsi_eq, I.mIt_eq, I.mEnu_eq, I.mZip_eq, I.forL_eq, I.whileL_eq, I.lcL_eq, I.lcO_eq, I.lcB2_eq, I.cDisp_eq, I.gIn_eq, I.mUpd_eq, I.mApp_eq] at *
  exact R.mTruI h
theorem mTruT {ts : List T} (h : PB (!ts.isEmpty) μ) : OkI (I.mTru (.tup ts) μ) PB E := by
  simp only [OkI_eq, I.cVar_eq, I.cK_eq, I.c1_eq, I.c2_eq, I.cN_eq, I.aNil_eq, I.aCons_eq, I.aStar_eq, I.cTest_eq, I.cTru_eq, I.cAnd_eq, I.cOr_eq, I.cNot_eq, I.cYes_eq, I.cIf_eq, I.cAndT_eq, I.cOrT_eq, I.cNotT_eq, I.cChain_eq, I.cCall_eq, I.cSlice_eq, I.oNone_eq, I.oSome_eq, I.cKw_eq, I.cMeth_eq, I.cRgL1_eq, I.cRgL2_eq, I.iSeq_eq, I.iRg1_eq, I.iRg2_eq, I.iZp_eq, I.iEn_eq, I.cLc_eq, I.cLc2_eq, I.lcT_eq, I.sNil_eq, I.sPass_eq, I.sBreak_eq, I.sCont_eq, I.sBad_eq, I.sRetN_eq, I.sSeq_eq, I.sExpr_eq, I.sRet_eq, I.sSet_eq, I.sIf_eq, I.sAsg_eq, I.sStore_eq, I.sPar_eq, I.sPar3_eq, I.sAug_eq, I.sFor_eq, I.stp_eq, I.fnD_eq, I.gIxD_eq, I.gAdd_eq, I.gSub_eq, I.gMulI_eq, I.gFdiv_eq, I.gMod_eq, I.gPow_eq, I.gLt_eq, I.gLe_eq, I.gGt_eq, I.gGe_eq, I.gNeg_eq, I.gEqD_eq, I.gIs_eq, I.gIsNot_eq, I.bLen_eq, I.bInt_eq, I.bTuple_eq, I.bListD_eq, I.mTup_eq, I.mLst_eq, I.mNew_eq, I.mSeq_eq, I.mTru_eq, I.mCut_eq, I.mPut_eq, I.bAll_eq, I.bAny_eq, I.bSum_eq, I.bSorted_eq, I.bMax_eq, I.bMin_eq, I.kMM_eq, I.bIsi_eq, I.mIt_eq, I.mEnu_eq, I.mZip_eq, I.forL_eq, I.whileL_eq, I.lcL_eq, I.lcO_eq, I.lcB2_eq, I.cDisp_eq, I.gIn_eq, I.mUpd_eq, I.mApp_eq] at *
  exact R.mTruT h
theorem mTruL {ts : List T} (h : PB (!ts.isEmpty) μ) : OkI (I.mTru (.lst ts) μ) PB E := by
  simp only [OkI_eq, I.cVar_eq, I.cK_eq, I.c1_eq, I.c2_eq, I.cN_eq, I.aNil_eq, I.aCons_eq, I.aStar_eq, I.cTest_eq, I.cTru_eq, I.cAnd_eq, I.cOr_eq, I.cNot_eq, I.cYes_eq, I.cIf_eq, I.cAndT_eq, I.cOrT_eq, I.cNotT_eq, I.cChain_eq, I.cCall_eq, I.cSlice_eq, I.oNone_eq, I.oSome_eq, I.cKw_eq, I.cMeth_eq, I.cRgL1_eq, I.cRgL2_eq, I.iSeq_eq, I.iRg1_eq, I.iRg2_eq, I.iZp_eq, I.iEn_eq, I.cLc_eq, I.cLc2_eq, I.lcT_eq, I.sNil_eq, I.sPass_eq, I.sBreak_eq, I.sCont_eq, I.sBad_eq, I.sRetN_eq, I.sSeq_eq, I.sExpr_eq, I.sRet_eq, I.sSet_eq, I.sIf_eq, I.sAsg_eq, I.sStore_eq, I.sPar_eq, I.sPar3_eq, I.sAug_eq, I.sFor_eq, I.stp_eq, I.fnD_eq, I.gIxD_eq, I.gAdd_eq, I.gSub_eq, I.gMulI_eq, I.gFdiv_eq, I.gMod_eq, I.gPow_eq, I.gLt_eq, I.gLe_eq, I.gGt_eq, I.gGe_eq, I.gNeg_eq, I.gEqD_eq, I.gIs_eq, I.gIsNot_eq, I.bLen_eq, I.bInt_eq, I.bTuple_eq, I.bListD_eq, I.mTup_eq, I.mLst_eq, I.mNew_eq, I.mSeq_eq, I.mTru_eq, I.mCut_eq, I.mPut_eq, I.bAll_eq, I.bAny_eq, I.bSum_eq, I.bSorted_eq, I.bMax_eq, I.bMin_eq, I.kMM_eq, I.bIsi_eq, I.mIt_eq, I.mEnu_eq, I.mZip_eq, I.forL_eq, I.whileL_eq, I.lcL_eq, I.lcO_eq, I.lcB2_eq, I.cDisp_eq, I.gIn_eq, I.mUpd_eq, I.mApp_eq] at *
  exact R.mTruL h
theorem mTruN (h : PB false μ) : OkI (I.mTru .non μ) PB E := by
  simp only [OkI_eq, I.cVar_eq, I.cK_eq, I.c1_eq, I.c2_eq, I.cN_eq, I.aNil_eq, I.aCons_eq, I.aStar_eq, I.cTest_eq, I.cTru_eq, I.cAnd_eq, I.cOr_eq, I.cNot_eq, I.cYes_eq, I.cIf_eq, I.cAndT_eq, I.cOrT_eq, I.cNotT_eq, I.cChain_eq, I.cCall_eq, I.cSlice_eq, I.oNone_eq, I.oSome_eq, I.cKw_eq, I.cMeth_eq, I.cRgL1_eq, I.cRgL2_eq, I.iSeq_eq, I.iRg1_eq, I.iRg2_eq, I.iZp_eq, I.iEn_eq, I.cLc_eq, I.cLc2_eq, I.lcT_eq, I.sNil_eq, I.sPass_eq, I.sBreak_eq, I.sCont_eq, I.sBad_eq, I.sRetN_eq, I.sSeq_eq, I.sExpr_eq, I.sRet_eq, I.sSet_eq, I.sIf_eq, I.sAsg_eq, I.sStore_eq, I.sPar_eq, I.sPar3_eq, I.sAug_eq, I.sFor_eq, I.stp_eq, I.fnD_eq, I.gIxD_eq, I.gAdd_eq, I.gSub_eq, I.gMulI_eq, I.gFdiv_eq, I.gMod_eq, I.gPow_eq, I.gLt_eq, I.gLe_eq, I.gGt_eq, I.gGe_eq, I.gNeg_eq, I.gEqD_eq, I.gIs_eq, I.gIsNot_eq, I.bLen_eq, I.bInt_eq, I.bTuple_eq, I.bListD_eq, I.mTup_eq, I.mLst_eq, I.mNew_eq, I.mSeq_eq, I.mTru_eq, I.mCut_eq, I.mPut_eq, I.bAll_eq, I.bAny_eq, I.bSum_eq, I.bSorted_eq, I.bMax_eq, I.bMin_eq, I.kMM_eq, I.bIsi_eq, I.mIt_eq, I.mEnu_eq, I.mZip_eq, I.forL_eq, I.whileL_eq, I.lcL_eq, I.lcO_eq, I.lcB2_eq, I.cDisp_eq, I.gIn_eq, I.mUpd_eq, I.mApp_eq] at *
  exact R.mTruN h
theorem mCutT {ts : List T} {l u : Option Int} (h : P (.tup (cutT ts l u)) μ) : OkI (I.mCut (.tup ts) l u μ) P E := by
  simp only [OkI_eq, I.cVar_eq, I.cK_eq, I.c1_eq, I.c2_eq, I.cN_eq, I.aNil_eq, I.aCons_eq, I.aStar_eq, I.cTest_eq, I.cTru_eq, I.cAnd_eq, I.cOr_eq, I.cNot_eq, I.cYes_eq, I.cIf_eq, I.cAndT_eq, I.cOrT_eq, I.cNotT_eq, I.cChain_eq, I.cCall_eq, I.cSlice_eq, I.oNone_eq, I.oSome_eq, I.cKw_eq, I.cMeth_eq, I.cRgL1_eq, I.cRgL2_eq, I.iSeq_eq, I.iRg1_eq, I.iRg2_eq, I.iZp_eq, I.iEn_eq, I.cLc_eq, I.cLc2_eq, I.lcT_eq, I.sNil_eq, I.sPass_eq, I.sBreak_eq, I.sCont_eq, I.sBad_eq, I.sRetN_eq, I.sSeq_eq, I.sExpr_eq, I.sRet_eq, I.sSet_eq, I.sIf_eq, I.sAsg_eq, I.sStore_eq, I.sPar_eq, I.sPar3_eq, I.sAug_eq, I.sFor_eq, I.stp_eq, I.fnD_eq, I.gIxD_eq, I.gAdd_eq, I.gSub_eq, I.gMulI_eq, I.gFdiv_eq, I.gMod_eq, I.gPow_eq, I.gLt_eq, I.gLe_eq, I.gGt_eq, I.gGe_eq, I.gNeg_eq, I.gEqD_eq, I.gIs_eq, I.gIsNot_eq, I.bLen_eq, I.bInt_eq, I.bTuple_eq, I.bListD_eq, I.mTup_eq, I.mLst_eq, I.mNew_eq, I.mSeq_eq, I.mTru_eq, I.mCut_eq, I.mPut_eq, I.bAll_eq, I.bAny_eq, I.bSum_eq, I.bSorted_eq, I.bMax_eq, I.bMin_eq, I.kMM_eq, I.bIsi_eq, I.mIt_eq, I.mEnu_eq, I.mZip_eq, I.forL_eq, I.whileL_eq, I.lcL_eq, I.lcO_eq, I.lcB2_eq, I.cDisp_eq, I.gIn_eq, I.mUpd_eq, I.mApp_eq] at *
  exact R.mCutT h
theorem mCutL {ts : List T} {l u : Option Int} (h : P (.lst (cutT ts l u)) μ) : OkI (I.mCut (.lst ts) l u μ) P E := by
  simp only [OkI_eq, I.cVar_eq, I.cK_eq, I.c1_eq, I.c2_eq, I.cN_eq, I.aNil_eq, I.aCons_eq, I.aStar_eq, I.cTest_eq, I.cTru_eq, I.cAnd_eq, I.cOr_eq, I.cNot_eq, I.cYes_eq, I.cIf_eq, I.cAndT_eq, I.cOrT_eq, I.cNotT_eq, I.cChain_eq, I.cCall_eq, I.cSlice_eq, I.oNone_eq, I.oSome_eq, I.cKw_eq, I.cMeth_eq, I.cRgL1_eq, I.cRgL2_eq, I.iSeq_eq, I.iRg1_eq, I.iRg2_eq, I.iZp_eq, I.iEn_eq, I.cLc_eq, I.cLc2_eq, I.lcT_eq, I.sNil_eq, I.sPass_eq, I.sBreak_eq, I.sCont_eq, I.sBad_eq, I.sRetN_eq, I.sSeq_eq, I.sExpr_eq, I.sRet_eq, I.sSet_eq, I.sIf_eq, I.sAsg_eq, I.sStore_eq, I.sPar_eq, I.sPar3_eq, I.sAug_eq, I.sFor_eq, I.stp_eq, I.fnD_eq, I.gIxD_eq, I.gAdd_eq, I.gSub_eq, I.gMulI_eq, I.gFdiv_eq, I.gMod_eq, I.gPow_eq, I.gLt_eq, I.gLe_eq, I.gGt_eq, I.gGe_eq, I.gNeg_eq, I.gEqD_eq, I.gIs_eq, I.gIsNot_eq, I.bLen_eq, I.bInt_eq, I.bTuple_eq, I.bListD_eq, I.mTup_eq, I.mLst_eq, I.mNew_eq, I.mSeq_eq, I.mTru_eq, I.mCut_eq, I.mPut_eq, I.bAll_eq, I.bAny_eq, I.bSum_eq, I.bSorted_eq, I.bMax_eq, I.bMin_eq, I.kMM_eq, I.bIsi_eq, I.mIt_eq, I.mEnu_eq, I.mZip_eq, I.forL_eq, I.whileL_eq, I.lcL_eq, I.lcO_eq, I.lcB2_eq, I.cDisp_eq, I.gIn_eq, I.mUpd_eq, I.mApp_eq] at *
  exact R.mCutL h
theorem mPutL {n : Nat} {ts : List T} {k : Int} {j : Nat} {v : T} {PU : Unit → Store → Prop} (hm : μ[n]? = some (some (.lst ts))) (hj : ixN ts.length k = some j) (h : ∀ μ', μ' = μ.set n (some (.lst (ts.set j v))) → μ'[n]? = some (some (.lst (ts.set j v))) → PU () μ') : OkI (I.mPut (.obj n) (.int k) v μ) PU E := by
  simp only [OkI_eq, I.cVar_eq, I.cK_eq, I.c1_eq, I.c2_eq, I.cN_eq, I.aNil_eq, I.aCons_eq, I.aStar_eq, I.cTest_eq, I.cTru_eq, I.cAnd_eq, I.cOr_eq, I.cNot_eq, I.cYes_eq, I.cIf_eq, I.cAndT_eq, I.cOrT_eq, I.cNotT_eq, I.cChain_eq, I.cCall_eq, I.cSlice_eq, I.oNone_eq, I.oSome_eq, I.cKw_eq, I.cMeth_eq, I.cRgL1_eq, I.cRgL2_eq, I.iSeq_eq, I.iRg1_eq, I.iRg2_eq, I.iZp_eq, I.iEn_eq, I.cLc_eq, I.cLc2_eq, I.lcT_eq, I.sNil_eq, I.sPass_eq, I.sBreak_eq, I.sCont_eq, I.sBad_eq, I.sRetN_eq, I.sSeq_eq, I.sExpr_eq, I.sRet_eq, I.sSet_eq, I.sIf_eq, I.sAsg_eq, I.sStore_eq, I.sPar_eq, I.sPar3_eq, I.sAug_eq, I.sFor_eq, I.stp_eq, I.fnD_eq, I.gIxD_eq, I.gAdd_eq, I.gSub_eq, I.gMulI_eq, I.gFdiv_eq, I.gMod_eq, I.gPow_eq, I.gLt_eq, I.gLe_eq, I.gGt_eq, I.gGe_eq, I.gNeg_eq, I.gEqD_eq, I.gIs_eq, I.gIsNot_eq, I.bLen_eq, I.bInt_eq, I.bTuple_eq, I.bListD_eq, I.mTup_eq, I.mLst_eq, I.mNew_eq, I.mSeq_eq, I.mTru_eq, I.mCut_eq, I.mPut_eq, I.bAll_eq, I.bAny_eq, I.bSum_eq, I.bSorted_eq, I.bMax_eq, I.bMin_eq, I.kMM_eq, I.bIsi_eq, I.mIt_eq, I.mEnu_eq, I.mZip_eq, I.forL_eq, I.whileL_eq, I.lcL_eq, I.lcO_eq, I.lcB2_eq, I.cDisp_eq, I.gIn_eq, I.mUpd_eq, I.mApp_eq] at *
  exact R.mPutL hm hj h
theorem bAll {bs : List Bool} (h : P (.bl (bs.all id)) μ) : OkI (I.bAll [.lst (bs.map T.bl)] μ) P E := by
  simp only [OkI_eq, I.cVar_eq, I.cK_eq, I.c1_eq, I.c2_eq, I.cN_eq, I.aNil_eq, I.aCons_eq, I.aStar_eq, I.cTest_eq, I.cTru_eq, I.cAnd_eq, I.cOr_eq, I.cNot_eq, I.cYes_eq, I.cIf_eq, I.cAndT_eq, I.cOrT_eq, I.cNotT_eq, I.cChain_eq, I.cCall_eq, I.cSlice_eq, I.oNone_eq, I.oSome_eq, I.cKw_eq, I.cMeth_eq, I.cRgL1_eq, I.cRgL2_eq, I.iSeq_eq, I.iRg1_eq, I.iRg2_eq, I.iZp_eq, I.iEn_eq, I.cLc_eq, I.cLc2_eq, I.lcT_eq, I.sNil_eq, I.sPass_eq, I.sBreak_eq, I.sCont_eq, I.sBad_eq, I.sRetN_eq, I.sSeq_eq, I.sExpr_eq, I.sRet_eq, I.sSet_eq, I.sIf_eq, I.sAsg_eq, I.sStore_eq, I.sPar_eq, I.sPar3_eq, I.sAug_eq, I.sFor_eq, I.stp_eq, I.fnD_eq, I.gIxD_eq, I.gAdd_eq, I.gSub_eq, I.gMulI_eq, I.gFdiv_eq, I.gMod_eq, I.gPow_eq, I.gLt_eq, I.gLe_eq, I.gGt_eq, I.gGe_eq, I.gNeg_eq, I.gEqD_eq, I.gIs_eq, I.gIsNot_eq, I.bLen_eq, I.bInt_eq, I.bTuple_eq, I.bListD_eq, I.mTup_eq, I.mLst_eq, I.mNew_eq, I.mSeq_eq, I.mTru_eq, I.mCut_eq, I.mPut_eq, I.bAll_eq, I.bAny_eq, I.bSum_eq, I.bSorted_eq, I.bMax_eq, I.bMin_eq, I.kMM_eq, I.bIsi_eq, I.mIt_eq, I.mEnu_eq, I.mZip_eq, I.forL_eq, I.whileL_eq, I.lcL_eq, I.lcO_eq, I.lcB2_eq, I.cDisp_eq, I.gIn_eq, I.mUpd_eq, I.mApp_eq] at *
  exact R.bAll h
theorem bSum {ns : List Int} (h : P (.int ns.sum) μ) : OkI (I.bSum [.lst (ns.map T.int)] μ) P E := by
  simp only [OkI_eq, I.cVar_eq, I.cK_eq, I.c1_eq, I.c2_eq, I.cN_eq, I.aNil_eq, I.aCons_eq, I.aStar_eq, I.cTest_eq, I.cTru_eq, I.cAnd_eq, I.cOr_eq, I.cNot_eq, I.cYes_eq, I.cIf_eq, I.cAndT_eq, I.cOrT_eq, I.cNotT_eq, I.cChain_eq, I.cCall_eq, I.cSlice_eq, I.oNone_eq, I.oSome_eq, I.cKw_eq, I.cMeth_eq, I.cRgL1_eq, I.cRgL2_eq, I.iSeq_eq, I.iRg1_eq, I.iRg2_eq, I.iZp_eq, I.iEn_eq, I.cLc_eq, I.cLc2_eq, I.lcT_eq, I.sNil_eq, I.sPass_eq, I.sBreak_eq, I.sCont_eq, I.sBad_eq, I.sRetN_eq, I.sSeq_eq, I.sExpr_eq, I.sRet_eq, I.sSet_eq, I.sIf_eq, I.sAsg_eq, I.sStore_eq, I.sPar_eq, I.sPar3_eq, I.sAug_eq, I.sFor_eq, I.stp_eq, I.fnD_eq, I.gIxD_eq, I.gAdd_eq, I.gSub_eq, I.gMulI_eq, I.gFdiv_eq, I.gMod_eq, I.gPow_eq, I.gLt_eq, I.gLe_eq, I.gGt_eq, I.gGe_eq, I.gNeg_eq, I.gEqD_eq, I.gIs_eq, I.gIsNot_eq, I.bLen_eq, I.bInt_eq, I.bTuple_eq, I.bListD_eq, I.mTup_eq, I.mLst_eq, I.mNew_eq, I.mSeq_eq, I.mTru_eq, I.mCut_eq, I.mPut_eq, I.bAll_eq, I.bAny_eq, I.bSum_eq, I.bSorted_eq, I.bMax_eq, I.bMin_eq, I.kMM_eq, I.bIsi_eq, I.mIt_eq, I.mEnu_eq, I.mZip_eq, I.forL_eq, I.whileL_eq, I.lcL_eq, I.lcO_eq, I.lcB2_eq, I.cDisp_eq, I.gIn_eq, I.mUpd_eq, I.mApp_eq] at *
  exact R.bSum h
theorem bSortR {rs : List (List Int)} (h : P (.lst ((rs.mergeSort leRow).map rowT)) μ) : OkI (I.bSorted [.lst (rs.map rowT)] μ) P E := by
  simp only [OkI_eq, I.cVar_eq, I.cK_eq, I.c1_eq, I.c2_eq, I.cN_eq, I.aNil_eq, I.aCons_eq, I.aStar_eq, I.cTest_eq, I.cTru_eq, I.cAnd_eq, I.cOr_eq, I.cNot_eq, I.cYes_eq, I.cIf_eq, I.cAndT_eq, I.cOrT_eq, I.cNotT_eq, I.cChain_eq, I.cCall_eq, I.cSlice_eq, I.oNone_eq, I.oSome_eq, I.cKw_eq, I.cMeth_eq, I.cRgL1_eq, I.cRgL2_eq, I.iSeq_eq, I.iRg1_eq, I.iRg2_eq, I.iZp_eq, I.iEn_eq, I.cLc_eq, I.cLc2_eq, I.lcT_eq, I.sNil_eq, I.sPass_eq, I.sBreak_eq, I.sCont_eq, I.sBad_eq, I.sRetN_eq, I.sSeq_eq, I.sExpr_eq, I.sRet_eq, I.sSet_eq, I.sIf_eq, I.sAsg_eq, I.sStore_eq, I.sPar_eq, I.sPar3_eq, I.sAug_eq, I.sFor_eq, I.stp_eq, I.fnD_eq, I.gIxD_eq, I.gAdd_eq, I.gSub_eq, I.gMulI_eq, I.gFdiv_eq, I.gMod_eq, I.gPow_eq, I.gLt_eq, I.gLe_eq, I.gGt_eq, I.gGe_eq, I.gNeg_eq, I.gEqD_eq, I.gIs_eq, I.gIsNot_eq, I.bLen_eq, I.bInt_eq, I.bTuple_eq, I.bListD_eq, I.mTup_eq, I.mLst_eq, I.mNew_eq, I.mSeq_eq, I.mTru_eq, I.mCut_eq, I.mPut_eq, I.bAll_eq, I.bAny_eq, I.bSum_eq, I.bSorted_eq, I.bMax_eq, I.bMin_eq, I.kMM_eq, I.bIsi_eq, I.mIt_eq, I.mEnu_eq, I.mZip_eq, I.forL_eq, I.whileL_eq, I.lcL_eq, I.lcO_eq, I.lcB2_eq, I.cDisp_eq, I.gIn_eq, I.mUpd_eq, I.mApp_eq] at *
  exact R.bSortR h
theorem kMax {g : Int → List Int → Int} {ns : List Int} {d : T} (h : P (dfl g ns d) μ) : OkI (I.kMM g [.tup (ns.map T.int)] d μ) P E := by
  simp only [OkI_eq, I.cVar_eq, I.cK_eq, I.c1_eq, I.c2_eq, I.cN_eq, I.aNil_eq, I.aCons_eq, I.aStar_eq, I.cTest_eq, I.cTru_eq, I.cAnd_eq, I.cOr_eq, I.cNot_eq, I.cYes_eq, I.cIf_eq, I.cAndT_eq, I.cOrT_eq, I.cNotT_eq, I.cChain_eq, I.cCall_eq, I.cSlice_eq, I.oNone_eq, I.oSome_eq, I.cKw_eq, I.cMeth_eq, I.cRgL1_eq, I.cRgL2_eq, I.iSeq_eq, I.iRg1_eq, I.iRg2_eq, I.iZp_eq, I.iEn_eq, I.cLc_eq, I.cLc2_eq, I.lcT_eq, I.sNil_eq, I.sPass_eq, I.sBreak_eq, I.sCont_eq, I.sBad_eq, I.sRetN_eq, I.sSeq_eq, I.sExpr_eq, I.sRet_eq, I.sSet_eq, I.sIf_eq, I.sAsg_eq, I.sStore_eq, I.sPar_eq, I.sPar3_eq, I.sAug_eq, I.sFor_eq, I.stp_eq, I.fnD_eq, I.gIxD_eq, I.gAdd_eq, I.gSub_eq, I.gMulI_eq, I.gFdiv_eq, I.gMod_eq, I.gPow_eq, I.gLt_eq, I.gLe_eq, I.gGt_eq, I.gGe_eq, I.gNeg_eq, I.gEqD_eq, I.gIs_eq, I.gIsNot_eq, I.bLen_eq, I.bInt_eq, I.bTuple_eq, I.bListD_eq, I.mTup_eq, I.mLst_eq, I.mNew_eq, I.mSeq_eq, I.mTru_eq, I.mCut_eq, I.mPut_eq, I.bAll_eq, I.bAny_eq, I.bSum_eq, I.bSorted_eq, I.bMax_eq, I.bMin_eq, I.kMM_eq, I.bIsi_eq, I.mIt_eq, I.mEnu_eq, I.mZip_eq, I.forL_eq, I.whileL_eq, I.lcL_eq, I.lcO_eq, I.lcB2_eq, I.cDisp_eq, I.gIn_eq, I.mUpd_eq, I.mApp_eq] at *
  exact R.kMax h
theorem isiTup {ts : List T} (h : P (.bl true) μ) : OkI (I.bIsi [.tup ts, .ty "tuple"] μ) P E := by
  simp only [OkI_eq, I.cVar_eq, I.cK_eq, I.c1_eq, I.c2_eq, I.cN_eq, I.aNil_eq, I.aCons_eq, I.aStar_eq, I.cTest_eq, I.cTru_eq, I.cAnd_eq, I.cOr_eq, I.cNot_eq, I.cYes_eq, I.cIf_eq, I.cAndT_eq, I.cOrT_eq, I.cNotT_eq, I.cChain_eq, I.cCall_eq, I.cSlice_eq, I.oNone_eq, I.oSome_eq, I.cKw_eq, I.cMeth_eq, I.cRgL1_eq, I.cRgL2_eq, I.iSeq_eq, I.iRg1_eq, I.iRg2_eq, I.iZp_eq, I.iEn_eq, I.cLc_eq, I.cLc2_eq, I.lcT_eq, I.sNil_eq, I.sPass_eq, I.sBreak_eq, I.sCont_eq, I.sBad_eq, I.sRetN_eq, I.sSeq_eq, I.sExpr_eq, I.sRet_eq, I.sSet_eq, I.sIf_eq, I.sAsg_eq, I.sStore_eq, I.sPar_eq, I.sPar3_eq, I.sAug_eq, I.sFor_eq, I.stp_eq, I.fnD_eq, I.gIxD_eq, I.gAdd_eq, I.gSub_eq, I.gMulI_eq, I.gFdiv_eq, I.gMod_eq, I.gPow_eq, I.gLt_eq, I.gLe_eq, I.gGt_eq, I.gGe_eq, I.gNeg_eq, I.gEqD_eq, I.gIs_eq, I.gIsNot_eq, I.bLen_eq, I.bInt_eq, I.bTuple_eq, I.bListD_eq, I.mTup_eq, I.mLst_eq, I.mNew_eq, I.mSeq_eq, I.mTru_eq, I.mCut_eq, I.mPut_eq, I.bAll_eq, I.bAny_eq, I.bSum_eq, I.bSorted_eq, I.bMax_eq, I.bMin_eq, I.kMM_eq, I.bIsi_eq, I.mIt_eq, I.mEnu_eq, I.mZip_eq, I.forL_eq, I.whileL_eq, I.lcL_eq, I.lcO_eq, I.lcB2_eq, I.cDisp_eq, I.gIn_eq, I.mUpd_eq, I.mApp_eq] at *
  exact R.isiTup h
theorem isiInt {i : Int} (h : P (.bl true) μ) : OkI (I.bIsi [.int i, .ty "int"] μ) P E := by
  simp only [OkI_eq, I.cVar_eq, I.cK_eq, I.c1_eq, I.c2_eq, I.cN_eq, I.aNil_eq, I.aCons_eq, I.aStar_eq, I.cTest_eq, I.cTru_eq, I.cAnd_eq, I.cOr_eq, I.cNot_eq, I.cYes_eq, I.cIf_eq, I.cAndT_eq, I.cOrT_eq, I.cNotT_eq, I.cChain_eq, I.cCall_eq, I.cSlice_eq, I.oNone_eq, I.oSome_eq, I.cKw_eq, I.cMeth_eq, I.cRgL1_eq, I.cRgL2_eq, I.iSeq_eq, I.iRg1_eq, I.iRg2_eq, I.iZp_eq, I.iEn_eq, I.cLc_eq, I.cLc2_eq, I.lcT_eq, I.sNil_eq, I.sPass_eq, I.sBreak_eq, I.sCont_eq, I.sBad_eq, I.sRetN_eq, I.sSeq_eq, I.sExpr_eq, I.sRet_eq, I.sSet_eq, I.sIf_eq, I.sAsg_eq, I.sStore_eq, I.sPar_eq, I.sPar3_eq, I.sAug_eq, I.sFor_eq, I.stp_eq, I.fnD_eq, I.gIxD_eq, I.gAdd_eq, I.gSub_eq, I.gMulI_eq, I.gFdiv_eq, I.gMod_eq, I.gPow_eq, I.gLt_eq, I.gLe_eq, I.gGt_eq, I.gGe_eq, I.gNeg_eq, I.gEqD_eq, I.gIs_eq, I.gIsNot_eq, I.bLen_eq, I.bInt_eq, I.bTuple_eq, I.bListD_eq, I.mTup_eq, I.mLst_eq, I.mNew_eq, I.mSeq_eq, I.mTru_eq, I.mCut_eq, I.mPut_eq, I.bAll_eq, I.bAny_eq, I.bSum_eq, I.bSorted_eq, I.bMax_eq, I.bMin_eq, I.kMM_eq, I.bIsi_eq, I.mIt_eq, I.mEnu_eq, I.mZip_eq, I.forL_eq, I.whileL_eq, I.lcL_eq, I.lcO_eq, I.lcB2_eq, I.cDisp_eq, I.gIn_eq, I.mUpd_eq, I.mApp_eq] at *
  exact R.isiInt h
theorem isiIntB {i : Int} (h : P (.bl false) μ) : OkI (I.bIsi [.int i, .ty "bool"] μ) P E := by
  simp only [OkI_eq, I.cVar_eq, I.cK_eq, I.c1_eq, I.c2_eq, I.cN_eq, I.aNil_eq, I.aCons_eq, I.aStar_eq, I.cTest_eq, I.cTru_eq, I.cAnd_eq, I.cOr_eq, I.cNot_eq, I.cYes_eq, I.cIf_eq, I.cAndT_eq, I.cOrT_eq, I.cNotT_eq, I.cChain_eq, I.cCall_eq, I.cSlice_eq, I.oNone_eq, I.oSome_eq, I.cKw_eq, I.cMeth_eq, I.cRgL1_eq, I.cRgL2_eq, I.iSeq_eq, I.iRg1_eq, I.iRg2_eq, I.iZp_eq, I.iEn_eq, I.cLc_eq, I.cLc2_eq, I.lcT_eq, I.sNil_eq, I.sPass_eq, I.sBreak_eq, I.sCont_eq, I.sBad_eq, I.sRetN_eq, I.sSeq_eq, I.sExpr_eq, I.sRet_eq, I.sSet_eq, I.sIf_eq, I.sAsg_eq, I.sStore_eq, I.sPar_eq, I.sPar3_eq, I.sAug_eq, I.sFor_eq, I.stp_eq, I.fnD_eq, I.gIxD_eq, I.gAdd_eq, I.gSub_eq, I.gMulI_eq, I.gFdiv_eq, I.gMod_eq, I.gPow_eq, I.gLt_eq, I.gLe_eq, I.gGt_eq, I.gGe_eq, I.gNeg_eq, I.gEqD_eq, I.gIs_eq, I.gIsNot_eq, I.bLen_eq, I.bInt_eq, I.bTuple_eq, I.bListD_eq, I.mTup_eq, I.mLst_eq, I.mNew_eq, I.mSeq_eq, I.mTru_eq, I.mCut_eq, I.mPut_eq, I.bAll_eq, I.bAny_eq, I.bSum_eq, I.bSorted_eq, I.bMax_eq, I.bMin_eq, I.kMM_eq, I.bIsi_eq, I.mIt_eq, I.mEnu_eq, I.mZip_eq, I.forL_eq, I.whileL_eq, I.lcL_eq, I.lcO_eq, I.lcB2_eq, I.cDisp_eq, I.gIn_eq, I.mUpd_eq, I.mApp_eq] at *
  exact R.isiIntB h
end

section
variable {E : Exc → Store → Prop} {Q : Out → Store → Prop} {P : List T → Store → Prop}
theorem forI {step : T → Env → M Out} {ts : List T} {ρ : Env} {μ : Store} (J : Nat → Env → Store → Prop) (h0 : J 0 ρ μ)
    (hs : ∀ j t ρ μ, ts[j]? = some t → J j ρ μ → OkI (step t ρ μ) (fun o μ' => match o with
      | .nx ρ' => J (j + 1) ρ' μ'
      | .ct ρ' => J (j + 1) ρ' μ'
      | .bk ρ' => Q (.nx ρ') μ'
      | .rt u => Q (.rt u) μ'
      | .xx ρ' e => Q (.xx ρ' e) μ') E) (he : ∀ ρ μ, J ts.length ρ μ → Q (.nx ρ) μ) : OkI (I.forL ts step ρ μ) Q E := by
  rw [I.forL_eq]
  simp only [OkI_eq] at *
  exact ok_for J h0 hs he
theorem whileI {c : Env → M Bool} {b : Env → M Out} (J : Nat → Env → Store → Prop) (hs : ∀ n ρ μ, J (n + 1) ρ μ → OkI (c ρ μ) (fun k μ1 => if k then OkI (b ρ μ1) (fun o μ' => match o with
      | .nx ρ' => J n ρ' μ'
      | .ct ρ' => J n ρ' μ'
      | .bk ρ' => Q (.nx ρ') μ'
      | .rt u => Q (.rt u) μ'
      | .xx ρ' e => Q (.xx ρ' e) μ') E else Q (.nx ρ) μ1) (fun e μ' => Q (.xx ρ e) μ')) (h0 : ∀ ρ μ, ¬ J 0 ρ μ) (n : Nat) (ρ : Env) (μ : Store) (h : J n ρ μ) : OkI (I.whileL n c b ρ μ) Q E := by
  rw [I.whileL_eq]
  simp only [OkI_eq] at *
  exact ok_while J hs h0 n ρ μ h
theorem lcI {b : T → M (Option T)} {ts : List T} {μ : Store} (J : Nat → List T → Store → Prop) (h0 : J 0 [] μ) (hl : ts.length ≤ lim)
    (hs : ∀ j t acc μ, ts[j]? = some t → J j acc μ → OkI (b t μ) (fun o μ' => match o with
      | some y => J (j + 1) (acc ++ [y]) μ'
      | none => J (j + 1) acc μ') E) (he : ∀ acc μ, J ts.length acc μ → P acc μ) : OkI (I.lcL ts b [] μ) P E := by
  rw [I.lcL_eq]
  simp only [OkI_eq] at *
  exact ok_lcL J h0 hl hs he
variable {α : Type} {b : T → M (Option T)} {μ : Store}
theorem lcF {enc : α → T} (p : α → Bool) (f : α → T) {l : List α} (h : ∀ a ∈ l, OkI (b (enc a) μ) (fun o μ' => o = (if p a then some (f a) else none) ∧ μ' = μ) fun _ _ => False) (hl : l.length ≤ lim) (hP : P ((l.filter p).map f) μ) : OkI (I.lcL (l.map enc) b [] μ) P E := by
  rw [I.lcL_eq]
  simp only [OkI_eq] at *
  exact lc_filter p f h hl hP
theorem lcM {enc : α → T} (f : α → T) {l : List α} (h : ∀ a ∈ l, OkI (b (enc a) μ) (fun o μ' => o = some (f a) ∧ μ' = μ) fun _ _ => False) (hl : l.length ≤ lim) (hP : P (l.map f) μ) : OkI (I.lcL (l.map enc) b [] μ) P E := by
  rw [I.lcL_eq]
  simp only [OkI_eq] at *
  exact lc_map f h hl hP
theorem inL1 {d : Int} {l : List Int} {μ : Store} {P : T → Store → Prop} {E : Exc → Store → Prop} (h : P (.bl (!decide (d ∈ l))) μ) : OkI (I.gIn true (.int d) (.lst (l.map T.int)) μ) P E := by rw [I.gIn_eq]; simp only [OkI_eq] at *; exact R.inL1 h
theorem inL0 {d : Int} {l : List Int} {μ : Store} {P : T → Store → Prop} {E : Exc → Store → Prop} (h : P (.bl (decide (d ∈ l))) μ) : OkI (I.gIn false (.int d) (.lst (l.map T.int)) μ) P E := by rw [I.gIn_eq]; simp only [OkI_eq] at *; exact R.inL0 h
theorem inT1 {d : Int} {l : List Int} {μ : Store} {P : T → Store → Prop} {E : Exc → Store → Prop} (h : P (.bl (!decide (d ∈ l))) μ) : OkI (I.gIn true (.int d) (.tup (l.map T.int)) μ) P E := by rw [I.gIn_eq]; simp only [OkI_eq] at *; exact R.inT1 h
theorem inT0 {d : Int} {l : List Int} {μ : Store} {P : T → Store → Prop} {E : Exc → Store → Prop} (h : P (.bl (decide (d ∈ l))) μ) : OkI (I.gIn false (.int d) (.tup (l.map T.int)) μ) P E := by rw [I.gIn_eq]; simp only [OkI_eq] at *; exact R.inT0 h
theorem lcL_map_eqI {enc : α → T} (f : α → T) (l : List α) (acc : List T) (h : ∀ a ∈ l, OkI (b (enc a) μ) (fun o μ' => o = some (f a) ∧ μ' = μ) fun _ _ => False) (hl : acc.length + l.length ≤ lim) : I.lcL (l.map enc) b acc μ = .ok (acc ++ l.map f) μ := by
  rw [I.lcL_eq]
  simp only [OkI_eq] at *
  exact lcL_map_eq f l acc h hl
theorem lcO_pureI {b : T → List T → M (List T)} {g : T → List T} {μ : Store} {ts : List T} {acc : List T} (h : ∀ t ∈ ts, ∀ acc, acc.length + (g t).length ≤ lim → b t acc μ = .ok (acc ++ g t) μ) (hl : acc.length + (ts.flatMap g).length ≤ lim) : I.lcO ts b acc μ = .ok (acc ++ ts.flatMap g) μ := by
  rw [I.lcO_eq]
  exact lcO_pure h hl
end
end RI
end Tw

namespace Lw
open PySem L2 Tw
def top (i : Nat) : Stmt := PySem.Challenge.pw_bittenplates_k09_times_by_trying.main.body.getD i (.Pass ⟨0, 0, 0, 0⟩)
def glist : List (Str × Gl0) := [("is_number", .fn 0 3), ("sums_of", .fn 1 1), ("least_times", .fn 2 1), ("fewest_times", .fn 3 1), ("check_times", .fn 4 1), ("choices", .fn 5 1), ("bites_of", .fn 6 2), ("bites", .fn 7 2), ("_law_taken", .fn 8 2), ("_law_pick", .fn 9 2), ("_law_sums", .fn 10 1), ("law", .fn 11 1), ("MAX_DEPTH", .kon (.int 9)), ("MAX_TIMES", .kon (.int 6)), ("all", .blt), ("bool", .blt), ("enumerate", .blt), ("int", .blt), ("isinstance", .blt), ("len", .blt), ("list", .blt), ("max", .blt), ("range", .blt), ("sorted", .blt), ("sum", .blt), ("tuple", .blt)]
def G (x : Str) : Option Gl0 := glist.lookup x
/-- is_number -/
def b0 (Φ : Nat → List T → M T) : Tw.Env → M Out :=
  (I.sSeq (I.sRet (I.cAndT (I.cN I.bIsi (I.aCons (I.cVar 0) (I.aCons (I.cK (.ty "int")) I.aNil))) (I.cAndT (I.cNotT (I.cN I.bIsi (I.aCons (I.cVar 0) (I.aCons (I.cK (.ty "bool")) I.aNil)))) (I.cChain I.gLe I.gLe (I.cVar 1) (I.cVar 0) (I.cVar 2)))))
      I.sNil)
abbrev st0 : Stmt := top 7
def e0 : FE := ⟨"is_number", "is_number", st0, ["value", "smallest", "largest"], ["value", "smallest", "largest"], [], some b0⟩
theorem sc0 : FnScope ["value", "smallest", "largest"] ["value", "smallest", "largest"] (defScope st0) := ⟨rfl, rfl, rfl, by decide +kernel, rfl, by decide +kernel, by decide +kernel⟩
theorem tr0 (Φ : Nat → List T → M T) : trSs Φ 400 200 (ctOf G e0) (defBody e0.st) = some (b0 Φ) := by kernel_rfl
/-- sums_of -/
def b1 (Φ : Nat → List T → M T) : Tw.Env → M Out :=
  (I.sSeq (I.sSet 1 (I.cDisp [((I.cK (.int 0)), (I.cK (.bl true)))]))
      (I.sSeq (I.sFor (I.iSeq (I.cVar 0)) (gN 2) (I.sSeq (I.sExpr (I.cMeth "dict" I.mUpd (I.cVar 1) (I.aCons (I.cLc (I.iSeq (I.cN I.bListD (I.aCons (I.cVar 1) I.aNil))) (gN 3) I.cYes (I.cN I.mTup (I.aCons (I.c2 I.gAdd (I.cVar 3) (I.cVar 2)) (I.aCons (I.cK (.bl true)) I.aNil))) [3]) I.aNil)))
      I.sNil))
      (I.sSeq (I.sRet (I.cVar 1))
      I.sNil)))
abbrev st1 : Stmt := top 10
def e1 : FE := ⟨"sums_of", "sums_of", st1, ["times"], ["times", "found", "time", "one"], ["found"], some b1⟩
theorem sc1 : FnScope ["times", "found", "time", "one"] ["times"] (defScope st1) := ⟨rfl, rfl, rfl, by decide +kernel, rfl, by decide +kernel, by decide +kernel⟩
theorem tr1 (Φ : Nat → List T → M T) : trSs Φ 400 200 (ctOf G e1) (defBody e1.st) = some (b1 Φ) := by kernel_rfl
/-- least_times -/
def b2 (Φ : Nat → List T → M T) : Tw.Env → M Out :=
  (I.sSeq (I.sSet 1 (I.cN I.mLst (I.aCons (I.cN I.mTup I.aNil) I.aNil)))
      (I.sSeq (I.whileL 400 (I.cTru (I.cK (.bl true))) (I.sSeq (I.sFor (I.iSeq (I.cVar 1)) (gN 2) (I.sSeq (I.sSet 3 (I.cCall 1 (Φ 1) (I.aCons (I.cVar 2) I.aNil)))
      (I.sSeq (I.sIf (I.cTru (I.cN I.bAll (I.aCons (I.cLc (I.iSeq (I.cVar 0)) (gN 5) I.cYes (I.c2 (I.gIn false) (I.cVar 5) (I.cVar 3)) [5]) I.aNil))) (I.sSeq (I.sRet (I.cVar 2))
      I.sNil) I.sNil)
      I.sNil)))
      (I.sSeq (I.sSet 1 (I.cLc2 (I.iSeq (I.cVar 1)) (gN 2) I.cYes (I.iRg2 (I.aCons (I.cKw (I.kMM mxI) (I.aCons (I.cVar 2) I.aNil) (I.cK (.int 1))) (I.aCons (I.c2 I.gAdd (I.cK (.int 9)) (I.cK (.int 1))) I.aNil))) (gN 4) I.cYes (I.cN I.mTup (I.aStar (I.cVar 2) (I.aCons (I.cVar 4) I.aNil))) [2, 4] [4]))
      I.sNil)))
      I.sNil))
abbrev st2 : Stmt := top 11
def e2 : FE := ⟨"least_times", "least_times", st2, ["depths"], ["depths", "level", "times", "found", "time", "depth"], [], some b2⟩
theorem sc2 : FnScope ["depths", "level", "times", "found", "time", "depth"] ["depths"] (defScope st2) := ⟨rfl, rfl, rfl, by decide +kernel, rfl, by decide +kernel, by decide +kernel⟩
theorem tr2 (Φ : Nat → List T → M T) : trSs Φ 400 200 (ctOf G e2) (defBody e2.st) = some (b2 Φ) := by kernel_rfl
/-- fewest_times -/
def b3 (Φ : Nat → List T → M T) : Tw.Env → M Out :=
  (I.sSeq (I.sIf (I.cOr (I.cNot (I.cTru (I.cN I.bIsi (I.aCons (I.cVar 0) (I.aCons (I.cK (.ty "tuple")) I.aNil))))) (I.cNot (I.cTru (I.cN I.bAll (I.aCons (I.cLc (I.iSeq (I.cVar 0)) (gN 1) I.cYes (I.cCall 3 (Φ 0) (I.aCons (I.cVar 1) (I.aCons (I.cK (.int 0)) (I.aCons (I.cK (.int 9)) I.aNil)))) [1]) I.aNil))))) (I.sSeq I.sBad
      I.sNil) I.sNil)
      (I.sSeq (I.sRet (I.cCall 1 (Φ 2) (I.aCons (I.cVar 0) I.aNil)))
      I.sNil))
abbrev st3 : Stmt := top 12
def e3 : FE := ⟨"fewest_times", "fewest_times", st3, ["picture"], ["picture", "depth"], [], some b3⟩
theorem sc3 : FnScope ["picture", "depth"] ["picture"] (defScope st3) := ⟨rfl, rfl, rfl, by decide +kernel, rfl, by decide +kernel, by decide +kernel⟩
theorem tr3 (Φ : Nat → List T → M T) : trSs Φ 400 200 (ctOf G e3) (defBody e3.st) = some (b3 Φ) := by kernel_rfl
/-- check_times -/
def b4 (Φ : Nat → List T → M T) : Tw.Env → M Out :=
  (I.sSeq (I.sFor (I.iEn (I.aCons (I.cVar 0) I.aNil)) (gTp (gsCons (gN 1) (gsCons (gN 2) gsNil))) (I.sSeq (I.sIf (I.cOr (I.cTest (I.c2 (I.gEqD false) (I.cVar 1) (I.cK (.int 6)))) (I.cNot (I.cTru (I.cCall 3 (Φ 0) (I.aCons (I.cVar 2) (I.aCons (I.cK (.int 1)) (I.aCons (I.cK (.int 9)) I.aNil))))))) (I.sSeq I.sBad
      I.sNil) I.sNil)
      I.sNil))
      I.sNil)
abbrev st4 : Stmt := top 13
def e4 : FE := ⟨"check_times", "check_times", st4, ["times"], ["times", "index", "time"], [], some b4⟩
theorem sc4 : FnScope ["times", "index", "time"] ["times"] (defScope st4) := ⟨rfl, rfl, rfl, by decide +kernel, rfl, by decide +kernel, by decide +kernel⟩
theorem tr4 (Φ : Nat → List T → M T) : trSs Φ 400 200 (ctOf G e4) (defBody e4.st) = some (b4 Φ) := by kernel_rfl
/-- choices -/
def b5 (Φ : Nat → List T → M T) : Tw.Env → M Out :=
  (I.sSeq (I.sIf (I.cTest (I.c2 (I.gEqD false) (I.cVar 0) (I.cN I.mLst I.aNil))) (I.sSeq (I.sRet (I.cN I.mLst (I.aCons (I.cN I.mTup I.aNil) I.aNil)))
      I.sNil) I.sNil)
      (I.sSeq (I.sSet 1 (I.cCall 1 (Φ 5) (I.aCons (I.cSlice (I.cVar 0) (I.oSome (I.cK (.int 1))) I.oNone) I.aNil)))
      (I.sSeq (I.sRet (I.cN I.mLst (I.aCons (I.cN I.mTup I.aNil) (I.aStar (I.cLc (I.iSeq (I.cVar 1)) (gN 2) I.cYes (I.cN I.mTup (I.aCons (I.c2 I.gIxD (I.cVar 0) (I.cK (.int 0))) (I.aStar (I.cVar 2) I.aNil))) [2]) (I.aStar (I.cSlice (I.cVar 1) (I.oSome (I.cK (.int 1))) I.oNone) I.aNil)))))
      I.sNil)))
abbrev st5 : Stmt := top 14
def e5 : FE := ⟨"choices", "choices", st5, ["things"], ["things", "rest", "row"], [], some b5⟩
theorem sc5 : FnScope ["things", "rest", "row"] ["things"] (defScope st5) := ⟨rfl, rfl, rfl, by decide +kernel, rfl, by decide +kernel, by decide +kernel⟩
theorem tr5 (Φ : Nat → List T → M T) : trSs Φ 400 200 (ctOf G e5) (defBody e5.st) = some (b5 Φ) := by kernel_rfl
/-- bites_of -/
def b6 (Φ : Nat → List T → M T) : Tw.Env → M Out :=
  (I.sSeq (I.sSet 2 (I.cCall 1 (Φ 5) (I.aCons (I.cRgL1 T.lst (I.cN I.bLen (I.aCons (I.cVar 0) I.aNil))) I.aNil)))
      (I.sSeq (I.sRet (I.cLc (I.iSeq (I.cVar 2)) (gN 3) (I.cTest (I.c2 (I.gEqD false) (I.cN I.bSum (I.aCons (I.cLc (I.iSeq (I.cVar 3)) (gN 4) I.cYes (I.c2 I.gIxD (I.cVar 0) (I.cVar 4)) [4]) I.aNil)) (I.cVar 1))) (I.cVar 3) [3]))
      I.sNil))
abbrev st6 : Stmt := top 15
def e6 : FE := ⟨"bites_of", "bites_of", st6, ["times", "depth"], ["times", "depth", "rows", "row", "index"], [], some b6⟩
theorem sc6 : FnScope ["times", "depth", "rows", "row", "index"] ["times", "depth"] (defScope st6) := ⟨rfl, rfl, rfl, by decide +kernel, rfl, by decide +kernel, by decide +kernel⟩
theorem tr6 (Φ : Nat → List T → M T) : trSs Φ 400 200 (ctOf G e6) (defBody e6.st) = some (b6 Φ) := by kernel_rfl
/-- bites -/
def b7 (Φ : Nat → List T → M T) : Tw.Env → M Out :=
  (I.sSeq (I.sExpr (I.cCall 1 (Φ 4) (I.aCons (I.cVar 0) I.aNil)))
      (I.sSeq (I.sIf (I.cNot (I.cTru (I.cCall 3 (Φ 0) (I.aCons (I.cVar 1) (I.aCons (I.cK (.int 0)) (I.aCons (I.c2 I.gMulI (I.cK (.int 6)) (I.cK (.int 9))) I.aNil)))))) (I.sSeq I.sBad
      I.sNil) I.sNil)
      (I.sSeq (I.sRet (I.cCall 2 (Φ 6) (I.aCons (I.cVar 0) (I.aCons (I.cVar 1) I.aNil))))
      I.sNil)))
abbrev st7 : Stmt := top 16
def e7 : FE := ⟨"bites", "bites", st7, ["times", "depth"], ["times", "depth"], [], some b7⟩
theorem sc7 : FnScope ["times", "depth"] ["times", "depth"] (defScope st7) := ⟨rfl, rfl, rfl, by decide +kernel, rfl, by decide +kernel, by decide +kernel⟩
theorem tr7 (Φ : Nat → List T → M T) : trSs Φ 400 200 (ctOf G e7) (defBody e7.st) = some (b7 Φ) := by kernel_rfl
/-- _law_taken -/
def b8 (Φ : Nat → List T → M T) : Tw.Env → M Out :=
  (I.sSeq (I.sIf (I.cTest (I.c2 I.gGt (I.c2 I.gIxD (I.cVar 0) (I.cK (.int 3))) (I.cK (.int 0)))) (I.sSeq (I.sSet 3 (I.c2 I.gMod (I.cN I.bInt (I.aCons (I.c2 I.gIxD (I.cVar 0) (I.cK (.int 3))) I.aNil)) (I.cVar 1)))
      (I.sSeq (I.sStore (I.c2 I.gFdiv (I.c2 I.gIxD (I.cVar 0) (I.cK (.int 3))) (I.cVar 1)) (I.cVar 0) (I.cK (.int 3)))
      (I.sSeq (I.sRet (I.cVar 3))
      I.sNil))) I.sNil)
      (I.sSeq (I.sStore (I.c2 I.gAdd (I.c2 I.gIxD (I.cVar 0) (I.cK (.int 1))) (I.cK (.int 1))) (I.cVar 0) (I.cK (.int 1)))
      (I.sSeq (I.sIf (I.cTest (I.c2 I.gGt (I.c2 I.gIxD (I.cVar 0) (I.cK (.int 1))) (I.cN I.bLen (I.aCons (I.c2 I.gIxD (I.cVar 0) (I.cK (.int 0))) I.aNil)))) (I.sSeq (I.sStore (I.c2 I.gMod (I.cN I.bInt (I.aCons (I.c2 I.gAdd (I.c2 I.gMulI (I.c2 I.gIxD (I.cVar 0) (I.cK (.int 2))) (I.cK (.int 48271))) (I.cK (.int 11))) I.aNil)) (I.cK (.int 2147483647))) (I.cVar 0) (I.cK (.int 2)))
      (I.sSeq (I.sRet (I.c2 I.gMod (I.cN I.bInt (I.aCons (I.c2 I.gFdiv (I.c2 I.gIxD (I.cVar 0) (I.cK (.int 2))) (I.cK (.int 7))) I.aNil)) (I.cVar 1)))
      I.sNil)) I.sNil)
      (I.sSeq (I.sSet 2 (I.c2 I.gIxD (I.c2 I.gIxD (I.cVar 0) (I.cK (.int 0))) (I.c2 I.gSub (I.c2 I.gIxD (I.cVar 0) (I.cK (.int 1))) (I.cK (.int 1)))))
      (I.sSeq (I.sStore (I.c2 I.gMod (I.cN I.bInt (I.aCons (I.c2 I.gAdd (I.c2 I.gAdd (I.c2 I.gMulI (I.c2 I.gIxD (I.cVar 0) (I.cK (.int 2))) (I.cK (.int 48271))) (I.cVar 2)) (I.cK (.int 11))) I.aNil)) (I.cK (.int 2147483647))) (I.cVar 0) (I.cK (.int 2)))
      (I.sSeq (I.sStore (I.cIf (I.cTest (I.c2 I.gGe (I.cVar 2) (I.c2 I.gPow (I.cK (.int 10)) (I.cK (.int 18))))) (I.c2 I.gFdiv (I.cVar 2) (I.cVar 1)) (I.cK (.int 0))) (I.cVar 0) (I.cK (.int 3)))
      (I.sSeq (I.sRet (I.c2 I.gMod (I.cN I.bInt (I.aCons (I.cVar 2) I.aNil)) (I.cVar 1)))
      I.sNil)))))))
abbrev st8 : Stmt := top 18
def e8 : FE := ⟨"_law_taken", "_law_taken", st8, ["_law_row", "_law_many"], ["_law_row", "_law_many", "_law_cell", "_law_found"], [], some b8⟩
theorem sc8 : FnScope ["_law_row", "_law_many", "_law_cell", "_law_found"] ["_law_row", "_law_many"] (defScope st8) := ⟨rfl, rfl, rfl, by decide +kernel, rfl, by decide +kernel, by decide +kernel⟩
theorem tr8 (Φ : Nat → List T → M T) : trSs Φ 400 200 (ctOf G e8) (defBody e8.st) = some (b8 Φ) := by kernel_rfl
/-- _law_pick -/
def b9 (Φ : Nat → List T → M T) : Tw.Env → M Out :=
  (I.sSeq (I.sRet (I.c2 I.gIxD (I.cVar 1) (I.cCall 2 (Φ 8) (I.aCons (I.cVar 0) (I.aCons (I.cN I.bLen (I.aCons (I.cVar 1) I.aNil)) I.aNil)))))
      I.sNil)
abbrev st9 : Stmt := top 19
def e9 : FE := ⟨"_law_pick", "_law_pick", st9, ["_law_row", "_law_some"], ["_law_row", "_law_some"], [], some b9⟩
theorem sc9 : FnScope ["_law_row", "_law_some"] ["_law_row", "_law_some"] (defScope st9) := ⟨rfl, rfl, rfl, by decide +kernel, rfl, by decide +kernel, by decide +kernel⟩
theorem tr9 (Φ : Nat → List T → M T) : trSs Φ 400 200 (ctOf G e9) (defBody e9.st) = some (b9 Φ) := by kernel_rfl
/-- _law_sums -/
def b10 (Φ : Nat → List T → M T) : Tw.Env → M Out :=
  (I.sSeq (I.sSet 1 (I.cN I.mLst (I.aCons (I.cK (.int 0)) I.aNil)))
      (I.sSeq (I.sFor (I.iSeq (I.cVar 0)) (gN 2) (I.sSeq (I.sSet 1 (I.c2 I.gAdd (I.cVar 1) (I.cLc (I.iSeq (I.cVar 1)) (gN 3) I.cYes (I.c2 I.gAdd (I.cVar 3) (I.cVar 2)) [3])))
      I.sNil))
      (I.sSeq (I.sRet (I.cVar 1))
      I.sNil)))
abbrev st10 : Stmt := top 20
def e10 : FE := ⟨"_law_sums", "_law_sums", st10, ["_law_times"], ["_law_times", "_law_found", "_law_time", "_law_one"], [], some b10⟩
theorem sc10 : FnScope ["_law_times", "_law_found", "_law_time", "_law_one"] ["_law_times"] (defScope st10) := ⟨rfl, rfl, rfl, by decide +kernel, rfl, by decide +kernel, by decide +kernel⟩
theorem tr10 (Φ : Nat → List T → M T) : trSs Φ 400 200 (ctOf G e10) (defBody e10.st) = some (b10 Φ) := by kernel_rfl
/-- law -/
def b11 (Φ : Nat → List T → M T) : Tw.Env → M Out :=
  (I.sSeq (I.sSet 1 (I.cN I.mNew (I.aCons (I.cVar 0) (I.aCons (I.cK (.int 0)) (I.aCons (I.cK (.int 0)) (I.aCons (I.cK (.int 0)) I.aNil))))))
      (I.sSeq (I.sSet 2 (I.cN I.bTuple (I.aCons (I.cLc (I.iRg1 (I.aCons (I.cCall 2 (Φ 8) (I.aCons (I.cVar 1) (I.aCons (I.cK (.int 6)) I.aNil))) I.aNil)) (gN 7) I.cYes (I.cCall 2 (Φ 8) (I.aCons (I.cVar 1) (I.aCons (I.cK (.int 10)) I.aNil))) [7]) I.aNil)))
      (I.sSeq (I.sSet 3 (I.cN I.mLst (I.aCons (I.cN I.mTup I.aNil) I.aNil)))
      (I.sSeq (I.sFor (I.iRg1 (I.aCons (I.cK (.int 10)) I.aNil)) (gN 4) (I.sSeq (I.sSet 10 (I.cLc (I.iSeq (I.cVar 3)) (gN 5) (I.cTest (I.c2 (I.gEqD false) (I.cLc (I.iSeq (I.cVar 2)) (gN 14) (I.cTest (I.c2 (I.gIn true) (I.cVar 14) (I.cCall 1 (Φ 10) (I.aCons (I.cVar 5) I.aNil)))) (I.cVar 14) [14]) (I.cN I.mLst I.aNil))) (I.cVar 5) [5]))
      (I.sSeq (I.sIf (I.cTest (I.c2 (I.gEqD true) (I.cVar 10) (I.cN I.mLst I.aNil))) (I.sSeq (I.sIf (I.cTest (I.c2 (I.gEqD true) (I.cCall 1 (Φ 3) (I.aCons (I.cVar 2) I.aNil)) (I.c2 I.gIxD (I.cVar 10) (I.cK (.int 0))))) (I.sSeq (I.sRet (I.cK (.bl false)))
      I.sNil) I.sNil)
      (I.sSeq I.sBreak
      I.sNil)) I.sNil)
      (I.sSeq (I.sSet 11 (I.cN I.mLst I.aNil))
      (I.sSeq (I.sFor (I.iSeq (I.cVar 3)) (gN 5) (I.sSeq (I.sSet 11 (I.c2 I.gAdd (I.cVar 11) (I.cLc (I.iRg2 (I.aCons (I.c2 I.gIxD (I.cOrT (I.cVar 5) (I.cN I.mTup (I.aCons (I.cK (.int 1)) I.aNil))) (I.c1 I.gNeg (I.cK (.int 1)))) (I.aCons (I.cK (.int 10)) I.aNil))) (gN 13) I.cYes (I.c2 I.gAdd (I.cVar 5) (I.cN I.mTup (I.aCons (I.cVar 13) I.aNil))) [13])))
      I.sNil))
      (I.sSeq (I.sSet 3 (I.cVar 11))
      I.sNil))))))
      (I.sSeq (I.sSet 5 (I.cN I.bTuple (I.aCons (I.cLc (I.iRg1 (I.aCons (I.cCall 2 (Φ 8) (I.aCons (I.cVar 1) (I.aCons (I.cK (.int 7)) I.aNil))) I.aNil)) (gN 7) I.cYes (I.c2 I.gAdd (I.cK (.int 1)) (I.cCall 2 (Φ 8) (I.aCons (I.cVar 1) (I.aCons (I.cK (.int 9)) I.aNil)))) [7]) I.aNil)))
      (I.sSeq (I.sSet 6 (I.cN I.mLst (I.aCons (I.cN I.mTup I.aNil) I.aNil)))
      (I.sSeq (I.sFor (I.iRg1 (I.aCons (I.cN I.bLen (I.aCons (I.cVar 5) I.aNil)) I.aNil)) (gN 7) (I.sSeq (I.sSet 6 (I.c2 I.gAdd (I.cVar 6) (I.cLc (I.iSeq (I.cVar 6)) (gN 12) I.cYes (I.c2 I.gAdd (I.cVar 12) (I.cN I.mTup (I.aCons (I.cVar 7) I.aNil))) [12])))
      I.sNil))
      (I.sSeq (I.sSet 8 (I.cCall 2 (Φ 9) (I.aCons (I.cVar 1) (I.aCons (I.cN I.mLst (I.aCons (I.cK (.int 0)) (I.aCons (I.cCall 2 (Φ 8) (I.aCons (I.cVar 1) (I.aCons (I.cK (.int 55)) I.aNil))) (I.aCons (I.cN I.bSum (I.aCons (I.cLc (I.iSeq (I.cCall 2 (Φ 9) (I.aCons (I.cVar 1) (I.aCons (I.cVar 6) I.aNil)))) (gN 7) I.cYes (I.c2 I.gIxD (I.cVar 5) (I.cVar 7)) [7]) I.aNil)) I.aNil)))) I.aNil))))
      (I.sSeq (I.sSet 9 (I.cN I.bSorted (I.aCons (I.cLc (I.iSeq (I.cVar 6)) (gN 12) (I.cTest (I.c2 (I.gEqD false) (I.cN I.bSum (I.aCons (I.cLc (I.iSeq (I.cVar 12)) (gN 7) I.cYes (I.c2 I.gIxD (I.cVar 5) (I.cVar 7)) [7]) I.aNil)) (I.cVar 8))) (I.cVar 12) [12]) I.aNil)))
      (I.sSeq (I.sRet (I.c2 (I.gEqD false) (I.cCall 2 (Φ 7) (I.aCons (I.cVar 5) (I.aCons (I.cVar 8) I.aNil))) (I.cVar 9)))
      I.sNil))))))))))
abbrev st11 : Stmt := top 21
def e11 : FE := ⟨"law", "law", st11, ["_law_script"], ["_law_script", "_law_row", "_law_depths", "_law_level", "_law_turn", "_law_times", "_law_rows", "_law_k", "_law_goal", "_law_due", "_law_good", "_law_longer", "_law_some", "_law_time", "_law_depth"], ["_law_row"], some b11⟩
theorem sc11 : FnScope ["_law_script", "_law_row", "_law_depths", "_law_level", "_law_turn", "_law_times", "_law_rows", "_law_k", "_law_goal", "_law_due", "_law_good", "_law_longer", "_law_some", "_law_time", "_law_depth"] ["_law_script"] (defScope st11) := ⟨rfl, rfl, rfl, by decide +kernel, rfl, by decide +kernel, by decide +kernel⟩
theorem tr11 (Φ : Nat → List T → M T) : trSs Φ 400 200 (ctOf G e11) (defBody e11.st) = some (b11 Φ) := by kernel_rfl
def tab : List FE := [e0, e1, e2, e3, e4, e5, e6, e7, e8, e9, e10, e11]
theorem all_mk {l : PySem.W.OpenLaw} {w : World} {K : PySem.W.Frag} {h : Heap} {mg : Str → Option Value} {fa : Addr} (X : K.In h) (Gm : h.Ns mainGlobals mg) (hfa : mg "law" = some (.ref fa))
    {f0 : Addr} {od0 an0 : Option Addr} {sl0 : Array (Option Value)} {oc0 kV0 dc0 pm0 cd0 ct0 : Value}
    {f1 : Addr} {od1 an1 : Option Addr} {sl1 : Array (Option Value)} {oc1 kV1 dc1 pm1 cd1 ct1 : Value}
    {f2 : Addr} {od2 an2 : Option Addr} {sl2 : Array (Option Value)} {oc2 kV2 dc2 pm2 cd2 ct2 : Value}
    {f3 : Addr} {od3 an3 : Option Addr} {sl3 : Array (Option Value)} {oc3 kV3 dc3 pm3 cd3 ct3 : Value}
    {f4 : Addr} {od4 an4 : Option Addr} {sl4 : Array (Option Value)} {oc4 kV4 dc4 pm4 cd4 ct4 : Value}
    {f5 : Addr} {od5 an5 : Option Addr} {sl5 : Array (Option Value)} {oc5 kV5 dc5 pm5 cd5 ct5 : Value}
    {f6 : Addr} {od6 an6 : Option Addr} {sl6 : Array (Option Value)} {oc6 kV6 dc6 pm6 cd6 ct6 : Value}
    {f7 : Addr} {od7 an7 : Option Addr} {sl7 : Array (Option Value)} {oc7 kV7 dc7 pm7 cd7 ct7 : Value}
    {f8 : Addr} {od8 an8 : Option Addr} {sl8 : Array (Option Value)} {oc8 kV8 dc8 pm8 cd8 ct8 : Value}
    {f9 : Addr} {od9 an9 : Option Addr} {sl9 : Array (Option Value)} {oc9 kV9 dc9 pm9 cd9 ct9 : Value}
    {f10 : Addr} {od10 an10 : Option Addr} {sl10 : Array (Option Value)} {oc10 kV10 dc10 pm10 cd10 ct10 : Value}
    {f11 : Addr} {od11 an11 : Option Addr} {sl11 : Array (Option Value)} {oc11 kV11 dc11 pm11 cd11 ct11 : Value}
    {tk0 : Tok}
    {tk1 : Tok}
    (a0 : PySem.W.nsIn K mainGlobals "is_number" = some (some (.ref f0))) (l0 : K.lookup f0 = some ⟨oc0, od0, .func (PySem.W.fnOf "is_number" "is_number" (defArgs st0) (defBody st0) (defScope st0) .none kV0 dc0 pm0 an0 cd0 ct0), sl0⟩) (c0 : PySem.W.codeIn K cd0 "is_number" = true) (k0 : PySem.W.keepIn K (.ref f0) = true)
    (a1 : PySem.W.nsIn K mainGlobals "sums_of" = some (some (.ref f1))) (l1 : K.lookup f1 = some ⟨oc1, od1, .func (PySem.W.fnOf "sums_of" "sums_of" (defArgs st1) (defBody st1) (defScope st1) .none kV1 dc1 pm1 an1 cd1 ct1), sl1⟩) (c1 : PySem.W.codeIn K cd1 "sums_of" = true) (k1 : PySem.W.keepIn K (.ref f1) = true)
    (a2 : PySem.W.nsIn K mainGlobals "least_times" = some (some (.ref f2))) (l2 : K.lookup f2 = some ⟨oc2, od2, .func (PySem.W.fnOf "least_times" "least_times" (defArgs st2) (defBody st2) (defScope st2) .none kV2 dc2 pm2 an2 cd2 ct2), sl2⟩) (c2 : PySem.W.codeIn K cd2 "least_times" = true) (k2 : PySem.W.keepIn K (.ref f2) = true)
    (a3 : PySem.W.nsIn K mainGlobals "fewest_times" = some (some (.ref f3))) (l3 : K.lookup f3 = some ⟨oc3, od3, .func (PySem.W.fnOf "fewest_times" "fewest_times" (defArgs st3) (defBody st3) (defScope st3) .none kV3 dc3 pm3 an3 cd3 ct3), sl3⟩) (c3 : PySem.W.codeIn K cd3 "fewest_times" = true) (k3 : PySem.W.keepIn K (.ref f3) = true)
    (a4 : PySem.W.nsIn K mainGlobals "check_times" = some (some (.ref f4))) (l4 : K.lookup f4 = some ⟨oc4, od4, .func (PySem.W.fnOf "check_times" "check_times" (defArgs st4) (defBody st4) (defScope st4) .none kV4 dc4 pm4 an4 cd4 ct4), sl4⟩) (c4 : PySem.W.codeIn K cd4 "check_times" = true) (k4 : PySem.W.keepIn K (.ref f4) = true)
    (a5 : PySem.W.nsIn K mainGlobals "choices" = some (some (.ref f5))) (l5 : K.lookup f5 = some ⟨oc5, od5, .func (PySem.W.fnOf "choices" "choices" (defArgs st5) (defBody st5) (defScope st5) .none kV5 dc5 pm5 an5 cd5 ct5), sl5⟩) (c5 : PySem.W.codeIn K cd5 "choices" = true) (k5 : PySem.W.keepIn K (.ref f5) = true)
    (a6 : PySem.W.nsIn K mainGlobals "bites_of" = some (some (.ref f6))) (l6 : K.lookup f6 = some ⟨oc6, od6, .func (PySem.W.fnOf "bites_of" "bites_of" (defArgs st6) (defBody st6) (defScope st6) .none kV6 dc6 pm6 an6 cd6 ct6), sl6⟩) (c6 : PySem.W.codeIn K cd6 "bites_of" = true) (k6 : PySem.W.keepIn K (.ref f6) = true)
    (a7 : PySem.W.nsIn K mainGlobals "bites" = some (some (.ref f7))) (l7 : K.lookup f7 = some ⟨oc7, od7, .func (PySem.W.fnOf "bites" "bites" (defArgs st7) (defBody st7) (defScope st7) .none kV7 dc7 pm7 an7 cd7 ct7), sl7⟩) (c7 : PySem.W.codeIn K cd7 "bites" = true) (k7 : PySem.W.keepIn K (.ref f7) = true)
    (a8 : PySem.W.nsIn K mainGlobals "_law_taken" = some (some (.ref f8))) (l8 : K.lookup f8 = some ⟨oc8, od8, .func (PySem.W.fnOf "_law_taken" "_law_taken" (defArgs st8) (defBody st8) (defScope st8) .none kV8 dc8 pm8 an8 cd8 ct8), sl8⟩) (c8 : PySem.W.codeIn K cd8 "_law_taken" = true) (k8 : PySem.W.keepIn K (.ref f8) = true)
    (a9 : PySem.W.nsIn K mainGlobals "_law_pick" = some (some (.ref f9))) (l9 : K.lookup f9 = some ⟨oc9, od9, .func (PySem.W.fnOf "_law_pick" "_law_pick" (defArgs st9) (defBody st9) (defScope st9) .none kV9 dc9 pm9 an9 cd9 ct9), sl9⟩) (c9 : PySem.W.codeIn K cd9 "_law_pick" = true) (k9 : PySem.W.keepIn K (.ref f9) = true)
    (a10 : PySem.W.nsIn K mainGlobals "_law_sums" = some (some (.ref f10))) (l10 : K.lookup f10 = some ⟨oc10, od10, .func (PySem.W.fnOf "_law_sums" "_law_sums" (defArgs st10) (defBody st10) (defScope st10) .none kV10 dc10 pm10 an10 cd10 ct10), sl10⟩) (c10 : PySem.W.codeIn K cd10 "_law_sums" = true) (k10 : PySem.W.keepIn K (.ref f10) = true)
    (a11 : PySem.W.nsIn K mainGlobals "law" = some (some (.ref f11))) (l11 : K.lookup f11 = some ⟨oc11, od11, .func (PySem.W.fnOf "law" "law" (defArgs st11) (defBody st11) (defScope st11) .none kV11 dc11 pm11 an11 cd11 ct11), sl11⟩) (c11 : PySem.W.codeIn K cd11 "law" = true) (k11 : PySem.W.keepIn K (.ref f11) = true)
    (x0 : PySem.W.nsIn K mainGlobals "MAX_DEPTH" = some (some (.int 9 tk0)))
    (x1 : PySem.W.nsIn K mainGlobals "MAX_TIMES" = some (some (.int 6 tk1)))
    (z0 : PySem.W.nsIn K mainGlobals "all" = some none)
    (z1 : PySem.W.nsIn K mainGlobals "bool" = some none)
    (z2 : PySem.W.nsIn K mainGlobals "enumerate" = some none)
    (z3 : PySem.W.nsIn K mainGlobals "int" = some none)
    (z4 : PySem.W.nsIn K mainGlobals "isinstance" = some none)
    (z5 : PySem.W.nsIn K mainGlobals "len" = some none)
    (z6 : PySem.W.nsIn K mainGlobals "list" = some none)
    (z7 : PySem.W.nsIn K mainGlobals "max" = some none)
    (z8 : PySem.W.nsIn K mainGlobals "range" = some none)
    (z9 : PySem.W.nsIn K mainGlobals "sorted" = some none)
    (z10 : PySem.W.nsIn K mainGlobals "sum" = some none)
    (z11 : PySem.W.nsIn K mainGlobals "tuple" = some none)
    (plain : ∀ ns : List Int, ns.length ≤ 63 → ∃ μ, Ph tab 40 11 [.scr (ns.map T.int)] [] = .ok (.bl true) μ) :
    ∃ fd : FuncData, (∀ (s : Shared) (v : Value), BindsTo s fd ⟨[v], []⟩ [("_law_script", v)]) ∧ ∀ base : Heap, K.In base → base.Ns mainGlobals mg → FnOk l.prog w K mg base (L2.CX l.prog w) 40 fa fd ["_law_script"] (spLaw K) := by
  have e := hfa.symm.trans (PySem.W.mg_of X Gm a11)
  cases e
  let S : Sta := ⟨K, fun _ => none, fun i => ([f0, f1, f2, f3, f4, f5, f6, f7, f8, f9, f10, fa] : List Addr)[i]?⟩
  have F0 := fun_mk (st := st0) l0 c0 k0
  have B0 := F0.binds (ps := ["value", "smallest", "largest"]) fun _ _ _ _ _ _ us hl => match us, hl with | [_, _, _], _ => rfl
  have F1 := fun_mk (st := st1) l1 c1 k1
  have B1 := F1.binds (ps := ["times"]) fun _ _ _ _ _ _ us hl => match us, hl with | [_], _ => rfl
  have F2 := fun_mk (st := st2) l2 c2 k2
  have B2 := F2.binds (ps := ["depths"]) fun _ _ _ _ _ _ us hl => match us, hl with | [_], _ => rfl
  have F3 := fun_mk (st := st3) l3 c3 k3
  have B3 := F3.binds (ps := ["picture"]) fun _ _ _ _ _ _ us hl => match us, hl with | [_], _ => rfl
  have F4 := fun_mk (st := st4) l4 c4 k4
  have B4 := F4.binds (ps := ["times"]) fun _ _ _ _ _ _ us hl => match us, hl with | [_], _ => rfl
  have F5 := fun_mk (st := st5) l5 c5 k5
  have B5 := F5.binds (ps := ["things"]) fun _ _ _ _ _ _ us hl => match us, hl with | [_], _ => rfl
  have F6 := fun_mk (st := st6) l6 c6 k6
  have B6 := F6.binds (ps := ["times", "depth"]) fun _ _ _ _ _ _ us hl => match us, hl with | [_, _], _ => rfl
  have F7 := fun_mk (st := st7) l7 c7 k7
  have B7 := F7.binds (ps := ["times", "depth"]) fun _ _ _ _ _ _ us hl => match us, hl with | [_, _], _ => rfl
  have F8 := fun_mk (st := st8) l8 c8 k8
  have B8 := F8.binds (ps := ["_law_row", "_law_many"]) fun _ _ _ _ _ _ us hl => match us, hl with | [_, _], _ => rfl
  have F9 := fun_mk (st := st9) l9 c9 k9
  have B9 := F9.binds (ps := ["_law_row", "_law_some"]) fun _ _ _ _ _ _ us hl => match us, hl with | [_, _], _ => rfl
  have F10 := fun_mk (st := st10) l10 c10 k10
  have B10 := F10.binds (ps := ["_law_times"]) fun _ _ _ _ _ _ us hl => match us, hl with | [_], _ => rfl
  have F11 := fun_mk (st := st11) l11 c11 k11
  have B11 := F11.binds (ps := ["_law_script"]) fun _ _ _ _ _ _ us hl => match us, hl with | [_], _ => rfl
  have facts : ∀ (i : Nat) (e : FE), tab[i]? = some e → ∃ f fd, S.fa i = some f ∧ FEok S e f fd := by
    intro i e hi
    match i, hi with
    | 0, hi => cases hi; exact ⟨_, _, rfl, F0, sc0, B0⟩
    | 1, hi => cases hi; exact ⟨_, _, rfl, F1, sc1, B1⟩
    | 2, hi => cases hi; exact ⟨_, _, rfl, F2, sc2, B2⟩
    | 3, hi => cases hi; exact ⟨_, _, rfl, F3, sc3, B3⟩
    | 4, hi => cases hi; exact ⟨_, _, rfl, F4, sc4, B4⟩
    | 5, hi => cases hi; exact ⟨_, _, rfl, F5, sc5, B5⟩
    | 6, hi => cases hi; exact ⟨_, _, rfl, F6, sc6, B6⟩
    | 7, hi => cases hi; exact ⟨_, _, rfl, F7, sc7, B7⟩
    | 8, hi => cases hi; exact ⟨_, _, rfl, F8, sc8, B8⟩
    | 9, hi => cases hi; exact ⟨_, _, rfl, F9, sc9, B9⟩
    | 10, hi => cases hi; exact ⟨_, _, rfl, F10, sc10, B10⟩
    | 11, hi => cases hi; exact ⟨_, _, rfl, F11, sc11, B11⟩
    | n + 12, hi => exact absurd hi (by simp [tab])
  have tr : ∀ (i : Nat) (e : FE), tab[i]? = some e → ∀ b, e.b = some b → ∀ Φ, trSs Φ 400 200 (ctOf G e) (defBody e.st) = some (b Φ) := by
    intro i e hi b hb Φ
    match i, hi with
    | 0, hi => cases hi; cases hb; exact tr0 Φ
    | 1, hi => cases hi; cases hb; exact tr1 Φ
    | 2, hi => cases hi; cases hb; exact tr2 Φ
    | 3, hi => cases hi; cases hb; exact tr3 Φ
    | 4, hi => cases hi; cases hb; exact tr4 Φ
    | 5, hi => cases hi; cases hb; exact tr5 Φ
    | 6, hi => cases hi; cases hb; exact tr6 Φ
    | 7, hi => cases hi; cases hb; exact tr7 Φ
    | 8, hi => cases hi; cases hb; exact tr8 Φ
    | 9, hi => cases hi; cases hb; exact tr9 Φ
    | 10, hi => cases hi; cases hb; exact tr10 Φ
    | 11, hi => cases hi; cases hb; exact tr11 Φ
    | n + 12, hi => exact absurd hi (by simp [tab])
  have hG : ∀ x g, G x = some g → GG S mg tab x g := by
    intro x g hx
    have hm := lookup_mem hx
    simp only [glist, List.mem_cons, List.mem_nil_iff, or_false, Prod.mk.injEq] at hm
    rcases hm with ⟨rfl, rfl⟩ | ⟨rfl, rfl⟩ | ⟨rfl, rfl⟩ | ⟨rfl, rfl⟩ | ⟨rfl, rfl⟩ | ⟨rfl, rfl⟩ | ⟨rfl, rfl⟩ | ⟨rfl, rfl⟩ | ⟨rfl, rfl⟩ | ⟨rfl, rfl⟩ | ⟨rfl, rfl⟩ | ⟨rfl, rfl⟩ | ⟨rfl, rfl⟩ | ⟨rfl, rfl⟩ | ⟨rfl, rfl⟩ | ⟨rfl, rfl⟩ | ⟨rfl, rfl⟩ | ⟨rfl, rfl⟩ | ⟨rfl, rfl⟩ | ⟨rfl, rfl⟩ | ⟨rfl, rfl⟩ | ⟨rfl, rfl⟩ | ⟨rfl, rfl⟩ | ⟨rfl, rfl⟩ | ⟨rfl, rfl⟩ | ⟨rfl, rfl⟩
    · exact ⟨e0, f0, rfl, rfl, rfl, PySem.W.mg_of X Gm a0⟩
    · exact ⟨e1, f1, rfl, rfl, rfl, PySem.W.mg_of X Gm a1⟩
    · exact ⟨e2, f2, rfl, rfl, rfl, PySem.W.mg_of X Gm a2⟩
    · exact ⟨e3, f3, rfl, rfl, rfl, PySem.W.mg_of X Gm a3⟩
    · exact ⟨e4, f4, rfl, rfl, rfl, PySem.W.mg_of X Gm a4⟩
    · exact ⟨e5, f5, rfl, rfl, rfl, PySem.W.mg_of X Gm a5⟩
    · exact ⟨e6, f6, rfl, rfl, rfl, PySem.W.mg_of X Gm a6⟩
    · exact ⟨e7, f7, rfl, rfl, rfl, PySem.W.mg_of X Gm a7⟩
    · exact ⟨e8, f8, rfl, rfl, rfl, PySem.W.mg_of X Gm a8⟩
    · exact ⟨e9, f9, rfl, rfl, rfl, PySem.W.mg_of X Gm a9⟩
    · exact ⟨e10, f10, rfl, rfl, rfl, PySem.W.mg_of X Gm a10⟩
    · exact ⟨e11, fa, rfl, rfl, rfl, PySem.W.mg_of X Gm a11⟩
    · exact ⟨_, .int 9, PySem.W.mg_of X Gm x0, ⟨_, rfl⟩, fun _ _ => .int _⟩
    · exact ⟨_, .int 6, PySem.W.mg_of X Gm x1, ⟨_, rfl⟩, fun _ _ => .int _⟩
    · exact PySem.W.mg_none_of X Gm z0
    · exact PySem.W.mg_none_of X Gm z1
    · exact PySem.W.mg_none_of X Gm z2
    · exact PySem.W.mg_none_of X Gm z3
    · exact PySem.W.mg_none_of X Gm z4
    · exact PySem.W.mg_none_of X Gm z5
    · exact PySem.W.mg_none_of X Gm z6
    · exact PySem.W.mg_none_of X Gm z7
    · exact PySem.W.mg_none_of X Gm z8
    · exact PySem.W.mg_none_of X Gm z9
    · exact PySem.W.mg_none_of X Gm z10
    · exact PySem.W.mg_none_of X Gm z11
  refine ⟨PySem.W.fnOf "law" "law" (defArgs st11) (defBody st11) (defScope st11) .none kV11 dc11 pm11 an11 cd11 ct11, fun s v => .of_eq rfl, fun base h1 h2 => ?_⟩
  obtain ⟨f, fd, g1, g2, g3⟩ := all_ok (P := l.prog) (w := w) (mg := mg) (base := base) facts tr hG 40 11 e11 rfl
  cases g1
  have := F11.ex
  have e2 : fd = _ := fd_inj g2.fn F11
  subst e2
  exact g3.imp (law_sp (S := S) plain)
end Lw
namespace Lw
open PySem L2 Tw
local macro_rules | `(tactic| decreasing_trivial_pre_omega) => `(tactic| repeat (first
  | refine RI.sSeq ?_
  | refine RI.qnx ?_
  | refine R.qrt ?_
  | refine R.qbk ?_
  | refine R.qct ?_
  | refine RI.sSet ?_
  | refine RI.sRet ?_
  | refine RI.sRetN ?_
  | refine RI.sExpr ?_
  | refine RI.sIf ?_
  | refine RI.sNil ?_
  | refine RI.sPass ?_
  | refine RI.sBreak ?_
  | refine RI.sCont ?_
  | refine RI.sStore ?_
  | refine RI.sPar ?_
  | refine RI.sFor ?_
  | refine R.frt ?_
  | refine R.fnx ?_
  | refine RI.cVar rfl ?_
  | refine R.brT ?_
  | refine R.brF ?_
  | refine R.brNT ?_
  | refine R.brNF ?_
  | refine RI.cK ?_
  | refine RI.c1 ?_
  | refine RI.c2 ?_
  | refine RI.cN ?_
  | refine RI.aNil ?_
  | refine RI.aCons ?_
  | refine RI.aStar ?_
  | refine RI.cTest ?_
  | refine RI.cTru ?_
  | refine RI.cAnd ?_
  | refine RI.cOr ?_
  | refine RI.cNot ?_
  | refine RI.cYes ?_
  | refine RI.cIf ?_
  | refine RI.cAndT ?_
  | refine RI.cOrT ?_
  | refine RI.cNotT ?_
  | refine RI.cChain ?_
  | refine RI.cSlice ?_
  | refine RI.oNone ?_
  | refine RI.oSome ?_
  | refine RI.cKw ?_
  | refine RI.iSeq ?_
  | refine RI.mItT ?_
  | refine RI.mItL ?_
  | refine RI.iRg1 ?_
  | refine RI.iRg2 ?_
  | refine RI.iEn ?_
  | refine RI.mEnuT ?_
  | refine RI.mEnuL ?_
  | refine RI.iZp ?_
  | refine RI.mZipT ?_
  | refine RI.mZipL ?_
  | refine RI.cLc ?_
  | refine RI.cLc2 ?_
  | refine RI.cRgL1 ?_
  | refine RI.cRgL2 ?_
  | refine RI.cMeth ?_
  | refine RI.cCall ?_
  | refine RI.now ?_
  | refine RI.gIxO (by assumption) rfl ?_
  | refine RI.gIxT rfl ?_
  | refine RI.gIxL rfl ?_
  | refine RI.gIx0 ?_
  | refine RI.gAddI ?_
  | refine RI.gSub ?_
  | refine RI.gLt ?_
  | refine RI.gLe ?_
  | refine RI.gGt ?_
  | refine RI.gGe ?_
  | refine RI.gNeg ?_
  | refine RI.eqI0 ?_
  | refine RI.eqI1 ?_
  | refine RI.bLenT ?_
  | refine RI.bLenL ?_
  | refine RI.bLenS ?_
  | refine RI.bInt ?_
  | refine RI.bIntB ?_
  | refine RI.bTupL ?_
  | refine RI.bTupT ?_
  | refine RI.bLstT ?_
  | refine RI.bLstL ?_
  | refine RI.mSeqT ?_
  | refine RI.mSeqL ?_
  | refine RI.mTruB ?_
  | refine RI.mTruI ?_
  | refine RI.mTruT ?_
  | refine RI.mTruL ?_
  | refine RI.mTruN ?_
  | refine RI.mCutT ?_
  | refine RI.mCutL ?_
  | refine RI.isiTup ?_
  | refine RI.isiInt ?_
  | refine RI.isiIntB ?_
  | refine RI.bLenO (by assumption) ?_
  | refine RI.gMul (by first | exact R.mulR rfl | exact R.mulL rfl) ?_
  | refine RI.gFdiv (by first | assumption | rfl | decide | omega) (by first | assumption | rfl | decide | omega) ?_
  | refine RI.gMod (by first | assumption | rfl | decide | omega) ?_
  | refine RI.gPow rfl ?_
  | (refine RI.mTup ?_ ?_; (focus (simp [lim]; done)))
  | (refine RI.mLst ?_ ?_; (focus (simp [lim]; done)))
  | (refine RI.mNew ?_ ?_; (focus (simp [lim]; done)))
  | refine R.isBl ?_
  | refine R.isInt ?_
  | refine R.isI1 ?_
  | refine R.isI2 ?_
  | refine R.len rfl ?_
  | refine R.chk (by first | assumption | decide +kernel) ?_
  ))
theorem ph0 (k : Nat) : Ph tab (k + 1) 0 = I.fnD 3 (b0 (Ph tab k)) := by rw [I.fnD_eq]; rfl
theorem ph8 (k : Nat) : Ph tab (k + 1) 8 = I.fnD 4 (b8 (Ph tab k)) := by rw [I.fnD_eq]; rfl
theorem ph9 (k : Nat) : Ph tab (k + 1) 9 = I.fnD 2 (b9 (Ph tab k)) := by rw [I.fnD_eq]; rfl
theorem isnum (k : Nat) (v a b : Int) (μ : Store) : Ph tab (k + 1) 0 [.int v, .int a, .int b] μ = .ok (.bl (decide (a ≤ v) && decide (v ≤ b))) μ := by
  apply eq_of_okI
  rw [ph0]
  refine RI.fnD ?_
  unfold b0
  decreasing_trivial_pre_omega
  refine ⟨fun hk => ?_, fun hk => ?_⟩
  · decreasing_trivial_pre_omega
    rw [hk]
    exact ⟨rfl, rfl⟩
  · decreasing_trivial_pre_omega
    rw [hk]
    exact ⟨rfl, rfl⟩
/-- the row of the script -/
def Row (ns : List Int) (n : Nat) (μ : Store) : Prop := ∃ a b c : Int, μ[n]? = some (some (.lst [.scr (ns.map T.int), .int a, .int b, .int c])) ∧ 0 ≤ a
theorem taken (k : Nat) {ns : List Int} {n : Nat} {μ : Store} {m : Int} (h : Row ns n μ) (h0 : 0 < m) (h1 : m < 1073741824) :
    OkI (Ph tab (k + 1) 8 [.obj n, .int m] μ) (fun t μ' => ∃ r, t = .int r ∧ 0 ≤ r ∧ r < m ∧ Row ns n μ' ∧ ∃ x, μ' = μ.set n x) (fun _ _ => False) := by
  obtain ⟨a, b, c, hm, ha⟩ := h
  have hl : n < μ.length := (List.getElem?_eq_some_iff.mp hm).1
  rw [ph8]
  refine RI.fnD ?_
  unfold b8
  decreasing_trivial_pre_omega
  refine ⟨fun hc => ?_, fun hc => ?_⟩
  · decreasing_trivial_pre_omega
    refine RI.mPutL hm rfl fun μ1 e1 hm1 => ?_
    decreasing_trivial_pre_omega
    exact ⟨_, rfl, Int.emod_nonneg _ (by omega), Int.emod_lt_of_pos _ h0, ⟨_, _, _, hm1, ha⟩, _, e1⟩
  · decreasing_trivial_pre_omega
    refine RI.mPutL hm rfl fun μ1 e1 hm1 => ?_
    decreasing_trivial_pre_omega
    refine ⟨fun hc => ?_, fun hc => ?_⟩
    · decreasing_trivial_pre_omega
      refine RI.mPutL hm1 rfl fun μ2 e2 hm2 => ?_
      decreasing_trivial_pre_omega
      refine ⟨_, rfl, Int.emod_nonneg _ (by omega), Int.emod_lt_of_pos _ h0, ⟨_, _, _, hm2, by omega⟩, by rw [e2, e1, List.set_set]; exact ⟨_, rfl⟩⟩
    · have hc' := of_decide_eq_false hc
      decreasing_trivial_pre_omega
      rw [List.length_map] at hc'
      obtain ⟨t, ht, ht2⟩ := R.atI_lt (ts := ns.map T.int) (i := a + 1 - 1) (by omega) (by rw [List.length_map]; omega)
      obtain ⟨v, rfl⟩ : ∃ v, t = .int v := by
        rw [List.getElem?_map] at ht2
        obtain ⟨v, _, e⟩ := Option.map_eq_some_iff.mp ht2
        exact ⟨v, e.symm⟩
      refine RI.gIxS ht ?_
      decreasing_trivial_pre_omega
      refine RI.mPutL hm1 rfl fun μ2 e2 hm2 => ?_
      decreasing_trivial_pre_omega
      refine ⟨fun hd => ?_, fun hd => ?_⟩
      · decreasing_trivial_pre_omega
        refine RI.mPutL hm2 rfl fun μ3 e3 hm3 => ?_
        decreasing_trivial_pre_omega
        refine ⟨_, rfl, Int.emod_nonneg _ (by omega), Int.emod_lt_of_pos _ h0, ⟨_, _, _, hm3, by omega⟩, by rw [e3, e2, e1, List.set_set, List.set_set]; exact ⟨_, rfl⟩⟩
      · decreasing_trivial_pre_omega
        refine RI.mPutL hm2 rfl fun μ3 e3 hm3 => ?_
        decreasing_trivial_pre_omega
        refine ⟨_, rfl, Int.emod_nonneg _ (by omega), Int.emod_lt_of_pos _ h0, ⟨_, _, _, hm3, by omega⟩, by rw [e3, e2, e1, List.set_set, List.set_set]; exact ⟨_, rfl⟩⟩
theorem pick (k : Nat) {ns : List Int} {n : Nat} {μ : Store} {ts : List T} (h : Row ns n μ) (h0 : 0 < ts.length) (h1 : ts.length < 1073741824) :
    OkI (Ph tab (k + 2) 9 [.obj n, .lst ts] μ) (fun t μ' => t ∈ ts ∧ Row ns n μ' ∧ ∃ x, μ' = μ.set n x) (fun _ _ => False) := by
  rw [ph9]
  refine RI.fnD ?_
  unfold b9
  decreasing_trivial_pre_omega
  refine (taken k h (m := ts.length) (by omega) (by omega)).imp fun t μ' ⟨r, e, g0, g1, g2, g3⟩ => ?_
  subst e
  obtain ⟨t, e1, e2⟩ := R.atI_lt (ts := ts) g0 g1
  refine RI.gIxL e1 ?_
  decreasing_trivial_pre_omega
  exact ⟨List.mem_iff_getElem?.mpr ⟨_, e2⟩, g2, g3⟩
/-! the sums of times -/
def lsums (r : List Int) : List Int := r.foldl (fun f t => f ++ f.map (· + t)) [0]
theorem lsums_snoc (r : List Int) (t : Int) : lsums (r ++ [t]) = lsums r ++ (lsums r).map (· + t) := by unfold lsums; rw [List.foldl_append]; rfl
theorem lsums_take {r : List Int} {j : Nat} {t : Int} (h : r[j]? = some t) : lsums (r.take (j + 1)) = lsums (r.take j) ++ (lsums (r.take j)).map (· + t) := by
  have e : r.take (j + 1) = r.take j ++ [t] := by rw [List.take_succ, h]; rfl
  rw [e, lsums_snoc]
theorem lsums_len (r : List Int) : ∀ j, (lsums (r.take j)).length ≤ 2 ^ j := by
  intro j
  induction j with
  | zero => simp [lsums]
  | succ j ih =>
    cases e : r[j]? with
    | none =>
      have : r.take (j + 1) = r.take j := by rw [List.take_succ, e]; simp
      rw [this, Nat.pow_succ]; omega
    | some t =>
      rw [lsums_take e, List.length_append, List.length_map, Nat.pow_succ]; omega
theorem ph10 (k : Nat) : Ph tab (k + 1) 10 = I.fnD 4 (b10 (Ph tab k)) := by rw [I.fnD_eq]; rfl
theorem lawsums (k : Nat) (r : List Int) (hr : r.length ≤ 12) (μ : Store) : Ph tab (k + 1) 10 [rowT r] μ = .ok (.lst ((lsums r).map T.int)) μ := by
  apply eq_of_okI
  rw [ph10]
  refine RI.fnD ?_
  unfold b10 rowT
  decreasing_trivial_pre_omega
  refine RI.forI (J := fun j ρ μ' => μ' = μ ∧ ∃ x y, ρ = [some (.tup (r.map T.int)), some (.lst ((lsums (r.take j)).map T.int)), x, y]) ⟨rfl, _, _, rfl⟩ (fun j t ρ μ1 e ⟨h1, x, y, h2⟩ => ?_) fun ρ μ1 ⟨h1, x, y, h2⟩ => ?_
  · subst h1 h2
    rw [List.getElem?_map] at e
    obtain ⟨v, e1, rfl⟩ := Option.map_eq_some_iff.mp e
    have hj : j < r.length := (List.getElem?_eq_some_iff.mp e1).1
    have hle := lsums_len r j
    have hpw : (2 : Nat) ^ j ≤ 2 ^ 12 := Nat.pow_le_pow_right (by omega) (by omega)
    refine RI.stp rfl ?_
    decreasing_trivial_pre_omega
    refine RI.lcM (fun i => T.int (i + v)) (fun i hi => ?_) ?_ ?_
    · refine RI.lcT rfl ?_
      decreasing_trivial_pre_omega
      exact ⟨rfl, rfl⟩
    · show _ ≤ 16777216; omega
    · refine RI.gAddL ?_ ?_
      · show _ ≤ 16777216; simp only [List.length_map]; omega
      · decreasing_trivial_pre_omega
        refine ⟨rfl, some (.int v), y, ?_⟩
        rw [lsums_take e1, List.map_append, List.map_map]
        rfl
  · subst h1 h2
    decreasing_trivial_pre_omega
    rw [List.length_map, List.take_length]
    exact ⟨rfl, rfl⟩
/-! the dict of the sums -/
theorem ph1 (k : Nat) : Ph tab (k + 1) 1 = I.fnD 4 (b1 (Ph tab k)) := by rw [I.fnD_eq]; rfl
def Dic (r : List Int) (n : Nat) (μ : Store) : Prop := ∃ ks ts, μ[n]? = some (some (.dic ks ts)) ∧ ks.length = ts.length ∧ ∀ d : Int, (Sum.inl d : Key) ∈ ks ↔ d ∈ lsums r
theorem get_end {α : Type} (l : List α) (x : α) : (l ++ [x])[l.length]? = some x := by rw [List.getElem?_append_right (Nat.le_refl _), Nat.sub_self]; rfl
theorem set_end {α : Type} (l : List α) (x y : α) : (l ++ [x]).set l.length y = l ++ [y] := by rw [List.set_append_right _ _ (Nat.le_refl _), Nat.sub_self]; rfl
theorem disp0 {ρ : Tw.Env} {μ : Store} : I.cDisp [(I.cK (.int 0), I.cK (.bl true))] ρ μ = .ok (.obj μ.length) (μ ++ [some (.dic [.inl 0] [.bl true])]) := by
  rw [I.cDisp_eq]
  unfold _root_.Tw.cDisp
  have e1 : prL [(I.cK (.int 0), I.cK (.bl true))] ρ (μ ++ [some (.dic [] [])]) = .ok [(.int 0, .bl true)] (μ ++ [some (.dic [] [])]) := by with_unfolding_all rfl
  rw [bnd_ok e1]
  unfold mFin
  have e2 : keysT [(T.int 0, T.bl true)] = some [(.inl 0, .bl true)] := rfl
  rw [get_end, e2]
  dsimp only
  rw [if_pos (by decide), set_end]
  rfl
theorem inl_map : ∀ {L : List Key}, (∀ k ∈ L, ∃ d : Int, k = Sum.inl d) → ∃ is' : List Int, L = is'.map Sum.inl
  | [], _ => ⟨[], rfl⟩
  | k :: L, h => by
    obtain ⟨d, rfl⟩ := h k List.mem_cons_self
    obtain ⟨is', rfl⟩ := inl_map fun k hk => h k (List.mem_cons_of_mem _ hk)
    exact ⟨d :: is', rfl⟩
theorem sums_of (k : Nat) (r : List Int) (hr : r.length ≤ 12) (μ : Store) : OkI (Ph tab (k + 1) 1 [rowT r] μ) (fun t μ' => t = .obj μ.length ∧ (∃ o, μ' = μ ++ [some o]) ∧ Dic r μ.length μ') (fun _ _ => False) := by
  rw [ph1]
  refine RI.fnD ?_
  unfold b1 rowT
  decreasing_trivial_pre_omega
  refine OkI.of_eq disp0 ?_
  decreasing_trivial_pre_omega
  refine RI.forI (J := fun j ρ μ' => ∃ (is : List Int) (ts : List T), μ' = μ ++ [some (.dic (is.map Sum.inl) ts)] ∧ is.length = ts.length ∧ is.length ≤ 2 ^ j ∧ (∀ d : Int, d ∈ is ↔ d ∈ lsums (r.take j)) ∧ ∃ x y, ρ = [some (.tup (r.map T.int)), some (.obj μ.length), x, y]) ⟨[0], [.bl true], rfl, rfl, by simp, by simp [lsums], _, _, rfl⟩ (fun j t ρ μ1 e h => ?_) fun ρ μ1 h => ?_
  · obtain ⟨is, ts, h1, h2, h3, h4, x, y, h5⟩ := h
    subst h5
    rw [List.getElem?_map] at e
    obtain ⟨v, e1, rfl⟩ := Option.map_eq_some_iff.mp e
    have hj : j < r.length := (List.getElem?_eq_some_iff.mp e1).1
    have hpw : (2 : Nat) ^ j ≤ 2 ^ 12 := Nat.pow_le_pow_right (by omega) (by omega)
    have hm : μ1[μ.length]? = some (some (.dic (is.map Sum.inl) ts)) := by rw [h1, get_end]
    refine RI.stp rfl ?_
    decreasing_trivial_pre_omega
    refine ⟨by unfold tyOk; simp [dicOf, hm], ?_⟩
    decreasing_trivial_pre_omega
    refine RI.bLstD hm ?_
    decreasing_trivial_pre_omega
    rw [List.map_map]
    refine RI.lcM (α := Int) (enc := unKey ∘ Sum.inl) (fun i => .tup [.int (i + v), .bl true]) (fun i hi => ?_) ?_ ?_
    · refine RI.lcT rfl ?_
      decreasing_trivial_pre_omega
      exact ⟨rfl, rfl⟩
    · show _ ≤ 16777216; omega
    · decreasing_trivial_pre_omega
      have hp : pairsT (is.map fun i => T.tup [.int (i + v), .bl true]) = some (is.map fun i => ((Sum.inl (i + v) : Key), T.bl true)) := by
        clear h1 h2 h3 h4 hm
        induction is with
        | nil => rfl
        | cons i is ih => rw [List.map_cons]; unfold pairsT; rw [ih]; rfl
      refine OkI.of_eq (a := .non) (μ := μ1.set μ.length (some (.dic (mergeL (is.map fun i => ((Sum.inl (i + v) : Key), T.bl true)) (is.map Sum.inl, ts)).1 (mergeL (is.map fun i => ((Sum.inl (i + v) : Key), T.bl true)) (is.map Sum.inl, ts)).2))) ?_ ?_
      · rw [I.mUpd_eq]
        unfold _root_.Tw.mUpd
        simp only [hm, hp]
        rw [if_pos (by show _ ≤ 16777216; simp only [List.length_map]; omega)]
      · decreasing_trivial_pre_omega
        rw [h1, set_end]
        have hmem : ∀ k : Key, k ∈ (mergeL (is.map fun i => ((Sum.inl (i + v) : Key), T.bl true)) (is.map Sum.inl, ts)).1 ↔ ∃ d, k = Sum.inl d ∧ (d ∈ is ∨ d - v ∈ is) := fun k => by
          rw [mergeL_mem, List.mem_map, List.map_map, List.mem_map]
          constructor
          · rintro (⟨d, hd, rfl⟩ | ⟨d, hd, rfl⟩)
            · exact ⟨d, rfl, .inl hd⟩
            · exact ⟨d + v, rfl, .inr (by have : d + v - v = d := by omega
                                          rw [this]; exact hd)⟩
          · rintro ⟨d, rfl, hd | hd⟩
            · exact .inl ⟨d, hd, rfl⟩
            · exact .inr ⟨d - v, hd, by show Sum.inl (d - v + v) = _; rw [show d - v + v = d by omega]⟩
        have hint : ∃ is' : List Int, (mergeL (is.map fun i => ((Sum.inl (i + v) : Key), T.bl true)) (is.map Sum.inl, ts)).1 = is'.map Sum.inl := by
          refine inl_map fun k hk => ?_
          obtain ⟨d, e, _⟩ := (hmem k).mp hk
          exact ⟨d, e⟩
        obtain ⟨is', e2⟩ := hint
        refine ⟨is', _, by rw [e2], ?_, ?_, fun d => ?_, some (.int v), y, rfl⟩
        · have := mergeL_length (is.map fun i => ((Sum.inl (i + v) : Key), T.bl true)) (is.map Sum.inl, ts) (by simpa using h2)
          rw [e2, List.length_map] at this
          exact this
        · have := mergeL_le (ps := is.map fun i => ((Sum.inl (i + v) : Key), T.bl true)) (p := (is.map Sum.inl, ts))
          rw [e2] at this
          simp only [List.length_map] at this
          rw [Nat.pow_succ]; omega
        · have hd := hmem (Sum.inl d)
          rw [e2] at hd
          rw [lsums_take e1, List.mem_append, List.mem_map]
          constructor
          · intro q
            obtain ⟨d', ed, q⟩ := hd.mp (List.mem_map.mpr ⟨d, q, rfl⟩)
            cases ed
            rcases q with q | q
            · exact .inl ((h4 d).mp q)
            · exact .inr ⟨d - v, (h4 _).mp q, by omega⟩
          · intro q
            have : (Sum.inl d : Key) ∈ is'.map Sum.inl := hd.mpr ⟨d, rfl, by
              rcases q with q | ⟨d', q, rfl⟩
              · exact .inl ((h4 d).mpr q)
              · exact .inr (by rw [show d' + v - v = d' by omega]; exact (h4 d').mpr q)⟩
            obtain ⟨d', q', ed⟩ := List.mem_map.mp this
            cases ed
            exact q'
  · obtain ⟨is, ts, h1, h2, h3, h4, x, y, h5⟩ := h
    subst h5
    decreasing_trivial_pre_omega
    refine ⟨rfl, ⟨_, h1⟩, is.map Sum.inl, ts, by rw [h1, get_end], by simpa using h2, fun d => ?_⟩
    rw [List.length_map, List.take_length] at h4
    rw [← h4 d]
    constructor
    · intro q
      obtain ⟨d', q', ed⟩ := List.mem_map.mp q
      cases ed
      exact q'
    · intro q
      exact List.mem_map.mpr ⟨d, q, rfl⟩
/-! the levels -/
def mxD : List Int → Int
  | [] => 1
  | n :: r => mxI n r
def lstD (r : List Int) : Int := r.getLastD 1
def nxt (r : List Int) : List (List Int) := (rgI (lstD r) 10).map fun x => r ++ [x]
def lev : Nat → List (List Int)
  | 0 => [[]]
  | k + 1 => (lev k).flatMap nxt
theorem mxD_snoc (r : List Int) (x : Int) (h : r ≠ []) : mxD (r ++ [x]) = max (mxD r) x := by
  cases r with
  | nil => exact absurd rfl h
  | cons n r =>
    show (r ++ [x]).foldl max n = max (r.foldl max n) x
    rw [List.foldl_append]; rfl
theorem lev_ok : ∀ (k : Nat), ∀ r ∈ lev k, mxD r = lstD r ∧ r.length = k ∧ 1 ≤ lstD r ∧ lstD r ≤ 9
  | 0, r, h => by
    have : r = [] := by simpa [lev] using h
    subst this
    decide
  | k + 1, r, h => by
    obtain ⟨r', h1, h2⟩ := List.mem_flatMap.mp h
    obtain ⟨x, h3, rfl⟩ := List.mem_map.mp h2
    rw [mem_rgI] at h3
    obtain ⟨e1, e2, e3, e4⟩ := lev_ok k r' h1
    have el : lstD (r' ++ [x]) = x := by unfold lstD; simp
    refine ⟨?_, by simp [e2], by rw [el]; omega, by rw [el]; omega⟩
    rw [el]
    cases r' with
    | nil => rfl
    | cons a b =>
      rw [mxD_snoc _ _ (by simp), e1]
      omega
theorem lev_len : ∀ k, k ≤ 6 → (lev k).length ≤ 9 ^ k
  | 0, _ => by simp [lev]
  | k + 1, h => by
    have ih := lev_len k (by omega)
    show ((lev k).flatMap nxt).length ≤ _
    have : ∀ (l : List (List Int)), (∀ r ∈ l, 1 ≤ lstD r) → (l.flatMap nxt).length ≤ l.length * 9 := by
      intro l
      induction l with
      | nil => intro _; simp
      | cons r l ihl =>
        intro hl
        rw [List.flatMap_cons, List.length_append, List.length_cons]
        have h1 := ihl fun r hr => hl r (List.mem_cons_of_mem _ hr)
        have h2 : (nxt r).length ≤ 9 := by
          unfold nxt
          rw [List.length_map, rgI_length]
          have := hl r List.mem_cons_self
          omega
        omega
    have h3 := this (lev k) fun r hr => (lev_ok k r hr).2.2.1
    rw [Nat.pow_succ]
    omega
def good (ds : List Int) (r : List Int) : Bool := ds.all fun d => decide (d ∈ lsums r)
theorem ph2 (k : Nat) : Ph tab (k + 1) 2 = I.fnD 6 (b2 (Ph tab k)) := by rw [I.fnD_eq]; rfl
theorem gInD {r : List Int} {n : Nat} {μ : Store} {d : Int} {P : T → Store → Prop} {E : Exc → Store → Prop} (h : Dic r n μ) (q : P (.bl (decide (d ∈ lsums r))) μ) : OkI (I.gIn false (.int d) (.obj n) μ) P E := by
  obtain ⟨ks, ts, h1, h2, h3⟩ := h
  have e : I.gIn false (.int d) (.obj n) μ = .ok (.bl (getL ks ts (.inl d)).isSome) μ := by
    rw [I.gIn_eq]
    unfold _root_.Tw.gIn
    simp only [dicOf, h1, keyT]
    rfl
  have e2 : (getL ks ts (.inl d)).isSome = decide (d ∈ lsums r) := by
    have a := getL_mem (k := Sum.inl d) h2
    rw [h3] at a
    by_cases c : d ∈ lsums r
    · rw [decide_eq_true c]; exact a.mpr c
    · rw [decide_eq_false c]
      cases q : (getL ks ts (.inl d)).isSome with
      | false => rfl
      | true => exact absurd (a.mp q) c
  rw [e2] at e
  exact OkI.of_eq e q
theorem allgood (ds r : List Int) : (ds.map fun d => decide (d ∈ lsums r)).all id = good ds r := by
  unfold good
  rw [List.all_map]
  rfl
/-- the step from level to level, in the program -/
theorem step2 {r : List Int} {k : Nat} (h : r ∈ lev k) (hk : k ≤ 5) {ρ : Tw.Env} {μ : Store} {D L b c d e : Option T} (acc : List T) (hl : acc.length + (nxt r).length ≤ lim) :
    I.lcB2 (gN 2) I.cYes (I.iRg2 (I.aCons (I.cKw (I.kMM mxI) (I.aCons (I.cVar 2) I.aNil) (I.cK (.int 1))) (I.aCons (I.c2 I.gAdd (I.cK (.int 9)) (I.cK (.int 1))) I.aNil))) (gN 4) I.cYes (I.cN I.mTup (I.aStar (I.cVar 2) (I.aCons (I.cVar 4) I.aNil))) [4] [D, L, none, c, none, e] (rowT r) acc μ = .ok (acc ++ (nxt r).map rowT) μ := by
  obtain ⟨e1, e2, e3, e4⟩ := lev_ok k r h
  have hit : noX (I.iRg2 (I.aCons (I.cKw (I.kMM mxI) (I.aCons (I.cVar 2) I.aNil) (I.cK (.int 1))) (I.aCons (I.c2 I.gAdd (I.cK (.int 9)) (I.cK (.int 1))) I.aNil)) [D, L, some (rowT r), c, none, e]) μ = .ok ((rgI (lstD r) 10).map T.int) μ := by
    apply eq_of_okI
    rw [okI_noX]
    decreasing_trivial_pre_omega
    refine RI.kMax ?_
    have em : R.dfl mxI r (.int 1) = .int (lstD r) := by
      rw [← e1]
      cases r <;> rfl
    rw [em]
    decreasing_trivial_pre_omega
    refine R.chk (by unfold inR; rw [decide_eq_true (by omega), decide_eq_true (by omega)]; rfl) ?_
    refine R.chk (by decide +kernel) ?_
    exact ⟨rgT_eq _ _, rfl⟩
  have hc : noX (I.cYes [D, L, some (rowT r), c, none, e]) μ = .ok true μ := by
    apply eq_of_okI
    rw [okI_noX]
    decreasing_trivial_pre_omega
    exact rfl
  rw [I.lcB2_eq]
  unfold _root_.Tw.lcB2
  show bnd (noX (I.cYes [D, L, some (rowT r), c, none, e])) _ μ = _
  rw [bnd_ok hc]
  show bnd (noX (I.iRg2 (I.aCons (I.cKw (I.kMM mxI) (I.aCons (I.cVar 2) I.aNil) (I.cK (.int 1))) (I.aCons (I.c2 I.gAdd (I.cK (.int 9)) (I.cK (.int 1))) I.aNil)) [D, L, some (rowT r), c, none, e])) _ μ = _
  rw [bnd_ok hit, ← I.lcL_eq, ← I.lcT_eq, RI.lcL_map_eqI (fun x => rowT (r ++ [x]))]
  · unfold nxt
    rw [List.map_map]
    rfl
  · intro x hx
    refine RI.lcT rfl ?_
    decreasing_trivial_pre_omega
    refine RI.mTup (by simp [lim]; omega) ?_
    decreasing_trivial_pre_omega
    refine ⟨?_, rfl⟩
    unfold rowT
    rw [List.map_append]
    rfl
  · unfold nxt at hl
    rw [List.length_map] at hl
    exact hl
def nxtT (t : T) : List T := match t with
  | .tup ts => match intsT ts with
    | some q => (nxt q).map rowT
    | none => []
  | _ => []
theorem nxtT_row (q : List Int) : nxtT (rowT q) = (nxt q).map rowT := by
  show (match intsT (q.map T.int) with
    | some q => (nxt q).map rowT
    | none => []) = _
  rw [intsT_map]
theorem flat_rows (l : List (List Int)) : (l.map rowT).flatMap nxtT = (l.flatMap nxt).map rowT := by
  induction l with
  | nil => rfl
  | cons r l ih => rw [List.map_cons, List.flatMap_cons, List.flatMap_cons, ih, nxtT_row, List.map_append]
theorem least (K k : Nat) (ds : List Int) (hk : k ≤ 5) (hd : ds.length ≤ 10) (h0 : ∀ j, j < k → ∀ r ∈ lev j, good ds r = false) {r : List Int} (hr : (lev k).find? (good ds) = some r) (μ : Store) :
    OkI (Ph tab (K + 2) 2 [rowT ds] μ) (fun t μ' => t = rowT r ∧ ∃ x, μ' = μ ++ x) (fun _ _ => False) := by
  rw [ph2]
  refine RI.fnD ?_
  unfold b2 rowT
  decreasing_trivial_pre_omega
  refine RI.whileI (J := fun n ρ μ' => ∃ j, n + j = 400 ∧ j ≤ k ∧ (∃ x, μ' = μ ++ x) ∧ ∃ a b c d, ρ = [some (.tup (ds.map T.int)), some (.lst ((lev j).map rowT)), a, b, c, d]) (fun n ρ μ1 h => ?_) (fun ρ μ1 ⟨j, h1, h2, _⟩ => by omega) 400 _ μ ⟨0, rfl, by omega, ⟨[], by simp⟩, _, _, _, _, rfl⟩
  obtain ⟨j, h1, h2, ⟨x, h3⟩, a, b, c, d, h4⟩ := h
  subst h4
  decreasing_trivial_pre_omega
  refine RI.forI (J := fun i ρ μ' => (∃ x, μ' = μ ++ x) ∧ (∀ q ∈ (lev j).take i, good ds q = false) ∧ ∃ a b c d, ρ = [some (.tup (ds.map T.int)), some (.lst ((lev j).map rowT)), a, b, c, d]) ⟨⟨x, h3⟩, by simp, _, _, _, _, rfl⟩ (fun i t ρ μ2 e h => ?_) fun ρ μ2 h => ?_
  · obtain ⟨⟨x, h3⟩, h4, a, b, c, d, h5⟩ := h
    subst h5
    rw [List.getElem?_map] at e
    obtain ⟨q, e1, rfl⟩ := Option.map_eq_some_iff.mp e
    have hq : q ∈ lev j := List.mem_iff_getElem?.mpr ⟨i, e1⟩
    have hql := (lev_ok j q hq).2.1
    refine RI.stp rfl ?_
    decreasing_trivial_pre_omega
    refine (sums_of K q (by omega) μ2).imp fun t μ3 ⟨g1, ⟨o, g2⟩, g3⟩ => ?_
    subst g1
    decreasing_trivial_pre_omega
    refine RI.lcM (fun d => T.bl (decide (d ∈ lsums q))) (fun d hd => ?_) (by show _ ≤ 16777216; omega) ?_
    · refine RI.lcT rfl ?_
      decreasing_trivial_pre_omega
      refine gInD g3 ?_
      exact ⟨rfl, rfl⟩
    · have e5 : (ds.map fun d => T.bl (decide (d ∈ lsums q))) = (ds.map fun d => decide (d ∈ lsums q)).map T.bl := by rw [List.map_map]; rfl
      rw [e5]
      decreasing_trivial_pre_omega
      refine RI.bAll ?_
      rw [allgood]
      decreasing_trivial_pre_omega
      refine ⟨fun hg => ?_, fun hg => ?_⟩
      · decreasing_trivial_pre_omega
        refine ⟨?_, x ++ [some o], by rw [g2, h3]; simp⟩
        by_cases hjk : j = k
        · subst hjk
          have : (lev j).find? (good ds) = some q := by
            rw [List.find?_eq_some_iff_getElem]
            refine ⟨hg, i, (List.getElem?_eq_some_iff.mp e1).1, (List.getElem?_eq_some_iff.mp e1).2, fun j' hj' => ?_⟩
            have := h4 ((lev j)[j']'(by have := (List.getElem?_eq_some_iff.mp e1).1; omega)) (List.mem_iff_getElem?.mpr ⟨j', by rw [List.getElem?_take, if_pos hj']; exact List.getElem?_eq_getElem _⟩)
            simp [this]
          rw [hr] at this
          cases this
          rfl
        · have := h0 j (by omega) q hq
          rw [hg] at this
          cases this
      · decreasing_trivial_pre_omega
        refine ⟨⟨x ++ [some o], by rw [g2, h3]; simp⟩, fun q' hq' => ?_, _, _, _, _, rfl⟩
        rw [List.take_succ, e1] at hq'
        rcases List.mem_append.mp hq' with h | h
        · exact h4 q' h
        · have : q' = q := by simpa using h
          rw [this]; exact hg
  · obtain ⟨⟨x, h3⟩, h4, a, b, c, d, h5⟩ := h
    subst h5
    rw [List.length_map, List.take_length] at h4
    have hjk : j < k := by
      rcases Nat.lt_or_ge j k with h | h
      · exact h
      · have : j = k := by omega
        subst this
        have h6 := List.find?_some hr
        rw [h4 r (List.mem_of_find?_eq_some hr)] at h6
        cases h6
    decreasing_trivial_pre_omega
    have hlen := lev_len (j + 1) (by omega)
    have hpw : 9 ^ (j + 1) ≤ 9 ^ 6 := Nat.pow_le_pow_right (by omega) (by omega)
    refine OkI.of_eq (RI.lcO_pureI (g := nxtT) (fun t ht acc hacc => ?_) ?_) ?_
    · obtain ⟨q, hq, rfl⟩ := List.mem_map.mp ht
      rw [nxtT_row] at hacc ⊢
      exact step2 (ρ := []) (b := none) (d := none) hq (by omega) acc (by simpa using hacc)
    · rw [flat_rows]
      simp only [List.length_nil, List.length_map, Nat.zero_add]
      show ((lev j).flatMap nxt).length ≤ 16777216
      have : (lev (j + 1)).length = ((lev j).flatMap nxt).length := rfl
      omega
    · rw [flat_rows]
      decreasing_trivial_pre_omega
      exact ⟨j + 1, by omega, by omega, ⟨x, h3⟩, _, _, _, _, rfl⟩
end Lw

namespace Lw
open PySem L2 Tw
local macro_rules | `(tactic| decreasing_trivial_pre_omega) => `(tactic| repeat (first
  | refine RI.sSeq ?_
  | refine RI.qnx ?_
  | refine R.qrt ?_
  | refine R.qbk ?_
  | refine R.qct ?_
  | refine RI.sSet ?_
  | refine RI.sRet ?_
  | refine RI.sRetN ?_
  | refine RI.sExpr ?_
  | refine RI.sIf ?_
  | refine RI.sNil ?_
  | refine RI.sPass ?_
  | refine RI.sBreak ?_
  | refine RI.sCont ?_
  | refine RI.sStore ?_
  | refine RI.sPar ?_
  | refine RI.sFor ?_
  | refine R.frt ?_
  | refine R.fnx ?_
  | refine RI.cVar rfl ?_
  | refine R.brT ?_
  | refine R.brF ?_
  | refine R.brNT ?_
  | refine R.brNF ?_
  | refine RI.cK ?_
  | refine RI.c1 ?_
  | refine RI.c2 ?_
  | refine RI.cN ?_
  | refine RI.aNil ?_
  | refine RI.aCons ?_
  | refine RI.aStar ?_
  | refine RI.cTest ?_
  | refine RI.cTru ?_
  | refine RI.cAnd ?_
  | refine RI.cOr ?_
  | refine RI.cNot ?_
  | refine RI.cYes ?_
  | refine RI.cIf ?_
  | refine RI.cAndT ?_
  | refine RI.cOrT ?_
  | refine RI.cNotT ?_
  | refine RI.cChain ?_
  | refine RI.cSlice ?_
  | refine RI.oNone ?_
  | refine RI.oSome ?_
  | refine RI.cKw ?_
  | refine RI.iSeq ?_
  | refine RI.mItT ?_
  | refine RI.mItL ?_
  | refine RI.iRg1 ?_
  | refine RI.iRg2 ?_
  | refine RI.iEn ?_
  | refine RI.mEnuT ?_
  | refine RI.mEnuL ?_
  | refine RI.iZp ?_
  | refine RI.mZipT ?_
  | refine RI.mZipL ?_
  | refine RI.cLc ?_
  | refine RI.cLc2 ?_
  | refine RI.cRgL1 ?_
  | refine RI.cRgL2 ?_
  | refine RI.cMeth ?_
  | refine RI.cCall ?_
  | refine RI.now ?_
  | refine RI.gIxO (by assumption) rfl ?_
  | refine RI.gIxT rfl ?_
  | refine RI.gIxL rfl ?_
  | refine RI.gIx0 ?_
  | refine RI.gAddI ?_
  | refine RI.gSub ?_
  | refine RI.gLt ?_
  | refine RI.gLe ?_
  | refine RI.gGt ?_
  | refine RI.gGe ?_
  | refine RI.gNeg ?_
  | refine RI.eqI0 ?_
  | refine RI.eqI1 ?_
  | refine RI.bLenT ?_
  | refine RI.bLenL ?_
  | refine RI.bLenS ?_
  | refine RI.bInt ?_
  | refine RI.bIntB ?_
  | refine RI.bTupL ?_
  | refine RI.bTupT ?_
  | refine RI.bLstT ?_
  | refine RI.bLstL ?_
  | refine RI.mSeqT ?_
  | refine RI.mSeqL ?_
  | refine RI.mTruB ?_
  | refine RI.mTruI ?_
  | refine RI.mTruT ?_
  | refine RI.mTruL ?_
  | refine RI.mTruN ?_
  | refine RI.mCutT ?_
  | refine RI.mCutL ?_
  | refine RI.isiTup ?_
  | refine RI.isiInt ?_
  | refine RI.isiIntB ?_
  | refine RI.bLenO (by assumption) ?_
  | refine RI.gMul (by first | exact R.mulR rfl | exact R.mulL rfl) ?_
  | refine RI.gFdiv (by first | assumption | rfl | decide | omega) (by first | assumption | rfl | decide | omega) ?_
  | refine RI.gMod (by first | assumption | rfl | decide | omega) ?_
  | refine RI.gPow rfl ?_
  | (refine RI.mTup ?_ ?_; (focus (simp [lim]; done)))
  | (refine RI.mLst ?_ ?_; (focus (simp [lim]; done)))
  | (refine RI.mNew ?_ ?_; (focus (simp [lim]; done)))
  | refine R.isBl ?_
  | refine R.isInt ?_
  | refine R.isI1 ?_
  | refine R.isI2 ?_
  | refine R.len rfl ?_
  | refine R.chk (by first | assumption | decide +kernel) ?_
  ))
theorem ph3 (k : Nat) : Ph tab (k + 1) 3 = I.fnD 2 (b3 (Ph tab k)) := by rw [I.fnD_eq]; rfl
theorem ph4 (k : Nat) : Ph tab (k + 1) 4 = I.fnD 3 (b4 (Ph tab k)) := by rw [I.fnD_eq]; rfl
theorem ph5 (k : Nat) : Ph tab (k + 1) 5 = I.fnD 3 (b5 (Ph tab k)) := by rw [I.fnD_eq]; rfl
theorem ph6 (k : Nat) : Ph tab (k + 1) 6 = I.fnD 5 (b6 (Ph tab k)) := by rw [I.fnD_eq]; rfl
theorem ph7 (k : Nat) : Ph tab (k + 1) 7 = I.fnD 2 (b7 (Ph tab k)) := by rw [I.fnD_eq]; rfl
theorem ph11 (k : Nat) : Ph tab (k + 1) 11 = I.fnD 15 (b11 (Ph tab k)) := by rw [I.fnD_eq]; rfl
theorem all_true {α : Type} (l : List α) : ((l.map fun _ => true).all id) = true := by
  rw [List.all_map]
  exact List.all_eq_true.mpr fun _ _ => rfl
theorem fewest (K k : Nat) (ds : List Int) (hk : k ≤ 5) (hd : ds.length ≤ 10) (hb : ∀ d ∈ ds, 0 ≤ d ∧ d ≤ 9) (h0 : ∀ j, j < k → ∀ r ∈ lev j, good ds r = false) {r : List Int} (hr : (lev k).find? (good ds) = some r) (μ : Store) :
    OkI (Ph tab (K + 3) 3 [rowT ds] μ) (fun t μ' => t = rowT r ∧ ∃ x, μ' = μ ++ x) (fun _ _ => False) := by
  rw [ph3]
  refine RI.fnD ?_
  unfold b3
  show OkI (I.sSeq _ _ [some (rowT ds), none] μ) _ _
  unfold rowT
  decreasing_trivial_pre_omega
  refine RI.lcM (fun d => T.bl true) (fun d hdm => ?_) (by show _ ≤ 16777216; omega) ?_
  · refine RI.lcT rfl ?_
    decreasing_trivial_pre_omega
    refine OkI.of_eq (isnum (K + 1) d 0 9 μ) ?_
    obtain ⟨h1, h2⟩ := hb d hdm
    rw [decide_eq_true h1, decide_eq_true h2]
    exact ⟨rfl, rfl⟩
  · have e5 : (ds.map fun d => T.bl true) = (ds.map fun _ => true).map T.bl := by rw [List.map_map]; rfl
    rw [e5]
    decreasing_trivial_pre_omega
    refine RI.bAll ?_
    rw [all_true]
    decreasing_trivial_pre_omega
    refine (least K k ds hk hd h0 hr μ).imp fun t μ' h => ?_
    decreasing_trivial_pre_omega
    exact h
theorem checkt (K : Nat) (tm : List Int) (hl : tm.length ≤ 6) (hb : ∀ d ∈ tm, 1 ≤ d ∧ d ≤ 9) (μ : Store) : Ph tab (K + 2) 4 [rowT tm] μ = .ok .non μ := by
  apply eq_of_okI
  rw [ph4]
  refine RI.fnD ?_
  unfold b4
  show OkI (I.sSeq _ _ [some (rowT tm), none, none] μ) _ _
  unfold rowT
  decreasing_trivial_pre_omega
  refine RI.forI (J := fun j ρ μ' => μ' = μ ∧ ∃ x y, ρ = [some (.tup (tm.map T.int)), x, y]) ⟨rfl, _, _, rfl⟩ (fun j t ρ μ1 e ⟨h1, x, y, h2⟩ => ?_) fun ρ μ1 ⟨h1, x, y, h2⟩ => ?_
  · subst h1 h2
    obtain ⟨a, e1, rfl⟩ := enT_get e
    rw [List.getElem?_map] at e1
    obtain ⟨v, e2, rfl⟩ := Option.map_eq_some_iff.mp e1
    have hj := (List.getElem?_eq_some_iff.mp e2).1
    refine RI.stp rfl ?_
    decreasing_trivial_pre_omega
    refine ⟨fun z => absurd (of_decide_eq_true z) (by omega), fun _ => ?_⟩
    decreasing_trivial_pre_omega
    refine OkI.of_eq (isnum K v 1 9 μ1) ?_
    obtain ⟨g1, g2⟩ := hb v (List.mem_iff_getElem?.mpr ⟨j, e2⟩)
    rw [decide_eq_true g1, decide_eq_true g2]
    decreasing_trivial_pre_omega
    exact ⟨rfl, _, _, rfl⟩
  · subst h1
    decreasing_trivial_pre_omega
    exact ⟨rfl, rfl⟩
/-! choices -/
def chs : List Int → List (List Int)
  | [] => [[]]
  | x :: l => ([] :: (chs l).map (x :: ·)) ++ (chs l).drop 1
theorem cut1 (ts : List T) : cutT ts (some 1) none = ts.drop 1 := by
  unfold cutT
  show (ts.drop (min 1 ts.length)).take (ts.length - min 1 ts.length) = _
  cases ts with
  | nil => rfl
  | cons a b =>
    have : min 1 (a :: b).length = 1 := by simp
    rw [this]
    simp
theorem chs_len : ∀ l : List Int, (chs l).length ≤ 2 ^ l.length
  | [] => by simp [chs]
  | x :: l => by
    have := chs_len l
    unfold chs
    rw [List.length_append, List.length_cons, List.length_map, List.length_drop, List.length_cons, Nat.pow_succ]
    have : 0 < (chs l).length := by cases l <;> simp [chs]
    omega
theorem chs_row : ∀ (l : List Int), ∀ r ∈ chs l, r.length ≤ l.length ∧ ∀ x ∈ r, x ∈ l
  | [], r, h => by
    have : r = [] := by simpa [chs] using h
    subst this
    simp
  | x :: l, r, h => by
    unfold chs at h
    rcases List.mem_append.mp h with h | h
    · rcases List.mem_cons.mp h with rfl | h
      · simp
      · obtain ⟨r', h1, rfl⟩ := List.mem_map.mp h
        obtain ⟨h2, h3⟩ := chs_row l r' h1
        refine ⟨by simpa using h2, fun y hy => ?_⟩
        rcases List.mem_cons.mp hy with rfl | hy
        · exact List.mem_cons_self
        · exact List.mem_cons_of_mem _ (h3 y hy)
    · obtain ⟨h2, h3⟩ := chs_row l r (List.mem_of_mem_drop h)
      exact ⟨by rw [List.length_cons]; omega, fun y hy => List.mem_cons_of_mem _ (h3 y hy)⟩
theorem choices : ∀ (l : List Int) (K : Nat), l.length ≤ 10 → ∀ μ, Ph tab (K + l.length + 1) 5 [.lst (l.map T.int)] μ = .ok (.lst ((chs l).map rowT)) μ
  | [], K, _, μ => by
    apply eq_of_okI
    rw [ph5]
    refine RI.fnD ?_
    unfold b5
    decreasing_trivial_pre_omega
    refine RI.eqD0 (n := 3) (by omega) rfl rfl ?_
    decreasing_trivial_pre_omega
    refine ⟨fun _ => ?_, fun z => absurd z (by simp)⟩
    decreasing_trivial_pre_omega
    exact ⟨rfl, rfl⟩
  | x :: l, K, hl, μ => by
    apply eq_of_okI
    rw [ph5]
    refine RI.fnD ?_
    unfold b5
    decreasing_trivial_pre_omega
    refine RI.eqD0 (n := 3) (by omega) (by rw [dat]; exact dats_ints _) rfl ?_
    decreasing_trivial_pre_omega
    refine ⟨fun z => absurd z (by simp), fun _ => ?_⟩
    decreasing_trivial_pre_omega
    rw [cut1]
    have e1 : K + (x :: l).length = K + l.length + 1 := by simp; omega
    rw [e1]
    have h2 : ((x :: l).map T.int).drop 1 = l.map T.int := rfl
    rw [h2]
    have hle := chs_len l
    rw [List.length_cons] at hl
    have hpw : (2 : Nat) ^ l.length ≤ 2 ^ 10 := Nat.pow_le_pow_right (by omega) (by omega)
    refine OkI.of_eq (choices l K (by omega) μ) ?_
    decreasing_trivial_pre_omega
    refine RI.lcM (fun r => rowT (x :: r)) (fun r hr => ?_) (by show _ ≤ 16777216; omega) ?_
    · obtain ⟨q1, _⟩ := chs_row l r hr
      refine RI.lcT rfl ?_
      unfold rowT
      decreasing_trivial_pre_omega
      refine RI.mTup (by simp [lim]; omega) ?_
      decreasing_trivial_pre_omega
      refine ⟨?_, rfl⟩
      simp
    · decreasing_trivial_pre_omega
      rw [cut1]
      decreasing_trivial_pre_omega
      refine RI.mLst (by simp [lim]; omega) ?_
      decreasing_trivial_pre_omega
      refine ⟨?_, rfl⟩
      have ec : chs (x :: l) = ([] :: (chs l).map (x :: ·)) ++ (chs l).drop 1 := rfl
      rw [ec]
      simp only [List.map_append, List.map_cons, List.map_map, List.map_drop, List.append_nil, List.cons_append]
      rfl
end Lw

namespace Lw
open PySem L2 Tw
local macro_rules | `(tactic| decreasing_trivial_pre_omega) => `(tactic| repeat (first
  | refine RI.sSeq ?_
  | refine RI.qnx ?_
  | refine R.qrt ?_
  | refine R.qbk ?_
  | refine R.qct ?_
  | refine RI.sSet ?_
  | refine RI.sRet ?_
  | refine RI.sRetN ?_
  | refine RI.sExpr ?_
  | refine RI.sIf ?_
  | refine RI.sNil ?_
  | refine RI.sPass ?_
  | refine RI.sBreak ?_
  | refine RI.sCont ?_
  | refine RI.sStore ?_
  | refine RI.sPar ?_
  | refine RI.sFor ?_
  | refine R.frt ?_
  | refine R.fnx ?_
  | refine RI.cVar rfl ?_
  | refine R.brT ?_
  | refine R.brF ?_
  | refine R.brNT ?_
  | refine R.brNF ?_
  | refine RI.cK ?_
  | refine RI.c1 ?_
  | refine RI.c2 ?_
  | refine RI.cN ?_
  | refine RI.aNil ?_
  | refine RI.aCons ?_
  | refine RI.aStar ?_
  | refine RI.cTest ?_
  | refine RI.cTru ?_
  | refine RI.cAnd ?_
  | refine RI.cOr ?_
  | refine RI.cNot ?_
  | refine RI.cYes ?_
  | refine RI.cIf ?_
  | refine RI.cAndT ?_
  | refine RI.cOrT ?_
  | refine RI.cNotT ?_
  | refine RI.cChain ?_
  | refine RI.cSlice ?_
  | refine RI.oNone ?_
  | refine RI.oSome ?_
  | refine RI.cKw ?_
  | refine RI.iSeq ?_
  | refine RI.mItT ?_
  | refine RI.mItL ?_
  | refine RI.iRg1 ?_
  | refine RI.iRg2 ?_
  | refine RI.iEn ?_
  | refine RI.mEnuT ?_
  | refine RI.mEnuL ?_
  | refine RI.iZp ?_
  | refine RI.mZipT ?_
  | refine RI.mZipL ?_
  | refine RI.cLc ?_
  | refine RI.cLc2 ?_
  | refine RI.cRgL1 ?_
  | refine RI.cRgL2 ?_
  | refine RI.cMeth ?_
  | refine RI.cCall ?_
  | refine RI.now ?_
  | refine RI.gIxO (by assumption) rfl ?_
  | refine RI.gIxT rfl ?_
  | refine RI.gIxL rfl ?_
  | refine RI.gIx0 ?_
  | refine RI.gAddI ?_
  | refine RI.gSub ?_
  | refine RI.gLt ?_
  | refine RI.gLe ?_
  | refine RI.gGt ?_
  | refine RI.gGe ?_
  | refine RI.gNeg ?_
  | refine RI.eqI0 ?_
  | refine RI.eqI1 ?_
  | refine RI.bLenT ?_
  | refine RI.bLenL ?_
  | refine RI.bLenS ?_
  | refine RI.bInt ?_
  | refine RI.bIntB ?_
  | refine RI.bTupL ?_
  | refine RI.bTupT ?_
  | refine RI.bLstT ?_
  | refine RI.bLstL ?_
  | refine RI.mSeqT ?_
  | refine RI.mSeqL ?_
  | refine RI.mTruB ?_
  | refine RI.mTruI ?_
  | refine RI.mTruT ?_
  | refine RI.mTruL ?_
  | refine RI.mTruN ?_
  | refine RI.mCutT ?_
  | refine RI.mCutL ?_
  | refine RI.isiTup ?_
  | refine RI.isiInt ?_
  | refine RI.isiIntB ?_
  | refine RI.bLenO (by assumption) ?_
  | refine RI.gMul (by first | exact R.mulR rfl | exact R.mulL rfl) ?_
  | refine RI.gFdiv (by first | assumption | rfl | decide | omega) (by first | assumption | rfl | decide | omega) ?_
  | refine RI.gMod (by first | assumption | rfl | decide | omega) ?_
  | refine RI.gPow rfl ?_
  | (refine RI.mTup ?_ ?_; (focus (simp [lim]; done)))
  | (refine RI.mLst ?_ ?_; (focus (simp [lim]; done)))
  | (refine RI.mNew ?_ ?_; (focus (simp [lim]; done)))
  | refine R.isBl ?_
  | refine R.isInt ?_
  | refine R.isI1 ?_
  | refine R.isI2 ?_
  | refine R.len rfl ?_
  | refine R.chk (by first | assumption | decide +kernel) ?_
  ))
/-- the sum of the times at the places of a row -/
def tsum (tm r : List Int) : Int := (r.map fun i => tm.getD i.toNat 0).sum
theorem at_tm {tm : List Int} {i : Int} (h0 : 0 ≤ i) (h1 : i < tm.length) : atI (tm.map T.int) i = some (.int (tm.getD i.toNat 0)) := by
  obtain ⟨t, e1, e2⟩ := R.atI_lt (ts := tm.map T.int) h0 (by rw [List.length_map]; exact h1)
  rw [e1]
  rw [List.getElem?_map] at e2
  obtain ⟨v, e3, rfl⟩ := Option.map_eq_some_iff.mp e2
  rw [List.getD_eq_getElem?_getD, e3]
  rfl
theorem tsum_bd {tm : List Int} (hb : ∀ d ∈ tm, 1 ≤ d ∧ d ≤ 9) : ∀ r : List Int, 0 ≤ tsum tm r ∧ tsum tm r ≤ 9 * r.length
  | [] => by simp [tsum]
  | i :: r => by
    have ih := tsum_bd hb r
    have e : tsum tm (i :: r) = tm.getD i.toNat 0 + tsum tm r := by unfold tsum; rw [List.map_cons, List.sum_cons]
    have : 0 ≤ tm.getD i.toNat 0 ∧ tm.getD i.toNat 0 ≤ 9 := by
      rw [List.getD_eq_getElem?_getD]
      cases h : tm[i.toNat]? with
      | none => simp
      | some v =>
        have := hb v (List.mem_iff_getElem?.mpr ⟨_, h⟩)
        show 0 ≤ v ∧ v ≤ 9
        omega
    rw [e, List.length_cons]
    omega
theorem bites_of (K : Nat) (tm : List Int) (g : Int) (hl : tm.length ≤ 6) (μ : Store) : Ph tab (K + 12) 6 [rowT tm, .int g] μ = .ok (.lst (((chs (rgI 0 tm.length)).filter fun r => decide (tsum tm r = g)).map rowT)) μ := by
  apply eq_of_okI
  rw [ph6]
  refine RI.fnD ?_
  unfold b6
  show OkI (I.sSeq _ _ [some (rowT tm), some (.int g), none, none, none] μ) _ _
  unfold rowT
  decreasing_trivial_pre_omega
  rw [List.length_map]
  refine R.chk (by unfold rgOk inR; rw [decide_eq_true (by omega), decide_eq_true (by omega), decide_eq_true (by omega), decide_eq_true (by omega), decide_eq_true (by omega)]; rfl) ?_
  decreasing_trivial_pre_omega
  rw [rgT_eq]
  have hrl : (rgI 0 (tm.length : Int)).length = tm.length := by rw [rgI_length]; omega
  have hc := choices (rgI 0 tm.length) (K + 10 - tm.length) (by omega) μ
  rw [show K + 10 - tm.length + (rgI 0 (tm.length : Int)).length + 1 = K + 11 by omega] at hc
  refine OkI.of_eq hc ?_
  decreasing_trivial_pre_omega
  have hle := chs_len (rgI 0 tm.length)
  have hpw : (2 : Nat) ^ (rgI 0 (tm.length : Int)).length ≤ 2 ^ 6 := Nat.pow_le_pow_right (by omega) (by omega)
  refine RI.lcF (fun r => decide (tsum tm r = g)) rowT (fun r hr => ?_) (by show _ ≤ 16777216; omega) ?_
  · obtain ⟨q1, q2⟩ := chs_row _ r hr
    refine RI.lcT rfl ?_
    unfold rowT
    decreasing_trivial_pre_omega
    refine RI.lcM (fun i => .int (tm.getD i.toNat 0)) (fun i hi => ?_) (by show _ ≤ 16777216; omega) ?_
    · have := mem_rgI.mp (q2 i hi)
      refine RI.lcT rfl ?_
      decreasing_trivial_pre_omega
      refine RI.gIxT (at_tm this.1 this.2) ?_
      decreasing_trivial_pre_omega
      exact ⟨rfl, rfl⟩
    · have e5 : (r.map fun i => T.int (tm.getD i.toNat 0)) = (r.map fun i => tm.getD i.toNat 0).map T.int := by rw [List.map_map]; rfl
      rw [e5]
      decreasing_trivial_pre_omega
      refine RI.bSum ?_
      decreasing_trivial_pre_omega
      refine ⟨fun hk => ?_, fun hk => ?_⟩
      · decreasing_trivial_pre_omega
        refine ⟨?_, rfl⟩
        have : decide (tsum tm r = g) = true := hk
        rw [this]; rfl
      · refine ⟨?_, rfl⟩
        have : decide (tsum tm r = g) = false := hk
        rw [this]; rfl
  · decreasing_trivial_pre_omega
    exact ⟨rfl, rfl⟩
theorem bites (K : Nat) (tm : List Int) (g : Int) (hl : tm.length ≤ 6) (hb : ∀ d ∈ tm, 1 ≤ d ∧ d ≤ 9) (hg : 0 ≤ g ∧ g ≤ 54) (μ : Store) : Ph tab (K + 13) 7 [rowT tm, .int g] μ = .ok (.lst (((chs (rgI 0 tm.length)).filter fun r => decide (tsum tm r = g)).map rowT)) μ := by
  apply eq_of_okI
  rw [ph7]
  refine RI.fnD ?_
  unfold b7
  show OkI (I.sSeq _ _ [some (rowT tm), some (.int g)] μ) _ _
  decreasing_trivial_pre_omega
  refine OkI.of_eq (checkt (K + 10) tm hl hb μ) ?_
  decreasing_trivial_pre_omega
  refine OkI.of_eq (isnum (K + 11) g 0 _ μ) ?_
  rw [decide_eq_true hg.1, decide_eq_true (show g ≤ 6 * 9 by omega)]
  decreasing_trivial_pre_omega
  refine OkI.of_eq (bites_of K tm g hl μ) ?_
  decreasing_trivial_pre_omega
  exact ⟨rfl, rfl⟩
/-! the law's own rows -/
def lrows : Nat → List (List Int)
  | 0 => [[]]
  | n + 1 => lrows n ++ (lrows n).map (· ++ [(n : Int)])
theorem lrows_len : ∀ n, (lrows n).length = 2 ^ n
  | 0 => rfl
  | n + 1 => by
    show (lrows n ++ (lrows n).map (· ++ [(n : Int)])).length = _
    rw [List.length_append, List.length_map, lrows_len n, Nat.pow_succ]; omega
theorem lrows_row : ∀ n, ∀ r ∈ lrows n, r.length ≤ n ∧ ∀ x ∈ r, 0 ≤ x ∧ x < n
  | 0, r, h => by
    have : r = [] := by simpa [lrows] using h
    subst this
    simp
  | n + 1, r, h => by
    have h' : r ∈ lrows n ++ (lrows n).map (· ++ [(n : Int)]) := h
    rcases List.mem_append.mp h' with h | h
    · obtain ⟨a, b⟩ := lrows_row n r h
      exact ⟨by omega, fun x hx => by have := b x hx; omega⟩
    · obtain ⟨q, h1, rfl⟩ := List.mem_map.mp h
      obtain ⟨a, b⟩ := lrows_row n q h1
      refine ⟨by simp; omega, fun x hx => ?_⟩
      rcases List.mem_append.mp hx with hx | hx
      · have := b x hx; omega
      · have : x = n := by simpa using hx
        omega
theorem rows_perm : ∀ n : Nat, n ≤ 6 → (chs (rgI 0 (n : Int))).isPerm (lrows n) = true ∧ (chs (rgI 0 (n : Int))).Pairwise (fun a b => leRow a b = true) := by
  intro n hn
  have : ∀ n ∈ (List.range 7 : List Nat), (chs (rgI 0 (n : Int))).isPerm (lrows n) = true ∧ (chs (rgI 0 (n : Int))).Pairwise (fun a b => leRow a b = true) := by decide +kernel
  exact this n (List.mem_range.mpr (by omega))
theorem leRow_iff {a b : List Int} : leRow a b = true ↔ a ≤ b := by unfold leRow; rw [decide_eq_true_eq]
theorem sort_filter (n : Nat) (hn : n ≤ 6) (p : List Int → Bool) : ((lrows n).filter p).mergeSort leRow = (chs (rgI 0 (n : Int))).filter p := by
  obtain ⟨h1, h2⟩ := rows_perm n hn
  refine List.Perm.eq_of_pairwise (le := fun a b => leRow a b = true) (fun a b _ _ h1 h2 => List.le_antisymm (leRow_iff.mp h1) (leRow_iff.mp h2)) (List.pairwise_mergeSort (le := leRow) (fun a b c h1 h2 => leRow_iff.mpr (List.le_trans (leRow_iff.mp h1) (leRow_iff.mp h2))) (fun a b => ?_) _) (h2.sublist List.filter_sublist) ?_
  · rcases List.le_total a b with h | h
    · rw [leRow_iff.mpr h]; rfl
    · rw [leRow_iff.mpr h, Bool.or_true]
  · exact (List.mergeSort_perm _ _).trans ((List.isPerm_iff.mp h1).symm.filter p)
/-! a good level is met -/
theorem zero_sums : ∀ r : List Int, (0 : Int) ∈ lsums r := by
  intro r
  have : ∀ j, (0 : Int) ∈ lsums (r.take j) := by
    intro j
    induction j with
    | zero => simp [lsums]
    | succ j ih =>
      cases e : r[j]? with
      | none =>
        have : r.take (j + 1) = r.take j := by rw [List.take_succ, e]; simp
        rw [this]; exact ih
      | some t => rw [lsums_take e]; exact List.mem_append_left _ ih
  have h := this r.length
  rwa [List.take_length] at h
theorem mem_sums {r : List Int} {x : Int} (h : x ∈ r) : x ∈ lsums r := by
  obtain ⟨i, hi⟩ := List.mem_iff_getElem?.mp h
  have : ∀ j, x ∈ lsums (r.take (i + 1 + j)) := by
    intro j
    induction j with
    | zero =>
      rw [Nat.add_zero, lsums_take hi]
      exact List.mem_append_right _ (List.mem_map.mpr ⟨0, zero_sums _, by omega⟩)
    | succ j ih =>
      cases e : r[i + 1 + j]? with
      | none =>
        have : r.take (i + 1 + (j + 1)) = r.take (i + 1 + j) := by rw [show i + 1 + (j + 1) = i + 1 + j + 1 by omega, List.take_succ, e]; simp
        rw [this]; exact ih
      | some t => rw [show i + 1 + (j + 1) = i + 1 + j + 1 by omega, lsums_take e]; exact List.mem_append_left _ ih
  have h2 := this r.length
  rwa [List.take_of_length_le (by omega)] at h2
theorem getLastD_mem : ∀ (l : List Int) (a : Int), l.getLastD a ∈ a :: l
  | [], a => List.mem_cons_self
  | x :: l, a => by rw [List.getLastD_cons]; exact List.mem_cons_of_mem _ (getLastD_mem l x)
theorem mem_lev : ∀ (k : Nat) (r : List Int), r.length = k → r.Pairwise (· ≤ ·) → (∀ x ∈ r, 1 ≤ x ∧ x ≤ 9) → r ∈ lev k
  | 0, r, h, _, _ => by
    have : r = [] := List.eq_nil_of_length_eq_zero h
    subst this
    simp [lev]
  | k + 1, r, h, hp, hb => by
    have hne : r ≠ [] := by intro z; subst z; simp at h
    have er := List.dropLast_concat_getLast hne
    have hl : r.dropLast.length = k := by rw [List.length_dropLast]; omega
    rw [← er] at hp hb ⊢
    rw [List.pairwise_append] at hp
    have ih := mem_lev k r.dropLast hl hp.1 fun x hx => hb x (List.mem_append_left _ hx)
    refine List.mem_flatMap.mpr ⟨r.dropLast, ih, List.mem_map.mpr ⟨r.getLast hne, ?_, rfl⟩⟩
    rw [mem_rgI]
    have h9 := hb (r.getLast hne) (List.mem_append_right _ List.mem_cons_self)
    refine ⟨?_, by omega⟩
    unfold lstD
    cases e : r.dropLast with
    | nil => simp; omega
    | cons a b =>
      have hm : (a :: b).getLastD 1 ∈ a :: b := by
        rw [List.getLastD_cons]
        exact getLastD_mem b a
      rw [← e] at hm ⊢
      exact hp.2.2 _ hm _ List.mem_cons_self
theorem met (ds : List Int) (hd : ds.length ≤ 5) (hb : ∀ d ∈ ds, 0 ≤ d ∧ d ≤ 9) : ∃ k, k ≤ 5 ∧ ∃ r ∈ lev k, good ds r = true := by
  let r := (ds.filter fun d => decide (0 < d)).mergeSort leInt
  have hm : ∀ x, x ∈ r ↔ x ∈ ds ∧ 0 < x := fun x => by
    show x ∈ (ds.filter fun d => decide (0 < d)).mergeSort leInt ↔ _
    rw [List.mem_mergeSort, List.mem_filter, decide_eq_true_eq]
  have hl : r.length ≤ 5 := by
    show ((ds.filter fun d => decide (0 < d)).mergeSort leInt).length ≤ 5
    rw [List.length_mergeSort]
    exact Nat.le_trans (List.length_filter_le _ _) hd
  have hs : r.Pairwise (· ≤ ·) := by
    have := List.pairwise_mergeSort (le := leInt) (fun a b c h1 h2 => by unfold leInt at *; rw [decide_eq_true_eq] at *; omega) (fun a b => by unfold leInt; rw [Bool.or_eq_true, decide_eq_true_eq, decide_eq_true_eq]; omega) (ds.filter fun d => decide (0 < d))
    exact this.imp fun h => of_decide_eq_true h
  refine ⟨r.length, hl, r, mem_lev _ r rfl hs fun x hx => ?_, ?_⟩
  · obtain ⟨h1, h2⟩ := (hm x).mp hx
    have := hb x h1
    omega
  · unfold good
    rw [List.all_eq_true]
    intro d hd
    rw [decide_eq_true_eq]
    have := hb d hd
    by_cases h : 0 < d
    · exact mem_sums ((hm d).mpr ⟨hd, h⟩)
    · have : d = 0 := by omega
      subst this
      exact zero_sums _
end Lw

namespace Lw
open PySem L2 Tw
local macro_rules | `(tactic| decreasing_trivial_pre_omega) => `(tactic| repeat (first
  | refine RI.sSeq ?_
  | refine RI.qnx ?_
  | refine R.qrt ?_
  | refine R.qbk ?_
  | refine R.qct ?_
  | refine RI.sSet ?_
  | refine RI.sRet ?_
  | refine RI.sRetN ?_
  | refine RI.sExpr ?_
  | refine RI.sIf ?_
  | refine RI.sNil ?_
  | refine RI.sPass ?_
  | refine RI.sBreak ?_
  | refine RI.sCont ?_
  | refine RI.sStore ?_
  | refine RI.sPar ?_
  | refine RI.sFor ?_
  | refine R.frt ?_
  | refine R.fnx ?_
  | refine RI.cVar rfl ?_
  | refine R.brT ?_
  | refine R.brF ?_
  | refine R.brNT ?_
  | refine R.brNF ?_
  | refine RI.cK ?_
  | refine RI.c1 ?_
  | refine RI.c2 ?_
  | refine RI.cN ?_
  | refine RI.aNil ?_
  | refine RI.aCons ?_
  | refine RI.aStar ?_
  | refine RI.cTest ?_
  | refine RI.cTru ?_
  | refine RI.cAnd ?_
  | refine RI.cOr ?_
  | refine RI.cNot ?_
  | refine RI.cYes ?_
  | refine RI.cIf ?_
  | refine RI.cAndT ?_
  | refine RI.cOrT ?_
  | refine RI.cNotT ?_
  | refine RI.cChain ?_
  | refine RI.cSlice ?_
  | refine RI.oNone ?_
  | refine RI.oSome ?_
  | refine RI.cKw ?_
  | refine RI.iSeq ?_
  | refine RI.mItT ?_
  | refine RI.mItL ?_
  | refine RI.iRg1 ?_
  | refine RI.iRg2 ?_
  | refine RI.iEn ?_
  | refine RI.mEnuT ?_
  | refine RI.mEnuL ?_
  | refine RI.iZp ?_
  | refine RI.mZipT ?_
  | refine RI.mZipL ?_
  | refine RI.cLc ?_
  | refine RI.cLc2 ?_
  | refine RI.cRgL1 ?_
  | refine RI.cRgL2 ?_
  | refine RI.cMeth ?_
  | refine RI.cCall ?_
  | refine RI.now ?_
  | refine RI.gIxO (by assumption) rfl ?_
  | refine RI.gIxT rfl ?_
  | refine RI.gIxL rfl ?_
  | refine RI.gIx0 ?_
  | refine RI.gAddI ?_
  | refine RI.gSub ?_
  | refine RI.gLt ?_
  | refine RI.gLe ?_
  | refine RI.gGt ?_
  | refine RI.gGe ?_
  | refine RI.gNeg ?_
  | refine RI.eqI0 ?_
  | refine RI.eqI1 ?_
  | refine RI.bLenT ?_
  | refine RI.bLenL ?_
  | refine RI.bLenS ?_
  | refine RI.bInt ?_
  | refine RI.bIntB ?_
  | refine RI.bTupL ?_
  | refine RI.bTupT ?_
  | refine RI.bLstT ?_
  | refine RI.bLstL ?_
  | refine RI.mSeqT ?_
  | refine RI.mSeqL ?_
  | refine RI.mTruB ?_
  | refine RI.mTruI ?_
  | refine RI.mTruT ?_
  | refine RI.mTruL ?_
  | refine RI.mTruN ?_
  | refine RI.mCutT ?_
  | refine RI.mCutL ?_
  | refine RI.isiTup ?_
  | refine RI.isiInt ?_
  | refine RI.isiIntB ?_
  | refine RI.bLenO (by assumption) ?_
  | refine RI.gMul (by first | exact R.mulR rfl | exact R.mulL rfl) ?_
  | refine RI.gFdiv (by first | assumption | rfl | decide | omega) (by first | assumption | rfl | decide | omega) ?_
  | refine RI.gMod (by first | assumption | rfl | decide | omega) ?_
  | refine RI.gPow rfl ?_
  | (refine RI.mTup ?_ ?_; (focus (simp [lim]; done)))
  | (refine RI.mLst ?_ ?_; (focus (simp [lim]; done)))
  | (refine RI.mNew ?_ ?_; (focus (simp [lim]; done)))
  | refine R.isBl ?_
  | refine R.isInt ?_
  | refine R.isI1 ?_
  | refine R.isI2 ?_
  | refine R.len rfl ?_
  | refine R.chk (by first | assumption | decide +kernel) ?_
  ))
theorem Row.app {ns : List Int} {n : Nat} {μ x : Store} (h : Row ns n μ) : Row ns n (μ ++ x) := by
  obtain ⟨a, b, c, hm, ha⟩ := h
  exact ⟨a, b, c, by rw [List.getElem?_append_left (List.getElem?_eq_some_iff.mp hm).1]; exact hm, ha⟩
theorem bad_nil {ds r : List Int} : (ds.filter fun d => !decide (d ∈ lsums r)) = [] ↔ good ds r = true := by
  unfold good
  rw [List.filter_eq_nil_iff, List.all_eq_true]
  constructor
  · intro h d hd
    have := h d hd
    simpa using this
  · intro h d hd
    have := h d hd
    simpa using this
theorem head_find {α : Type} (p : α → Bool) : ∀ l : List α, (l.filter p).head? = l.find? p
  | [] => rfl
  | a :: l => by
    by_cases h : p a = true
    · rw [List.filter_cons_of_pos h, List.find?_cons_of_pos h]; rfl
    · rw [List.filter_cons_of_neg h, List.find?_cons_of_neg h, head_find p l]
theorem at_last (r : List Int) (h : r ≠ []) : atI (r.map T.int) (-1) = some (.int (lstD r)) := by
  have hl : 0 < r.length := List.length_pos_iff.mpr h
  unfold atI ixN
  rw [if_neg (by omega), if_pos (by rw [List.length_map]; omega)]
  show (r.map T.int)[(-1 + ((r.map T.int).length : Int)).toNat]? = _
  rw [List.length_map, show (-1 + (r.length : Int)).toNat = r.length - 1 by omega, List.getElem?_map]
  unfold lstD
  rw [← List.getLast?_eq_getElem?, List.getLastD_eq_getLast?]
  cases e : r.getLast? with
  | none => exact absurd (List.getLast?_eq_none_iff.mp e) h
  | some v => rfl
/-- the turns over the levels -/
theorem levels (K : Nat) {ns ds : List Int} (hd : ds.length ≤ 5) (hb : ∀ d ∈ ds, 0 ≤ d ∧ d ≤ 9) {sc : Option T} {μ : Store} {x4 x5 x6 x7 x8 x9 x10 x11 x12 x13 x14 : Option T} (hr : Row ns 0 μ) {Q : Out → Store → Prop}
    (q : ∀ μ' (y2 y3 y4 y5 y6 y7 y8 y9 y10 y11 y12 y13 y14 : Option T), Row ns 0 μ' → Q (.nx [sc, some (.obj 0), y2, y3, y4, y5, y6, y7, y8, y9, y10, y11, y12, y13, y14]) μ') :
    OkI (I.forL (rgT 0 10) (I.stp (gN 4) (I.sSeq (I.sSet 10 (I.cLc (I.iSeq (I.cVar 3)) (gN 5) (I.cTest (I.c2 (I.gEqD false) (I.cLc (I.iSeq (I.cVar 2)) (gN 14) (I.cTest (I.c2 (I.gIn true) (I.cVar 14) (I.cCall 1 (Ph tab (K + 3) 10) (I.aCons (I.cVar 5) I.aNil)))) (I.cVar 14) [14]) (I.cN I.mLst I.aNil))) (I.cVar 5) [5]))
      (I.sSeq (I.sIf (I.cTest (I.c2 (I.gEqD true) (I.cVar 10) (I.cN I.mLst I.aNil))) (I.sSeq (I.sIf (I.cTest (I.c2 (I.gEqD true) (I.cCall 1 (Ph tab (K + 3) 3) (I.aCons (I.cVar 2) I.aNil)) (I.c2 I.gIxD (I.cVar 10) (I.cK (.int 0))))) (I.sSeq (I.sRet (I.cK (.bl false)))
      I.sNil) I.sNil)
      (I.sSeq I.sBreak
      I.sNil)) I.sNil)
      (I.sSeq (I.sSet 11 (I.cN I.mLst I.aNil))
      (I.sSeq (I.sFor (I.iSeq (I.cVar 3)) (gN 5) (I.sSeq (I.sSet 11 (I.c2 I.gAdd (I.cVar 11) (I.cLc (I.iRg2 (I.aCons (I.c2 I.gIxD (I.cOrT (I.cVar 5) (I.cN I.mTup (I.aCons (I.cK (.int 1)) I.aNil))) (I.c1 I.gNeg (I.cK (.int 1)))) (I.aCons (I.cK (.int 10)) I.aNil))) (gN 13) I.cYes (I.c2 I.gAdd (I.cVar 5) (I.cN I.mTup (I.aCons (I.cVar 13) I.aNil))) [13])))
      I.sNil))
      (I.sSeq (I.sSet 3 (I.cVar 11))
      I.sNil)))))) [sc, some (.obj 0), some (rowT ds), some (.lst ((lev 0).map rowT)), x4, x5, x6, x7, x8, x9, x10, x11, x12, x13, x14] μ) Q (fun _ _ => False) := by
  obtain ⟨k0, hk0, r0, hr0, hg0⟩ := met ds hd hb
  refine RI.forI (J := fun i ρ μ' => Row ns 0 μ' ∧ (∀ j, j < i → ∀ r ∈ lev j, good ds r = false) ∧ ∃ y4 y5 y6 y7 y8 y9 y10 y11 y12 y13 y14, ρ = [sc, some (.obj 0), some (rowT ds), some (.lst ((lev i).map rowT)), y4, y5, y6, y7, y8, y9, y10, y11, y12, y13, y14]) ⟨hr, fun j h => absurd h (by omega), _, _, _, _, _, _, _, _, _, _, _, rfl⟩ (fun i t ρ μ1 e h => ?_) fun ρ μ1 h => ?_
  · obtain ⟨h1, h2, y4, y5, y6, y7, y8, y9, y10, y11, y12, y13, y14, h3⟩ := h
    subst h3
    have hi : i ≤ 5 := by
      rcases Nat.lt_or_ge 5 i with z | z
      · have := h2 k0 (by omega) r0 hr0
        rw [hg0] at this
        cases this
      · exact z
    have hlen := lev_len i (by omega)
    have hlen2 := lev_len (i + 1) (by omega)
    have hpw : 9 ^ i ≤ 9 ^ 6 := Nat.pow_le_pow_right (by omega) (by omega)
    have hpw2 : 9 ^ (i + 1) ≤ 9 ^ 6 := Nat.pow_le_pow_right (by omega) (by omega)
    refine RI.stp rfl ?_
    decreasing_trivial_pre_omega
    refine RI.lcF (good ds) rowT (fun r hrm => ?_) (by show _ ≤ 16777216; omega) ?_
    · have hrl := (lev_ok i r hrm).2.1
      refine RI.lcT rfl ?_
      unfold rowT
      decreasing_trivial_pre_omega
      refine RI.lcF (fun d => !decide (d ∈ lsums r)) T.int (fun d hd' => ?_) (by show _ ≤ 16777216; omega) ?_
      · refine RI.lcT rfl ?_
        decreasing_trivial_pre_omega
        refine OkI.of_eq (lawsums (K + 2) r (by omega) μ1) ?_
        refine RI.inL1 ?_
        decreasing_trivial_pre_omega
        refine ⟨fun z => ?_, fun z => ?_⟩
        · decreasing_trivial_pre_omega
          exact ⟨by rw [z]; rfl, rfl⟩
        · exact ⟨by rw [z]; rfl, rfl⟩
      · decreasing_trivial_pre_omega
        refine RI.eqD0 (n := 3) (by omega) (by rw [dat]; exact dats_ints _) rfl ?_
        decreasing_trivial_pre_omega
        have key : (T.lst ((ds.filter fun d => !decide (d ∈ lsums r)).map T.int) = .lst []) ↔ good ds r = true := by
          rw [← bad_nil]
          constructor
          · intro z
            injection z with z
            exact List.map_eq_nil_iff.mp z
          · intro z
            rw [z]; rfl
        refine ⟨fun z => ?_, fun z => ?_⟩
        · decreasing_trivial_pre_omega
          exact ⟨by rw [if_pos (key.mp (of_decide_eq_true z))], rfl⟩
        · exact ⟨by rw [if_neg fun w => (of_decide_eq_false z) (key.mpr w)], rfl⟩
    · decreasing_trivial_pre_omega
      refine RI.eqD1 (n := 3) (by omega) (dat_rows _) rfl ?_
      decreasing_trivial_pre_omega
      refine ⟨fun z => ?_, fun z => ?_⟩
      · -- a good level
        cases hG : (lev i).filter (good ds) with
        | nil => rw [hG] at z; simp at z
        | cons g G =>
          have hf : (lev i).find? (good ds) = some g := by rw [← head_find, hG]; rfl
          rw [List.map_cons]
          decreasing_trivial_pre_omega
          refine (fewest K i ds hi (by omega) hb h2 hf μ1).imp fun t μ2 ⟨e1, x, e2⟩ => ?_
          subst e1
          decreasing_trivial_pre_omega
          refine RI.eqD1 (n := 3) (by omega) (dat_row _) (dat_row _) ?_
          decreasing_trivial_pre_omega
          refine ⟨fun z => absurd z (by simp), fun z => ?_⟩
          decreasing_trivial_pre_omega
          refine q _ _ _ _ _ _ _ _ _ _ _ _ _ _ (by rw [e2]; exact h1.app)
      · -- none
        have hG : ∀ r ∈ lev i, good ds r = false := fun r hrm => by
          have z' : T.lst (((lev i).filter (good ds)).map rowT) = .lst [] := by simpa using z
          injection z' with z'
          have := List.filter_eq_nil_iff.mp (List.map_eq_nil_iff.mp z') r hrm
          simpa using this
        decreasing_trivial_pre_omega
        refine RI.forI (J := fun j ρ μ' => μ' = μ1 ∧ ∃ y4 y5 y6 y7 y8 y9 y10 y12 y13 y14, ρ = [sc, some (.obj 0), some (rowT ds), some (.lst ((lev i).map rowT)), y4, y5, y6, y7, y8, y9, y10, some (.lst ((((lev i).take j).flatMap nxt).map rowT)), y12, y13, y14]) ⟨rfl, _, _, _, _, _, _, _, _, _, _, rfl⟩ (fun j t ρ μ2 e' h => ?_) fun ρ μ2 h => ?_
        · obtain ⟨rfl, y4, y5, y6, y7, y8, y9, y10, y12, y13, y14, h3⟩ := h
          subst h3
          rw [List.getElem?_map] at e'
          obtain ⟨r, e1, rfl⟩ := Option.map_eq_some_iff.mp e'
          have hrm : r ∈ lev i := List.mem_iff_getElem?.mpr ⟨j, e1⟩
          obtain ⟨q1, q2, q3, q4⟩ := lev_ok i r hrm
          refine RI.stp rfl ?_
          have hlast : ∀ {P : T → Store → Prop} {E : Exc → Store → Prop} {ρ : Tw.Env}, ρ[5]? = some (some (rowT r)) → P (.int (lstD r)) μ2 → OkI (I.c2 I.gIxD (I.cOrT (I.cVar 5) (I.cN I.mTup (I.aCons (I.cK (.int 1)) I.aNil))) (I.c1 I.gNeg (I.cK (.int 1))) ρ μ2) P E := fun {P E ρ} hρ hP => by
            refine RI.c2 (RI.cOrT (RI.cVar hρ ?_))
            unfold rowT
            decreasing_trivial_pre_omega
            cases r with
            | nil =>
              refine ⟨fun z => absurd z (by simp), fun _ => ?_⟩
              decreasing_trivial_pre_omega
              exact hP
            | cons a b =>
              refine ⟨fun _ => ?_, fun z => absurd z (by simp)⟩
              decreasing_trivial_pre_omega
              refine RI.gIxT (t := .int (lstD (a :: b))) (at_last (a :: b) (by simp)) ?_
              exact hP
          refine RI.sSeq (RI.sSet (RI.c2 (RI.cVar rfl (RI.cLc (RI.iRg2 (RI.aCons ?_))))))
          refine hlast rfl ?_
          decreasing_trivial_pre_omega
          refine R.chk (by unfold inR; rw [decide_eq_true (by omega), decide_eq_true (by omega)]; rfl) ?_
          refine R.chk (by decide +kernel) ?_
          rw [rgT_eq]
          refine RI.lcM (fun x => rowT (r ++ [x])) (fun x hx => ?_) (by rw [rgI_length]; show _ ≤ 16777216; omega) ?_
          · refine RI.lcT rfl ?_
            unfold rowT
            decreasing_trivial_pre_omega
            refine RI.gAddT (by simp [lim]; omega) ?_
            refine ⟨?_, rfl⟩
            rw [List.map_append]
            rfl
          · have e2 : ((rgI (lstD r) 10).map fun x => rowT (r ++ [x])) = (nxt r).map rowT := by
              unfold nxt
              rw [List.map_map]
              rfl
            rw [e2]
            have e3 : ((lev i).take (j + 1)).flatMap nxt = ((lev i).take j).flatMap nxt ++ nxt r := by
              rw [List.take_succ, e1, List.flatMap_append]
              simp
            have hle : (((lev i).take (j + 1)).flatMap nxt).length ≤ (lev (i + 1)).length := by
              show _ ≤ ((lev i).flatMap nxt).length
              have e4 : (lev i).flatMap nxt = ((lev i).take (j + 1)).flatMap nxt ++ ((lev i).drop (j + 1)).flatMap nxt := by rw [← List.flatMap_append, List.take_append_drop]
              rw [e4, List.length_append]
              omega
            rw [e3, List.length_append] at hle
            refine RI.gAddL (by rw [List.length_map, List.length_map]; show _ ≤ 16777216; omega) ?_
            decreasing_trivial_pre_omega
            refine ⟨rfl, y4, some (rowT r), y6, y7, y8, y9, y10, y12, y13, y14, ?_⟩
            rw [e3, List.map_append]
            rfl
        · obtain ⟨rfl, y4, y5, y6, y7, y8, y9, y10, y12, y13, y14, h3⟩ := h
          subst h3
          rw [List.length_map, List.take_length]
          decreasing_trivial_pre_omega
          refine ⟨h1, fun j hj r hrm => ?_, _, _, _, _, _, _, _, _, _, _, _, rfl⟩
          rcases Nat.lt_or_ge j i with w | w
          · exact h2 j w r hrm
          · have : j = i := by omega
            subst this
            exact hG r hrm
  · obtain ⟨h1, h2, y4, y5, y6, y7, y8, y9, y10, y11, y12, y13, y14, h3⟩ := h
    subst h3
    exact q _ _ _ _ _ _ _ _ _ _ _ _ _ _ h1
theorem lawrows (n : Nat) : (lrows n).map rowT ++ ((lrows n).map fun r => rowT (r ++ [(n : Int)])) = (lrows (n + 1)).map rowT := by
  show _ = (lrows n ++ (lrows n).map (· ++ [(n : Int)])).map rowT
  rw [List.map_append, List.map_map]
  rfl
theorem plain : ∀ ns : List Int, ns.length ≤ 63 → ∃ μ, Ph tab 40 11 [.scr (ns.map T.int)] [] = .ok (.bl true) μ := by
  intro ns _
  apply OkI.ex
  rw [ph11]
  refine RI.fnD ?_
  unfold b11
  decreasing_trivial_pre_omega
  have hr0 : Row ns 0 ([] ++ [some (.lst [.scr (ns.map T.int), .int 0, .int 0, .int 0])]) := ⟨0, 0, 0, rfl, by omega⟩
  revert hr0
  generalize ([] ++ [some (.lst [.scr (ns.map T.int), .int 0, .int 0, .int 0])] : Store) = μ0
  intro hr0
  refine (taken 38 hr0 (m := 6) (by omega) (by omega)).imp fun t μ1 ⟨r1, e1, a1, b1, hr1, _⟩ => ?_
  subst e1
  decreasing_trivial_pre_omega
  refine R.chk (by unfold inR; rw [decide_eq_true (by omega), decide_eq_true (by omega)]; rfl) ?_
  refine RI.lcI (J := fun j acc μ' => Row ns 0 μ' ∧ ∃ ds : List Int, acc = ds.map T.int ∧ ds.length = j ∧ ∀ d ∈ ds, 0 ≤ d ∧ d ≤ 9) ⟨hr1, [], rfl, rfl, by simp⟩ (by rw [rgT_length]; show _ ≤ 16777216; omega) (fun j t acc μ2 _ h => ?_) fun acc μ2 h => ?_
  · obtain ⟨h1, ds, rfl, h3, h4⟩ := h
    refine RI.lcT rfl ?_
    decreasing_trivial_pre_omega
    refine (taken 38 h1 (m := 10) (by omega) (by omega)).imp fun t μ3 ⟨r2, e2, a2, b2, hr2, _⟩ => ?_
    subst e2
    refine ⟨hr2, ds ++ [r2], by simp, by simp [h3], fun d hd => ?_⟩
    rcases List.mem_append.mp hd with hd | hd
    · exact h4 d hd
    · have : d = r2 := by simpa using hd
      omega
  · obtain ⟨h1, ds, rfl, h3, h4⟩ := h
    rw [rgT_length] at h3
    decreasing_trivial_pre_omega
    refine levels 36 (sc := some (.scr (ns.map T.int))) (ds := ds) (by omega) h4 h1 ?_
    intro μ3 y2 y3 y4 y5 y6 y7 y8 y9 y10 y11 y12 y13 y14 hr3
    decreasing_trivial_pre_omega
    refine (taken 38 hr3 (m := 7) (by omega) (by omega)).imp fun t μ4 ⟨r4, e4, a4, b4, hr4, _⟩ => ?_
    subst e4
    decreasing_trivial_pre_omega
    refine R.chk (by unfold inR; rw [decide_eq_true (by omega), decide_eq_true (by omega)]; rfl) ?_
    refine RI.lcI (J := fun j acc μ' => Row ns 0 μ' ∧ ∃ tm : List Int, acc = tm.map T.int ∧ tm.length = j ∧ ∀ d ∈ tm, 1 ≤ d ∧ d ≤ 9) ⟨hr4, [], rfl, rfl, by simp⟩ (by rw [rgT_length]; show _ ≤ 16777216; omega) (fun j t acc μ5 _ h => ?_) fun acc μ5 h => ?_
    · obtain ⟨h1, tm, rfl, h3, h4⟩ := h
      refine RI.lcT rfl ?_
      decreasing_trivial_pre_omega
      refine (taken 38 h1 (m := 9) (by omega) (by omega)).imp fun t μ6 ⟨r6, e6, a6, b6, hr6, _⟩ => ?_
      subst e6
      decreasing_trivial_pre_omega
      refine ⟨hr6, tm ++ [1 + r6], by simp, by simp [h3], fun d hd => ?_⟩
      rcases List.mem_append.mp hd with hd | hd
      · exact h4 d hd
      · have : d = 1 + r6 := by simpa using hd
        omega
    · obtain ⟨hr5, tm, rfl, h5, hb⟩ := h
      rw [rgT_length] at h5
      have hl6 : tm.length ≤ 6 := by omega
      decreasing_trivial_pre_omega
      rw [List.length_map]
      refine R.chk (by unfold inR; rw [decide_eq_true (by omega), decide_eq_true (by omega)]; rfl) ?_
      refine RI.forI (J := fun j ρ μ' => μ' = μ5 ∧ ∃ z2 z3 z4 z7 z8 z9 z10 z11 z12 z13 z14, ρ = [some (.scr (ns.map T.int)), some (.obj 0), z2, z3, z4, some (rowT tm), some (.lst ((lrows j).map rowT)), z7, z8, z9, z10, z11, z12, z13, z14]) ⟨rfl, _, _, _, _, _, _, _, _, _, _, _, rfl⟩ (fun j t ρ μ6 e h => ?_) fun ρ μ6 h => ?_
      · obtain ⟨rfl, z2, z3, z4, z7, z8, z9, z10, z11, z12, z13, z14, rfl⟩ := h
        obtain ⟨hj, rfl⟩ := rgT_get e
        have hlr := lrows_len j
        have hpw : (2 : Nat) ^ j ≤ 2 ^ 6 := Nat.pow_le_pow_right (by omega) (by omega)
        refine RI.stp rfl ?_
        decreasing_trivial_pre_omega
        refine RI.lcM (fun r => rowT (r ++ [((j : Nat) : Int)])) (fun r hrm => ?_) (by show _ ≤ 16777216; omega) ?_
        · have hrl := (lrows_row j r hrm).1
          refine RI.lcT rfl ?_
          unfold rowT
          decreasing_trivial_pre_omega
          refine RI.gAddT (by simp [lim]; omega) ?_
          refine ⟨?_, rfl⟩
          rw [List.map_append, Int.zero_add]
          rfl
        · refine RI.gAddL (by rw [List.length_map, List.length_map]; show _ ≤ 16777216; omega) ?_
          rw [lawrows]
          decreasing_trivial_pre_omega
          exact ⟨rfl, _, _, _, _, _, _, _, _, _, _, _, rfl⟩
      · obtain ⟨rfl, z2, z3, z4, z7, z8, z9, z10, z11, z12, z13, z14, rfl⟩ := h
        rw [rgT_length, show ((tm.length : Int) - 0).toNat = tm.length by omega]
        have hlr := lrows_len tm.length
        have hpw : (2 : Nat) ^ tm.length ≤ 2 ^ 6 := Nat.pow_le_pow_right (by omega) (by omega)
        have hps : 0 < (2 : Nat) ^ tm.length := Nat.pow_pos (by omega)
        have e5 : ∀ r : List Int, (r.map fun i => T.int (tm.getD i.toNat 0)) = (r.map fun i => tm.getD i.toNat 0).map T.int := fun r => by rw [List.map_map]; rfl
        decreasing_trivial_pre_omega
        refine (taken 38 hr5 (m := 55) (by omega) (by omega)).imp fun t μ7 ⟨r7, e7, a7, b7, hr7, _⟩ => ?_
        subst e7
        decreasing_trivial_pre_omega
        refine (pick 37 hr7 (ts := (lrows tm.length).map rowT) (by rw [List.length_map]; omega) (by rw [List.length_map]; omega)).imp fun t μ8 ⟨ht, hr8, _⟩ => ?_
        obtain ⟨r, hrm, rfl⟩ := List.mem_map.mp ht
        obtain ⟨hrl, hrb⟩ := lrows_row tm.length r hrm
        unfold rowT
        decreasing_trivial_pre_omega
        refine RI.lcM (fun i => .int (tm.getD i.toNat 0)) (fun i hi => ?_) (by show _ ≤ 16777216; omega) ?_
        · have := hrb i hi
          refine RI.lcT rfl ?_
          decreasing_trivial_pre_omega
          refine RI.gIxT (at_tm this.1 this.2) ?_
          exact ⟨rfl, rfl⟩
        · rw [e5]
          decreasing_trivial_pre_omega
          refine RI.bSum ?_
          decreasing_trivial_pre_omega
          have hs := tsum_bd hb r
          refine (pick 37 hr8 (by simp) (by simp)).imp fun t μ9 ⟨ht, hr9, _⟩ => ?_
          obtain ⟨g, rfl, hg⟩ : ∃ g, t = .int g ∧ 0 ≤ g ∧ g ≤ 54 := by
            rcases List.mem_cons.mp ht with h | ht
            · exact ⟨0, h, by omega, by omega⟩
            · rcases List.mem_cons.mp ht with h | ht
              · exact ⟨r7, h, by omega, by omega⟩
              · rcases List.mem_cons.mp ht with h | ht
                · exact ⟨tsum tm r, h, by omega, by omega⟩
                · cases ht
          decreasing_trivial_pre_omega
          refine RI.lcF (fun r => decide (tsum tm r = g)) rowT (fun q hq => ?_) (by show _ ≤ 16777216; omega) ?_
          · obtain ⟨hql, hqb⟩ := lrows_row tm.length q hq
            refine RI.lcT rfl ?_
            unfold rowT
            decreasing_trivial_pre_omega
            refine RI.lcM (fun i => .int (tm.getD i.toNat 0)) (fun i hi => ?_) (by show _ ≤ 16777216; omega) ?_
            · have := hqb i hi
              refine RI.lcT rfl ?_
              decreasing_trivial_pre_omega
              refine RI.gIxT (at_tm this.1 this.2) ?_
              exact ⟨rfl, rfl⟩
            · rw [e5]
              decreasing_trivial_pre_omega
              refine RI.bSum ?_
              decreasing_trivial_pre_omega
              refine ⟨fun hk => ?_, fun hk => ?_⟩
              · decreasing_trivial_pre_omega
                refine ⟨?_, rfl⟩
                have : decide (tsum tm q = g) = true := hk
                rw [this]; rfl
              · refine ⟨?_, rfl⟩
                have : decide (tsum tm q = g) = false := hk
                rw [this]; rfl
          · decreasing_trivial_pre_omega
            refine RI.bSortR ?_
            rw [sort_filter tm.length hl6]
            decreasing_trivial_pre_omega
            refine OkI.of_eq (bites 26 tm g hl6 hb hg μ9) ?_
            decreasing_trivial_pre_omega
            refine RI.eqD0 (n := 3) (by omega) (dat_rows _) (dat_rows _) ?_
            decreasing_trivial_pre_omega
            rw [decide_eq_true rfl]
end Lw

open PySem PySem.W PyProof.Rows
set_option maxRecDepth 100000 in
set_option maxHeartbeats 0 in
theorem PySem.Challenge.cw_bittenplates_k09_times_by_trying_holds : PySem.Challenge.rw_bittenplates_k09_times_by_trying.Holds := by
  w_on; o_law; k_head; (case hw => w_witness2)
  k_fill
  refine Tw.walkT (l := PySem.Challenge.rw_bittenplates_k09_times_by_trying) (x := "_law_script") rfl rfl (fun w h Y => PySem.W.kIn_of Y) ?F
  case F =>
    intro w mg fa h KX G hmg
    refine' Lw.all_mk KX G hmg ?a0 ?l0 ?c0 ?k0 ?a1 ?l1 ?c1 ?k1 ?a2 ?l2 ?c2 ?k2 ?a3 ?l3 ?c3 ?k3 ?a4 ?l4 ?c4 ?k4 ?a5 ?l5 ?c5 ?k5 ?a6 ?l6 ?c6 ?k6 ?a7 ?l7 ?c7 ?k7 ?a8 ?l8 ?c8 ?k8 ?a9 ?l9 ?c9 ?k9 ?a10 ?l10 ?c10 ?k10 ?a11 ?l11 ?c11 ?k11 ?x0 ?x1 ?z0 ?z1 ?z2 ?z3 ?z4 ?z5 ?z6 ?z7 ?z8 ?z9 ?z10 ?z11 Lw.plain
    (case a0 => k_is)
    (case l0 => k_is)
    (case c0 => k_is)
    (case k0 => k_is)
    (case a1 => k_is)
    (case l1 => k_is)
    (case c1 => k_is)
    (case k1 => k_is)
    (case a2 => k_is)
    (case l2 => k_is)
    (case c2 => k_is)
    (case k2 => k_is)
    (case a3 => k_is)
    (case l3 => k_is)
    (case c3 => k_is)
    (case k3 => k_is)
    (case a4 => k_is)
    (case l4 => k_is)
    (case c4 => k_is)
    (case k4 => k_is)
    (case a5 => k_is)
    (case l5 => k_is)
    (case c5 => k_is)
    (case k5 => k_is)
    (case a6 => k_is)
    (case l6 => k_is)
    (case c6 => k_is)
    (case k6 => k_is)
    (case a7 => k_is)
    (case l7 => k_is)
    (case c7 => k_is)
    (case k7 => k_is)
    (case a8 => k_is)
    (case l8 => k_is)
    (case c8 => k_is)
    (case k8 => k_is)
    (case a9 => k_is)
    (case l9 => k_is)
    (case c9 => k_is)
    (case k9 => k_is)
    (case a10 => k_is)
    (case l10 => k_is)
    (case c10 => k_is)
    (case k10 => k_is)
    (case a11 => k_is)
    (case l11 => k_is)
    (case c11 => k_is)
    (case k11 => k_is)
    (case x0 => k_is)
    (case x1 => k_is)
    (case z0 => k_is)
    (case z1 => k_is)
    (case z2 => k_is)
    (case z3 => k_is)
    (case z4 => k_is)
    (case z5 => k_is)
    (case z6 => k_is)
    (case z7 => k_is)
    (case z8 => k_is)
    (case z9 => k_is)
    (case z10 => k_is)
    (case z11 => k_is)
