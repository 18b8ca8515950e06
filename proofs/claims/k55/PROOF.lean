import PyProof.Rows.All
import Wide.All
import OpenK.AllK
import Wide.FinOn
import HandS.ForMost
import HandS.ForExc
import HandS.Slots
import HandS.SlotsOwn
import HandS.TupAny
import HandS.TupLe
import HandS.Star
import HandS.IsInst
import HandS.Zip
import HandS.TupMul
import HandS.Deep
import KE.DataCmp
import HandS.Flow
import HandS.Conv
import KE.SortData
import HandS.Sort
import HandS.Call
import KE.DataMinMax
import HandS.SortKw
import KE.KDictPairs
import KE.GoesEnum
import KE.GoesMore
import HandS.Iter
import HandS.Style
import HandS.CallSlots
import HandS.Property
import HandS.More
import HandS.MakeKw
import HandS.Defaults
import PySem.Challenge.RW_bittenplates_k55_whole_prints_put_togeth
set_option Elab.async false
set_option linter.all false
set_option maxRecDepth 100000
set_option autoImplicit false
set_option maxHeartbeats 4000000
/-! Tw1: trees, the store, what stands for what -/
namespace Tw
open PySem L2

inductive T where
  | non | bl (b : Bool) | int (i : Int) | str (x : Str) | ty (n : String)
  | cls (i : Nat) | fn (i : Nat)
  | tup (ts : List T) | lst (ts : List T) | dic (ks : List Key) (ts : List T)
  | ins (c : Nat) (ts : List T)
  | obj (n : Nat)
  | scr (ts : List T)
  deriving Inhabited

/-- what stands in the store: a list, a dict, an instance with a dict, an instance with slots -/
inductive MO where
  | lst (ts : List T) | dic (ks : List Key) (ts : List T)
  | ins (c : Nat) (ns : List Str) (ts : List T)
  | sl (c : Nat) (ts : List T)
  | aux (k : Nat)
  deriving Inhabited

abbrev Store := List (Option MO)
/-- an exception: its class, its attributes -/
structure Exc where
  cls : Nat
  ns : List Str
  ts : List T
inductive Res (α : Type) where
  | ok (a : α) (μ : Store)
  | ex (e : Exc) (μ : Store)
  | bad
abbrev M (α : Type) := Store → Res α
@[reducible] def ret {α : Type} (a : α) : M α := fun μ => .ok a μ
@[reducible] def bad {α : Type} : M α := fun _ => .bad
@[reducible] def bnd {α β : Type} (m : M α) (k : α → M β) : M β := fun μ => match m μ with
  | .ok a μ' => k a μ'
  | .ex e μ' => .ex e μ'
  | .bad => .bad
abbrev Env := List (Option T)

/-! ### what stands for what -/
structure Sta where
  K : PySem.W.Frag
  ca : Nat → Option Addr
  fa : Nat → Option Addr
/-- the store's addresses, and those that are locked (a comprehension's list in the making) -/
structure Ids where
  l : List (Option Addr)
  lk : List Addr
def InI (ι : Ids) (a : Addr) : Prop := some a ∈ ι.l ∨ a ∈ ι.lk

/-- a tuple, a list that no one changes -/
def RT (K : PySem.W.Frag) (H : Hp) (ι : Ids) (a : Addr) (vs : List V) : Prop :=
  (¬ InI ι a ∧ Rd H a (.tup vs)) ∨
    ∃ (o : Obj) (its : Array Value) (n : Nat), K.lookup a = some o ∧ o.cls = .type "tuple" ∧ o.data = .seq its n ∧ its.size ≤ sizeLine ∧ Vals vs its.toList
def RL (K : PySem.W.Frag) (H : Hp) (ι : Ids) (a : Addr) (vs : List V) : Prop :=
  ¬ InI ι a ∧ Rd H a (.lst vs)
/-- the script: a list that is only read -/
def RS (K : PySem.W.Frag) (H : Hp) (ι : Ids) (a : Addr) (vs : List V) : Prop :=
  (¬ InI ι a ∧ Rd H a (.lst vs)) ∨
    ∃ (o : Obj) (its : Array Value) (n : Nat), K.lookup a = some o ∧ o.cls = .type "list" ∧ o.dict = none ∧ o.data = .seq its n ∧ its.size ≤ sizeLine ∧ Vals vs its.toList
theorem RS.sq {K : PySem.W.Frag} {H : Hp} {ι : Ids} {a : Addr} {vs : List V} (h : RS K H ι a vs) : SqL K H a vs := h.elim (fun h => .inl h.2) .inr
theorem RT.sq {K : PySem.W.Frag} {H : Hp} {ι : Ids} {a : Addr} {vs : List V} (h : RT K H ι a vs) : SqT K H a vs := h.elim (fun h => .inl h.2) .inr
theorem RL.sq {K : PySem.W.Frag} {H : Hp} {ι : Ids} {a : Addr} {vs : List V} (h : RL K H ι a vs) : SqL K H a vs := .inl h.2

/-- an instance with slots, all of them stored -/
def SlF (H : Hp) (a C dx : Addr) (vs : List V) : Prop := dx ≠ a ∧ H a = some (SlX.SlO a C dx (vs.map some)) ∧ H dx = some (.xd [])
mutual
inductive Rep (S : Sta) (H : Hp) (ι : Ids) : V → T → Prop
  | non : Rep S H ι .non .non
  | bl (b : Bool) : Rep S H ι (.bl b) (.bl b)
  | int (i : Int) : Rep S H ι (.int i) (.int i)
  | str (x : Str) : Rep S H ι (.str x) (.str x)
  | ty (n : String) : Rep S H ι (.ty n) (.ty n)
  | cls {i : Nat} {a : Addr} : S.ca i = some a → Rep S H ι (.ref a) (.cls i)
  | fn {i : Nat} {a : Addr} : S.fa i = some a → Rep S H ι (.ref a) (.fn i)
  | tup {a : Addr} {vs : List V} {ts : List T} : RT S.K H ι a vs → Reps S H ι vs ts → Rep S H ι (.ref a) (.tup ts)
  | lst {a : Addr} {vs : List V} {ts : List T} : RL S.K H ι a vs → Reps S H ι vs ts → Rep S H ι (.ref a) (.lst ts)
  | dic {a : Addr} {ks : List Key} {vs : List V} {ts : List T} : ¬ InI ι a → Rd H a (.dK (ks.zip vs)) → ks.length = vs.length → Reps S H ι vs ts → Rep S H ι (.ref a) (.dic ks ts)
  | ins {a dx C : Addr} {c : Nat} {vs : List V} {ts : List T} : S.ca c = some C → ¬ InI ι a → ¬ InI ι dx → SlF H a C dx vs → Reps S H ι vs ts → Rep S H ι (.ref a) (.ins c ts)
  | obj {n : Nat} {a : Addr} : ι.l[n]? = some (some a) → Rep S H ι (.ref a) (.obj n)
  | gone {n : Nat} {v : V} : ι.l[n]? = some none → Rep S H ι v (.obj n)
  | scr {a : Addr} {vs : List V} {ts : List T} : RS S.K H ι a vs → Reps S H ι vs ts → Rep S H ι (.ref a) (.scr ts)
inductive Reps (S : Sta) (H : Hp) (ι : Ids) : List V → List T → Prop
  | nil : Reps S H ι [] []
  | cons {v : V} {vs : List V} {t : T} {ts : List T} : Rep S H ι v t → Reps S H ι vs ts → Reps S H ι (v :: vs) (t :: ts)
end

/-- later: the objects that no one changes are as they were -/
structure Fu0 (H : Hp) (ι : Ids) (H' : Hp) (ι' : Ids) : Prop where
  ids : ∀ (n : Nat) (o : Option Addr), ι.l[n]? = some o → ι'.l[n]? = some o ∨ ι'.l[n]? = some none
  keep : ∀ b o, H b = some o → ¬ InI ι b → H' b = some o ∧ ¬ InI ι' b
/-- .. and so are the locked ones -/
structure Fut (H : Hp) (ι : Ids) (H' : Hp) (ι' : Ids) : Prop extends Fu0 H ι H' ι' where
  lk : ∀ a ∈ ι.lk, a ∈ ι'.lk ∧ H' a = H a
theorem Fu0.trans {H H1 H2 : Hp} {ι ι1 ι2 : Ids} (a : Fu0 H ι H1 ι1) (b : Fu0 H1 ι1 H2 ι2) : Fu0 H ι H2 ι2 where
  ids := fun n o h => by
    rcases a.ids n o h with q | q
    · exact b.ids n o q
    · exact .inr ((b.ids n _ q).elim id id)
  keep := fun c o h n => let ⟨h1, n1⟩ := a.keep c o h n; b.keep c o h1 n1
theorem Fut.refl (H : Hp) (ι : Ids) : Fut H ι H ι := ⟨⟨fun _ _ h => .inl h, fun _ _ h n => ⟨h, n⟩⟩, fun _ h => ⟨h, rfl⟩⟩
theorem Fut.trans {H H1 H2 : Hp} {ι ι1 ι2 : Ids} (a : Fut H ι H1 ι1) (b : Fut H1 ι1 H2 ι2) : Fut H ι H2 ι2 :=
  ⟨a.toFu0.trans b.toFu0, fun c h => let ⟨h1, e1⟩ := a.lk c h; let ⟨h2, e2⟩ := b.lk c h1; ⟨h2, e2.trans e1⟩⟩

section
variable {S : Sta} {H H' : Hp} {ι ι' : Ids}
theorem Fu0.rd {a : Addr} {u : HO} (f : Fu0 H ι H' ι') (n : ¬ InI ι a) (r : Rd H a u) : ¬ InI ι' a ∧ Rd H' a u := by
  rcases r with r | ⟨o, r⟩
  · exact ⟨(f.keep _ _ r n).2, .inl (f.keep _ _ r n).1⟩
  · exact ⟨(f.keep _ _ r n).2, .inr ⟨o, (f.keep _ _ r n).1⟩⟩
theorem RT.fut {K : PySem.W.Frag} {a : Addr} {vs : List V} (f : Fu0 H ι H' ι') (h : RT K H ι a vs) : RT K H' ι' a vs := by
  rcases h with ⟨n, r⟩ | h
  · exact .inl (f.rd n r)
  · exact .inr h
theorem RS.fut {K : PySem.W.Frag} {a : Addr} {vs : List V} (f : Fu0 H ι H' ι') (h : RS K H ι a vs) : RS K H' ι' a vs := by
  rcases h with ⟨n, r⟩ | h
  · exact .inl (f.rd n r)
  · exact .inr h
theorem RL.fut {K : PySem.W.Frag} {a : Addr} {vs : List V} (f : Fu0 H ι H' ι') (h : RL K H ι a vs) : RL K H' ι' a vs := f.rd h.1 h.2
theorem SlF.fut {a C dx : Addr} {vs : List V} (f : Fu0 H ι H' ι') (na : ¬ InI ι a) (nd : ¬ InI ι dx) (h : SlF H a C dx vs) : SlF H' a C dx vs :=
  ⟨h.1, (f.keep _ _ h.2.1 na).1, (f.keep _ _ h.2.2 nd).1⟩
mutual
theorem Rep.fut0 (f : Fu0 H ι H' ι') : ∀ {v : V} {t : T}, Rep S H ι v t → Rep S H' ι' v t
  | _, _, .non => .non
  | _, _, .bl b => .bl b
  | _, _, .int i => .int i
  | _, _, .str x => .str x
  | _, _, .ty n => .ty n
  | _, _, .cls h => .cls h
  | _, _, .fn h => .fn h
  | _, _, .tup h r => .tup (h.fut f) (Reps.fut0 f r)
  | _, _, .lst h r => .lst (h.fut f) (Reps.fut0 f r)
  | _, _, .dic n h l r => .dic (f.rd n h).1 (f.rd n h).2 l (Reps.fut0 f r)
  | _, _, .ins c na nd h r => .ins c (f.keep _ _ h.2.1 na).2 (f.keep _ _ h.2.2 nd).2 (h.fut f na nd) (Reps.fut0 f r)
  | _, _, .obj h => (f.ids _ _ h).elim .obj .gone
  | _, _, .gone h => .gone ((f.ids _ _ h).elim id id)
  | _, _, .scr h r => .scr (h.fut f) (Reps.fut0 f r)
theorem Reps.fut0 (f : Fu0 H ι H' ι') : ∀ {vs : List V} {ts : List T}, Reps S H ι vs ts → Reps S H' ι' vs ts
  | _, _, .nil => .nil
  | _, _, .cons h r => .cons (Rep.fut0 f h) (Reps.fut0 f r)
end
theorem Rep.fut (f : Fut H ι H' ι') {v : V} {t : T} (h : Rep S H ι v t) : Rep S H' ι' v t := h.fut0 f.toFu0
theorem Reps.fut (f : Fut H ι H' ι') {vs : List V} {ts : List T} (h : Reps S H ι vs ts) : Reps S H' ι' vs ts := h.fut0 f.toFu0
theorem Reps.length : ∀ {vs : List V} {ts : List T}, Reps S H ι vs ts → vs.length = ts.length
  | _, _, .nil => rfl
  | _, _, .cons _ r => congrArg (· + 1) r.length
theorem Reps.append : ∀ {vs ws : List V} {ts us : List T}, Reps S H ι vs ts → Reps S H ι ws us → Reps S H ι (vs ++ ws) (ts ++ us)
  | _, _, _, _, .nil, s => s
  | _, _, _, _, .cons h r, s => .cons h (r.append s)
theorem Reps.get : ∀ {vs : List V} {ts : List T} {i : Nat} {t : T}, Reps S H ι vs ts → ts[i]? = some t → ∃ v, vs[i]? = some v ∧ Rep S H ι v t
  | _, _, _, _, .nil, e => by simp at e
  | _, _, 0, _, .cons h _, e => by simp at e; subst e; exact ⟨_, rfl, h⟩
  | _, _, i + 1, t, .cons _ r, e => by
    obtain ⟨v, h1, h2⟩ := Reps.get (i := i) (t := t) r (by simpa using e)
    exact ⟨v, by simpa using h1, h2⟩
theorem Reps.get' : ∀ {vs : List V} {ts : List T} {i : Nat} {v : V}, Reps S H ι vs ts → vs[i]? = some v → ∃ t, ts[i]? = some t ∧ Rep S H ι v t
  | _, _, _, _, .nil, e => by simp at e
  | _, _, 0, _, .cons h _, e => by simp at e; subst e; exact ⟨_, rfl, h⟩
  | _, _, i + 1, t, .cons _ r, e => by
    obtain ⟨v, h1, h2⟩ := Reps.get' (i := i) (v := t) r (by simpa using e)
    exact ⟨v, by simpa using h1, h2⟩
theorem Reps.take : ∀ {vs : List V} {ts : List T} (n : Nat), Reps S H ι vs ts → Reps S H ι (vs.take n) (ts.take n)
  | _, _, 0, _ => .nil
  | _, _, _ + 1, .nil => .nil
  | _, _, n + 1, .cons h r => .cons h (r.take n)
theorem Reps.drop : ∀ {vs : List V} {ts : List T} (n : Nat), Reps S H ι vs ts → Reps S H ι (vs.drop n) (ts.drop n)
  | _, _, 0, r => r
  | _, _, _ + 1, .nil => .nil
  | _, _, n + 1, .cons _ r => r.drop n
theorem Reps.set {v : V} {t : T} (h : Rep S H ι v t) : ∀ {vs : List V} {ts : List T} (n : Nat), Reps S H ι vs ts → Reps S H ι (vs.set n v) (ts.set n t)
  | _, _, _, .nil => .nil
  | _, _, 0, .cons _ r => .cons h r
  | _, _, n + 1, .cons q r => .cons q (r.set h n)
theorem Reps.snoc {v : V} {t : T} {vs : List V} {ts : List T} (r : Reps S H ι vs ts) (h : Rep S H ι v t) : Reps S H ι (vs ++ [v]) (ts ++ [t]) := r.append (.cons h .nil)
theorem Reps.dropLast {vs : List V} {ts : List T} (r : Reps S H ι vs ts) : Reps S H ι vs.dropLast ts.dropLast := by
  rw [List.dropLast_eq_take, List.dropLast_eq_take, r.length]
  exact r.take _
theorem reps_ints : ∀ {vs : List V} {ns : List Int}, Reps S H ι vs (ns.map T.int) → vs = ns.map V.int
  | _, [], .nil => rfl
  | _, _ :: _, .cons h r => by cases h; rw [reps_ints r]; rfl
theorem reps_of_ints : ∀ (ns : List Int), Reps S H ι (ns.map V.int) (ns.map T.int)
  | [] => .nil
  | n :: ns => .cons (.int n) (reps_of_ints ns)

/-- an id more -/
abbrev Ids.snoc (ι : Ids) (p : Addr) : Ids := ⟨ι.l ++ [some p], ι.lk⟩
/-- an id let go -/
abbrev Ids.drop (ι : Ids) (n : Nat) : Ids := ⟨ι.l.set n none, ι.lk⟩
/-- what is tracked and new does not hurt -/
theorem Fut.grow (t : ∀ a ∈ ι.lk, ∃ o, H a = some o) (e : ∀ b o, H b = some o → H' b = some o) : Fut H ι H' ι := ⟨⟨fun _ _ h => .inl h, fun b o h n => ⟨e b o h, n⟩⟩, fun a h => ⟨h, by
  obtain ⟨o, q⟩ := t a h
  rw [e a o q, q]⟩⟩
theorem Fut.new {p : Addr} {o : HO} (t : ∀ a ∈ ι.lk, ∃ o, H a = some o) (h : H p = none) : Fut H ι (upd H p o) ι := Fut.grow t fun b u e => by rw [upd_ne (ne_of_none e h)]; exact e
theorem Fut.write {p : Addr} {o : HO} (h : some p ∈ ι.l) (nl : p ∉ ι.lk) : Fut H ι (upd H p o) ι := ⟨⟨fun _ _ h => .inl h, fun b u e n => ⟨by
  have : b ≠ p := fun z => n (.inl (z ▸ h))
  rw [upd_ne this]; exact e, n⟩⟩, fun a ha => ⟨ha, upd_ne fun z => nl (z ▸ ha)⟩⟩
theorem Fut.newM {p : Addr} {o : HO} (t : ∀ a ∈ ι.lk, ∃ o, H a = some o) (h : H p = none) : Fut H ι (upd H p o) (ι.snoc p) := by
  refine ⟨⟨fun n o h => .inl ?_, fun b u e n => ⟨?_, fun z => ?_⟩⟩, fun a ha => ⟨ha, ?_⟩⟩
  · show (ι.l ++ [some p])[n]? = some o
    rw [List.getElem?_append_left (List.getElem?_eq_some_iff.mp h).1]; exact h
  · rw [upd_ne (ne_of_none e h)]; exact e
  · rcases z with z | z
    · rcases List.mem_append.mp z with z | z
      · exact n (.inl z)
      · have : b = p := by simpa using z
        rw [this, h] at e; cases e
    · exact n (.inr z)
  · obtain ⟨o, q⟩ := t a ha
    exact upd_ne (ne_of_none q h)
end

/-! ### the store -/
def RepM (S : Sta) (H : Hp) (ι : Ids) (μ : Store) (n : Nat) (a : Addr) : MO → Prop
  | .lst ts => ∃ vs, H a = some (.lst vs) ∧ Reps S H ι vs ts
  | .dic ks ts => ∃ vs, ks.length = vs.length ∧ H a = some (.dK (ks.zip vs)) ∧ Reps S H ι vs ts
  | .ins c ns ts => ∃ (C dx : Addr) (vs : List V) (m : Nat), (m + 1 = n ∧ S.ca c = some C) ∧ ι.l[m]? = some (some dx) ∧ μ[m]? = some (some (.aux n)) ∧ ns.length = vs.length ∧ H a = some (.ins C dx (ns.zip vs)) ∧ Reps S H ι vs ts
  | .sl c ts => ∃ (C dx : Addr) (vs : List V) (m : Nat), (m + 1 = n ∧ S.ca c = some C) ∧ ι.l[m]? = some (some dx) ∧ μ[m]? = some (some (.aux n)) ∧ SlF H a C dx vs ∧ Reps S H ι vs ts
  | .aux _ => ∃ o, H a = some o
structure StRep (S : Sta) (H : Hp) (ι : Ids) (μ : Store) : Prop where
  len : ι.l.length = μ.length
  nd : ∀ (m n : Nat) (a : Addr), ι.l[m]? = some (some a) → ι.l[n]? = some (some a) → m = n
  obj : ∀ (n : Nat) (o : MO), μ[n]? = some (some o) → ∃ a, ι.l[n]? = some (some a) ∧ RepM S H ι μ n a o
  gone : ∀ (n : Nat), μ[n]? = some none → ι.l[n]? = some none
  lks : ∀ a ∈ ι.lk, (∃ o, H a = some o) ∧ some a ∉ ι.l
section
variable {S : Sta} {H H' : Hp} {ι ι' : Ids} {μ μ' : Store}
theorem inL {n : Nat} {a : Addr} (h : ι.l[n]? = some (some a)) : some a ∈ ι.l := List.mem_iff_getElem?.mpr ⟨n, h⟩
theorem InI.of {n : Nat} {a : Addr} (h : ι.l[n]? = some (some a)) : InI ι a := .inl (inL h)
theorem StRep.tk (s : StRep S H ι μ) : ∀ a ∈ ι.lk, ∃ o, H a = some o := fun a h => (s.lks a h).1
theorem RepM.tracked {n : Nat} {a : Addr} {o : MO} (h : RepM S H ι μ n a o) : ∃ u, H a = some u := by
  cases o with
  | lst ts => obtain ⟨_, h, _⟩ := h; exact ⟨_, h⟩
  | dic ks ts => obtain ⟨_, _, h, _⟩ := h; exact ⟨_, h⟩
  | ins c ns ts => obtain ⟨_, _, _, _, _, _, _, _, h, _⟩ := h; exact ⟨_, h⟩
  | sl c ts => obtain ⟨_, _, _, _, _, _, _, h, _⟩ := h; exact ⟨_, h.2.1⟩
  | aux k => exact h
/-- an object of the store, where its own place and its dict's are as they were -/
theorem RepM.fut {n : Nat} {a : Addr} {o : MO} (f : Fu0 H ι H' ι') (e : ∀ u, H a = some u → H' a = some u) (d : ∀ (m : Nat) dx, ι.l[m]? = some (some dx) → μ[m]? = some (some (.aux n)) → ι'.l[m]? = some (some dx) ∧ μ'[m]? = some (some (.aux n)) ∧ ∀ u, H dx = some u → H' dx = some u)
    (h : RepM S H ι μ n a o) : RepM S H' ι' μ' n a o := by
  cases o with
  | lst ts => obtain ⟨vs, h, r⟩ := h; exact ⟨vs, e _ h, r.fut0 f⟩
  | dic ks ts => obtain ⟨vs, l, h, r⟩ := h; exact ⟨vs, l, e _ h, r.fut0 f⟩
  | ins c ns ts => obtain ⟨C, dx, vs, m, hc, hm, ha, l, h, r⟩ := h; exact ⟨C, dx, vs, m, hc, (d m dx hm ha).1, (d m dx hm ha).2.1, l, e _ h, r.fut0 f⟩
  | sl c ts =>
    obtain ⟨C, dx, vs, m, hc, hm, ha, ⟨h1, h2, h3⟩, r⟩ := h
    obtain ⟨d1, d2, d3⟩ := d m dx hm ha
    exact ⟨C, dx, vs, m, hc, d1, d2, ⟨h1, e _ h2, d3 _ h3⟩, r.fut0 f⟩
  | aux k => obtain ⟨o, h⟩ := h; exact ⟨o, e _ h⟩
theorem StRep.tracked (s : StRep S H ι μ) {a : Addr} (h : InI ι a) : ∃ u, H a = some u := by
  rcases h with h | h
  case inr => exact (s.lks a h).1
  obtain ⟨n, hn⟩ := List.mem_iff_getElem?.mp h
  have hl : n < μ.length := by rw [← s.len]; exact (List.getElem?_eq_some_iff.mp hn).1
  cases q : μ[n]? with
  | none => exact absurd (List.getElem?_eq_none_iff.mp q) (by omega)
  | some o =>
    cases o with
    | none => rw [s.gone n q] at hn; cases hn
    | some o =>
      obtain ⟨b, hb, r⟩ := s.obj n o q
      rw [hn] at hb; cases hb
      exact r.tracked
theorem StRep.same (s : StRep S H ι μ) (e : ∀ b o, H b = some o → H' b = some o) : StRep S H' ι μ :=
  ⟨s.len, s.nd, fun n o h => let ⟨a, ha, r⟩ := s.obj n o h; ⟨a, ha, r.fut (Fut.grow s.tk e).toFu0 (e a) fun m dx h1 h2 => ⟨h1, h2, e dx⟩⟩, s.gone, fun a h => let ⟨⟨o, q⟩, n⟩ := s.lks a h; ⟨⟨o, e a o q⟩, n⟩⟩
theorem StRep.new (s : StRep S H ι μ) {p : Addr} {o : HO} (h : H p = none) : StRep S (upd H p o) ι μ := s.same fun b u e => by rw [upd_ne (ne_of_none e h)]; exact e
theorem get_snoc {α : Type} {l : List α} {x y : α} {n : Nat} (h : (l ++ [x])[n]? = some y) : l[n]? = some y ∨ (n = l.length ∧ y = x) := by
  by_cases hn : n < l.length
  · rw [List.getElem?_append_left hn] at h; exact .inl h
  · rw [List.getElem?_append_right (by omega)] at h
    have : n - l.length = 0 := by
      have := (List.getElem?_eq_some_iff.mp h).1
      simp at this; omega
    rw [this] at h
    simp at h
    exact .inr ⟨by omega, h.symm⟩
theorem get_old {α : Type} {l : List α} {x y : α} {n : Nat} (h : l[n]? = some y) : (l ++ [x])[n]? = some y := by
  rw [List.getElem?_append_left (List.getElem?_eq_some_iff.mp h).1]; exact h
theorem StRep.newM (s : StRep S H ι μ) {p : Addr} {o : HO} {m : MO} (h : H p = none) (r : RepM S (upd H p o) (ι.snoc p) (μ ++ [some m]) μ.length p m) : StRep S (upd H p o) (ι.snoc p) (μ ++ [some m]) where
  len := by simp [s.len]
  nd := by
    have np : ∀ (n : Nat), ι.l[n]? ≠ some (some p) := fun n q => by
      obtain ⟨u, z⟩ := s.tracked (InI.of q)
      rw [h] at z; cases z
    intro m n a h1 h2
    rcases get_snoc h1 with h1 | ⟨h1, e1⟩ <;> rcases get_snoc h2 with h2 | ⟨h2, e2⟩
    · exact s.nd m n a h1 h2
    · cases e2; exact absurd h1 (np m)
    · cases e1; exact absurd h2 (np n)
    · omega
  obj := fun n o' q => by
    have keep : ∀ b u, H b = some u → upd H p o b = some u := fun b u e => by rw [upd_ne (ne_of_none e h)]; exact e
    rcases get_snoc q with q | ⟨hn, e⟩
    · obtain ⟨a, ha, r'⟩ := s.obj n o' q
      exact ⟨a, get_old ha, r'.fut (Fut.newM s.tk h).toFu0 (keep a) fun k dx h1 h2 => ⟨get_old h1, get_old h2, keep dx⟩⟩
    · cases e
      subst hn
      refine ⟨p, ?_, r⟩
      show (ι.l ++ [some p])[μ.length]? = _
      rw [← s.len, List.getElem?_append_right (Nat.le_refl _), Nat.sub_self]
      rfl
  gone := fun n q => by
    rcases get_snoc q with q | ⟨hn, e⟩
    · exact get_old (s.gone n q)
    · cases e
  lks := fun a h' => by
    obtain ⟨⟨u, q⟩, n⟩ := s.lks a h'
    refine ⟨⟨u, by rw [upd_ne (ne_of_none q h)]; exact q⟩, fun z => ?_⟩
    rcases List.mem_append.mp z with z | z
    · exact n z
    · have : a = p := by simpa using z
      rw [this, h] at q; cases q
theorem StRep.at (s : StRep S H ι μ) {n : Nat} {o : MO} (h : μ[n]? = some (some o)) {v : V} (r : Rep S H ι v (.obj n)) : ∃ a, v = .ref a ∧ ι.l[n]? = some (some a) ∧ RepM S H ι μ n a o := by
  obtain ⟨a, ha, m⟩ := s.obj n o h
  cases r with
  | obj e => rw [e] at ha; cases ha; exact ⟨_, rfl, e, m⟩
  | gone e => rw [e] at ha; cases ha
theorem StRep.nlk (s : StRep S H ι μ) {n : Nat} {p : Addr} (h : ι.l[n]? = some (some p)) : p ∉ ι.lk := fun z => (s.lks p z).2 (inL h)
/-- an object of the store is written: no aux -/
theorem StRep.put (s : StRep S H ι μ) {n : Nat} {p : Addr} {o : HO} {m m₀ : MO} (hm : μ[n]? = some (some m₀)) (h0 : ∀ k, m₀ ≠ .aux k) (hp : ι.l[n]? = some (some p)) (r : RepM S (upd H p o) ι (μ.set n (some m)) n p m) : StRep S (upd H p o) ι (μ.set n (some m)) where
  len := by simp [s.len]
  nd := s.nd
  obj := fun k o' q => by
    have hl : n < μ.length := (List.getElem?_eq_some_iff.mp hm).1
    by_cases hk : k = n
    · subst hk
      rw [List.getElem?_set_self hl] at q
      cases q
      exact ⟨p, hp, r⟩
    · rw [List.getElem?_set_ne (Ne.symm hk)] at q
      obtain ⟨a, ha, r'⟩ := s.obj k o' q
      refine ⟨a, ha, r'.fut (Fut.write (inL hp) (s.nlk hp)).toFu0 (fun u e => ?_) fun j dx h1 h2 => ?_⟩
      · have : a ≠ p := fun z => hk (s.nd k n a ha (z ▸ hp))
        rw [upd_ne this]; exact e
      · have hj : j ≠ n := fun z => by subst z; rw [hm] at h2; cases h2; exact h0 _ rfl
        have : dx ≠ p := fun z => hj (s.nd j n dx h1 (z ▸ hp))
        exact ⟨h1, by rw [List.getElem?_set_ne (Ne.symm hj)]; exact h2, fun u e => by rw [upd_ne this]; exact e⟩
  gone := fun k q => by
    have hl : n < μ.length := (List.getElem?_eq_some_iff.mp hm).1
    by_cases hk : k = n
    · subst hk
      rw [List.getElem?_set_self hl] at q
      cases q
    · rw [List.getElem?_set_ne (Ne.symm hk)] at q
      exact s.gone k q
  lks := fun a h' => by
    obtain ⟨⟨u, q⟩, nn⟩ := s.lks a h'
    have : a ≠ p := fun z => s.nlk hp (z ▸ h')
    exact ⟨⟨u, by rw [upd_ne this]; exact q⟩, nn⟩
theorem not_set {α : Type} {l : List (Option α)} {n : Nat} {a : α} (h : some a ∈ l.set n none) : some a ∈ l := by
  obtain ⟨k, hk⟩ := List.mem_iff_getElem?.mp h
  rw [List.getElem?_set] at hk
  split at hk
  · split at hk <;> cases hk
  · exact List.mem_iff_getElem?.mpr ⟨k, hk⟩
theorem Fut.drop {n : Nat} : Fut H ι H (ι.drop n) := by
  refine ⟨⟨fun k o h => ?_, fun b o h nb => ⟨h, fun z => nb (z.imp not_set id)⟩⟩, fun _ h => ⟨h, rfl⟩⟩
  by_cases hk : k = n
  · subst hk
    exact .inr (List.getElem?_set_self (List.getElem?_eq_some_iff.mp h).1)
  · exact .inl (by show (ι.l.set n none)[k]? = some o; rw [List.getElem?_set_ne (Ne.symm hk)]; exact h)
/-- an object that is no aux is let go: no one may change it any more -/
theorem StRep.drop (s : StRep S H ι μ) {n : Nat} {m₀ : MO} (hm : μ[n]? = some (some m₀)) (h0 : ∀ k, m₀ ≠ .aux k) : StRep S H (ι.drop n) (μ.set n none) where
  len := by simp [s.len]
  nd := fun m k a h1 h2 => by
    have f : ∀ (m : Nat), (ι.l.set n none)[m]? = some (some a) → ι.l[m]? = some (some a) := fun m h => by
      rw [List.getElem?_set] at h
      split at h
      · split at h <;> cases h
      · exact h
    exact s.nd m k a (f m h1) (f k h2)
  obj := fun k o' q => by
    have hn : n < μ.length := (List.getElem?_eq_some_iff.mp hm).1
    by_cases hk : k = n
    · subst hk
      rw [List.getElem?_set_self hn] at q
      cases q
    · rw [List.getElem?_set_ne (Ne.symm hk)] at q
      obtain ⟨a, ha, r'⟩ := s.obj k o' q
      refine ⟨a, (List.getElem?_set_ne (Ne.symm hk)).trans ha, r'.fut Fut.drop.toFu0 (fun u e => e) fun j dx h1 h2 => ?_⟩
      have hj : j ≠ n := fun z => by subst z; rw [hm] at h2; cases h2; exact h0 _ rfl
      exact ⟨(List.getElem?_set_ne (Ne.symm hj)).trans h1, by rw [List.getElem?_set_ne (Ne.symm hj)]; exact h2, fun u e => e⟩
  gone := fun k q => by
    have hn : n < μ.length := (List.getElem?_eq_some_iff.mp hm).1
    by_cases hk : k = n
    · subst hk
      exact List.getElem?_set_self (by rw [s.len]; exact hn)
    · rw [List.getElem?_set_ne (Ne.symm hk)] at q
      exact (List.getElem?_set_ne (Ne.symm hk)).trans (s.gone k q)
  lks := fun a h' => let ⟨q, nn⟩ := s.lks a h'; ⟨q, fun z => nn (not_set z)⟩
/-- the aux of an object that was let go -/
theorem StRep.dropAux (s : StRep S H ι μ) {n m : Nat} (hm : μ[m]? = some (some (.aux n))) (hn : μ[n]? = some none) : StRep S H (ι.drop m) (μ.set m none) where
  len := by simp [s.len]
  nd := fun i k a h1 h2 => by
    have f : ∀ (i : Nat), (ι.l.set m none)[i]? = some (some a) → ι.l[i]? = some (some a) := fun i h => by
      rw [List.getElem?_set] at h
      split at h
      · split at h <;> cases h
      · exact h
    exact s.nd i k a (f i h1) (f k h2)
  obj := fun k o' q => by
    have hl : m < μ.length := (List.getElem?_eq_some_iff.mp hm).1
    by_cases hk : k = m
    · subst hk
      rw [List.getElem?_set_self hl] at q
      cases q
    · rw [List.getElem?_set_ne (Ne.symm hk)] at q
      obtain ⟨a, ha, r'⟩ := s.obj k o' q
      refine ⟨a, (List.getElem?_set_ne (Ne.symm hk)).trans ha, r'.fut Fut.drop.toFu0 (fun u e => e) fun j dx h1 h2 => ?_⟩
      have hj : j ≠ m := fun z => by
        subst z
        rw [hm] at h2
        cases h2
        rw [hn] at q
        cases q
      exact ⟨(List.getElem?_set_ne (Ne.symm hj)).trans h1, by rw [List.getElem?_set_ne (Ne.symm hj)]; exact h2, fun u e => e⟩
  gone := fun k q => by
    have hl : m < μ.length := (List.getElem?_eq_some_iff.mp hm).1
    by_cases hk : k = m
    · subst hk
      exact List.getElem?_set_self (by rw [s.len]; exact hl)
    · rw [List.getElem?_set_ne (Ne.symm hk)] at q
      exact (List.getElem?_set_ne (Ne.symm hk)).trans (s.gone k q)
  lks := fun a h' => let ⟨q, nn⟩ := s.lks a h'; ⟨q, fun z => nn (not_set z)⟩
end
end Tw

/-! Tw2: the judgements over trees -/
namespace Tw
open PySem L2

def RepE (S : Sta) (H : Hp) (ι : Ids) (σ : L2.St) (ρ : Env) : Prop := σ.length = ρ.length ∧ ∀ (i : Nat) (t : T), ρ[i]? = some (some t) → ∃ v, σ[i]? = some (some v) ∧ Rep S H ι v t
theorem RepE.fut {S : Sta} {H H' : Hp} {ι ι' : Ids} {σ : L2.St} {ρ : Env} (f : Fut H ι H' ι') (h : RepE S H ι σ ρ) : RepE S H' ι' σ ρ :=
  ⟨h.1, fun i t e => let ⟨v, a, b⟩ := h.2 i t e; ⟨v, a, b.fut f⟩⟩
theorem RepE.set {S : Sta} {H : Hp} {ι : Ids} {σ : L2.St} {ρ : Env} {i : Nat} {v : V} {t : T} (h : RepE S H ι σ ρ) (r : Rep S H ι v t) : RepE S H ι (σ.set i (some v)) (ρ.set i (some t)) := by
  refine ⟨by simp [h.1], fun j u e => ?_⟩
  by_cases hj : j = i
  · subst hj
    have hl : j < ρ.length := by
      have := (List.getElem?_eq_some_iff.mp e).1
      simpa using this
    rw [List.getElem?_set_self hl] at e
    cases e
    exact ⟨v, List.getElem?_set_self (by rw [h.1]; exact hl), r⟩
  · rw [List.getElem?_set_ne (Ne.symm hj)] at e
    obtain ⟨w, a, b⟩ := h.2 j u e
    exact ⟨w, by rw [List.getElem?_set_ne (Ne.symm hj)]; exact a, b⟩
/-- an exception: its class, its own dict -/
def RepX (S : Sta) (H : Hp) (ι : Ids) (cls : Value) (d : Option Addr) (e : Exc) : Prop :=
  ∃ C, cls = .ref C ∧ S.ca e.cls = some C ∧ ((d = none ∧ e.ns = []) ∨ ∃ dx vs, d = some dx ∧ ¬ InI ι dx ∧ e.ns.length = vs.length ∧ H dx = some (.xd (e.ns.zip vs)) ∧ Reps S H ι vs e.ts)

section
variable (S : Sta) (W : WX) (σ : L2.St)
def Pst {α β : Type} (H : Hp) (ι : Ids) (rel : Hp → Ids → β → α → Prop) (r : Res α) (Q : β → Hp → Prop) : Prop := match r with
  | .ok a μ' => ∀ b H' ι', Fut H ι H' ι' → StRep S H' ι' μ' → rel H' ι' b a → Q b H'
  | .ex e μ' => ∀ cls d H' ι', Fut H ι H' ι' → StRep S H' ι' μ' → RepX S H' ι' cls d e → W cls d σ H'
  | .bad => False
end
section
variable {S : Sta} {W : WX} {σ : L2.St} {H H1 : Hp} {ι ι1 : Ids}
theorem Pst.later {α β : Type} {rel : Hp → Ids → β → α → Prop} {r : Res α} {Q : β → Hp → Prop} (f : Fut H ι H1 ι1) (h : Pst S W σ H ι rel r Q) : Pst S W σ H1 ι1 rel r Q := by
  cases r with
  | ok a μ => exact fun b H' ι' f' => h b H' ι' (f.trans f')
  | ex e μ => exact fun c d H' ι' f' => h c d H' ι' (f.trans f')
  | bad => exact h
theorem Pst.mono {α β : Type} {rel : Hp → Ids → β → α → Prop} {r : Res α} {Q Q' : β → Hp → Prop} (h : Pst S W σ H ι rel r Q) (q : ∀ b H', Q b H' → Q' b H') : Pst S W σ H ι rel r Q' := by
  cases r with
  | ok a μ => exact fun b H' ι' f s r => q _ _ (h b H' ι' f s r)
  | ex e μ => exact h
  | bad => exact h
theorem Pst.seq {α β γ δ : Type} {rel : Hp → Ids → β → α → Prop} {rel2 : Hp → Ids → δ → γ → Prop} {m : M α} {k : α → M γ} {μ : Store} {Q : δ → Hp → Prop} (h : Pst S W σ H ι rel2 (bnd m k μ) Q) :
    Pst S W σ H ι rel (m μ) (fun b H1 => ∃ ι1 μ1 a, Fut H ι H1 ι1 ∧ StRep S H1 ι1 μ1 ∧ rel H1 ι1 b a ∧ Pst S W σ H1 ι1 rel2 (k a μ1) Q) := by
  unfold bnd at h
  cases e : m μ with
  | ok a μ1 =>
    rw [e] at h
    exact fun b H1 ι1 f s r => ⟨ι1, μ1, a, f, s, r, Pst.later f h⟩
  | ex x μ1 =>
    rw [e] at h
    exact h
  | bad =>
    rw [e] at h
    exact h
/-- the value is there -/
theorem Pst.now {α β : Type} {rel : Hp → Ids → β → α → Prop} {a : α} {b : β} {μ : Store} {Q : β → Hp → Prop} (h : Pst S W σ H ι rel (.ok a μ) Q) (s : StRep S H ι μ) (r : rel H ι b a) : Q b H := h b H ι (Fut.refl H ι) s r
/-- a new thing that no one changes -/
theorem Pst.new {α β : Type} {rel : Hp → Ids → β → α → Prop} {a : α} {b : β} {μ : Store} {Q : β → Hp → Prop} {p : Addr} {o : HO} (h : Pst S W σ H ι rel (.ok a μ) Q) (s : StRep S H ι μ) (hp : H p = none) (r : rel (upd H p o) ι b a) : Q b (upd H p o) :=
  h b _ ι (Fut.new s.tk hp) (s.new hp) r
theorem StRep.fresh {μ : Store} {p : Addr} (s : StRep S H ι μ) (h : H p = none) : ¬ InI ι p := fun z => by
  obtain ⟨u, e⟩ := s.tracked z
  rw [h] at e; cases e
theorem Rep.newT {μ : Store} {p : Addr} {vs : List V} {ts : List T} (s : StRep S H ι μ) (h : H p = none) (r : Reps S H ι vs ts) : Rep S (upd H p (.tup vs)) ι (.ref p) (.tup ts) :=
  .tup (.inl ⟨s.fresh h, .inl upd_same⟩) (r.fut (Fut.new s.tk h))
theorem Rep.newL {μ : Store} {p : Addr} {vs : List V} {ts : List T} (s : StRep S H ι μ) (h : H p = none) (r : Reps S H ι vs ts) : Rep S (upd H p (.lst vs)) ι (.ref p) (.lst ts) :=
  .lst ⟨s.fresh h, .inl upd_same⟩ (r.fut (Fut.new s.tk h))
end

/-- a value, a test, arguments -/
def tEv (S : Sta) (W : WX) (f : Env → M T) : TE := fun σ H Q => ∃ ρ ι μ, RepE S H ι σ ρ ∧ StRep S H ι μ ∧ Pst S W σ H ι (Rep S) (f ρ μ) Q
def tTv (S : Sta) (W : WX) (f : Env → M Bool) : TT := fun σ H Q => ∃ ρ ι μ, RepE S H ι σ ρ ∧ StRep S H ι μ ∧ Pst S W σ H ι (fun _ _ b a => b = a) (f ρ μ) Q
def tAv (S : Sta) (W : WX) (f : Env → M (List T)) : TA := fun σ H Q => ∃ ρ ι μ, RepE S H ι σ ρ ∧ StRep S H ι μ ∧ Pst S W σ H ι (Reps S) (f ρ μ) Q

theorem PE.weak {X : Cx} {e : Expr} {t t' : TE} (h : PE X e t) (w : ∀ σ H Q, t' σ H Q → t σ H Q) : PE X e t' := ⟨fun pins s σ H Q I q => h.run pins s σ H Q I (w σ H Q q)⟩
theorem PT.weak {X : Cx} {e : Expr} {t t' : TT} (h : PT X e t) (w : ∀ σ H Q, t' σ H Q → t σ H Q) : PT X e t' := ⟨fun pins s σ H Q I q => h.run pins s σ H Q I (w σ H Q q)⟩
theorem PW.weak {X : Cx} {e : Expr} {t t' : TT} (h : PW X e t) (w : ∀ σ H Q, t' σ H Q → t σ H Q) : PW X e t' := ⟨fun wh pins s σ H Q I q => h.run wh pins s σ H Q I (w σ H Q q)⟩
theorem PA.weak {X : Cx} {es : List Expr} {t t' : TA} (h : PA X es t) (w : ∀ σ H Q, t' σ H Q → t σ H Q) : PA X es t' := ⟨fun pos pins s σ H Q I q => h.run pos pins s σ H Q I (w σ H Q q)⟩
theorem PS.weak {X : Cx} {st : Stmt} {t t' : TS} (h : PS X st t) (w : ∀ D σ H, t' D σ H → t D σ H) : PS X st t' := ⟨fun pins s σ H D I q => h.run pins s σ H D I (w D σ H q)⟩
theorem PSs.weak {X : Cx} {st : List Stmt} {t t' : TS} (h : PSs X st t) (w : ∀ D σ H, t' D σ H → t D σ H) : PSs X st t' := ⟨fun pins s σ H D I q => h.run pins s σ H D I (w D σ H q)⟩

/-! ### combinators -/
def cVar (i : Nat) : Env → M T := fun ρ => match ρ[i]? with
  | some (some t) => ret t
  | _ => bad
def cK (t : T) : Env → M T := fun _ => ret t
def c1 (g : T → M T) (a : Env → M T) : Env → M T := fun ρ => bnd (a ρ) g
def c2 (g : T → T → M T) (a b : Env → M T) : Env → M T := fun ρ => bnd (a ρ) fun x => bnd (b ρ) fun y => g x y
def cN (g : List T → M T) (a : Env → M (List T)) : Env → M T := fun ρ => bnd (a ρ) g
def aNil : Env → M (List T) := fun _ => ret []
def aCons (a : Env → M T) (r : Env → M (List T)) : Env → M (List T) := fun ρ => bnd (a ρ) fun x => bnd (r ρ) fun xs => ret (x :: xs)
/-- as a test: a bool -/
def cTest (a : Env → M T) : Env → M Bool := fun ρ => bnd (a ρ) fun x => match x with
  | .bl b => ret b
  | _ => bad
def cAnd (a b : Env → M Bool) : Env → M Bool := fun ρ => bnd (a ρ) fun x => if x then b ρ else ret false
def cOr (a b : Env → M Bool) : Env → M Bool := fun ρ => bnd (a ρ) fun x => if x then ret true else b ρ
def cNot (a : Env → M Bool) : Env → M Bool := fun ρ => bnd (a ρ) fun x => ret (!x)
def cIf (c : Env → M Bool) (a b : Env → M T) : Env → M T := fun ρ => bnd (c ρ) fun x => if x then a ρ else b ρ
/-- a and b, a or b, not a, of bools as values -/
def cAndV (a b : Env → M T) : Env → M T := fun ρ => bnd (a ρ) fun x => match x with
  | .bl true => b ρ
  | .bl false => ret (.bl false)
  | _ => bad
def cOrV (a b : Env → M T) : Env → M T := fun ρ => bnd (a ρ) fun x => match x with
  | .bl false => b ρ
  | .bl true => ret (.bl true)
  | _ => bad
def cNotV (a : Env → M T) : Env → M T := fun ρ => bnd (a ρ) fun x => match x with
  | .bl b => ret (.bl (!b))
  | _ => bad

section
variable {X : Cx} {S : Sta} {W : WX} {a b c : Expr} {fa fb fc : Env → M T} {pos : Pos}
abbrev PV (X : Cx) (S : Sta) (W : WX) (e : Expr) (f : Env → M T) : Prop := PE X e (tEv S W f)

/-- the pieces: a value ahead -/
theorem ev_bind {ta : TE} {m : M T} {k : T → M T} {ρ : Env} {σ : L2.St} {H : Hp} {ι : Ids} {μ : Store} {Q : VK} (he : RepE S H ι σ ρ) (hs : StRep S H ι μ) (hm : m = fa ρ) (h : Pst S W σ H ι (Rep S) (bnd m k μ) Q)
    {R : VK} (next : ∀ x H1 ι1 μ1 t, RepE S H1 ι1 σ ρ → StRep S H1 ι1 μ1 → Fut H ι H1 ι1 → Rep S H1 ι1 x t → Pst S W σ H1 ι1 (Rep S) (k t μ1) Q → R x H1) : tEv S W fa σ H R := by
  subst hm
  exact ⟨ρ, ι, μ, he, hs, (Pst.seq (rel := Rep S) h).mono fun x H1 ⟨ι1, μ1, t, f, s, r, q⟩ => next x H1 ι1 μ1 t (he.fut f) s f r q⟩
end
end Tw

/-! Tw3: expressions -/
namespace Tw
open PySem L2

/-- the longest list, text -/
abbrev lim : Nat := 16777216
theorem lim_eq : (sizeLine : Nat) = lim := sizeLine_eq

/-! ### readers -/
def lstOf (t : T) (μ : Store) : Option (List T) := match t with
  | .lst ts => some ts
  | .obj n => match μ[n]? with
    | some (some (.lst ts)) => some ts
    | _ => none
  | _ => none
def seqOf (t : T) (μ : Store) : Option (List T) := match t with
  | .tup ts => some ts
  | .scr ts => some ts
  | t => lstOf t μ
def dicOf (t : T) (μ : Store) : Option (List Key × List T) := match t with
  | .dic ks ts => some (ks, ts)
  | .obj n => match μ[n]? with
    | some (some (.dic ks ts)) => some (ks, ts)
    | _ => none
  | _ => none
section
variable {S : Sta} {W : WX} {σ : L2.St} {H : Hp} {ι : Ids} {μ : Store}
theorem lst_read {t : T} {ts : List T} {v : V} (e : lstOf t μ = some ts) (s : StRep S H ι μ) (r : Rep S H ι v t) : ∃ a vs, v = .ref a ∧ Rd H a (.lst vs) ∧ Reps S H ι vs ts := by
  cases t with
  | lst us =>
    cases e
    cases r with
    | lst h q => exact ⟨_, _, rfl, h.2, q⟩
  | obj n =>
    have e' : (match μ[n]? with | some (some (MO.lst ts)) => some ts | _ => none) = some ts := e
    split at e'
    · rename_i us hm
      cases e'
      obtain ⟨a, rfl, _, vs, h, q⟩ := s.at hm r
      exact ⟨a, vs, rfl, .inl h, q⟩
    · cases e'
  | _ => cases e
theorem seq_read {t : T} {ts : List T} {v : V} (e : seqOf t μ = some ts) (s : StRep S H ι μ) (r : Rep S H ι v t) : ∃ a vs, v = .ref a ∧ (SqT S.K H a vs ∨ SqL S.K H a vs) ∧ Reps S H ι vs ts := by
  cases t with
  | tup us =>
    cases e
    cases r with
    | tup h q => exact ⟨_, _, rfl, .inl h.sq, q⟩
  | scr us =>
    cases e
    cases r with
    | scr h q => exact ⟨_, _, rfl, .inr h.sq, q⟩
  | lst us => obtain ⟨a, vs, h1, h2, h3⟩ := lst_read (t := .lst us) e s r; exact ⟨a, vs, h1, .inr (.inl h2), h3⟩
  | obj n => obtain ⟨a, vs, h1, h2, h3⟩ := lst_read (t := .obj n) e s r; exact ⟨a, vs, h1, .inr (.inl h2), h3⟩
  | _ => cases e
theorem dic_read {t : T} {ks : List Key} {ts : List T} {v : V} (e : dicOf t μ = some (ks, ts)) (s : StRep S H ι μ) (r : Rep S H ι v t) : ∃ a vs, v = .ref a ∧ ks.length = vs.length ∧ Rd H a (.dK (ks.zip vs)) ∧ Reps S H ι vs ts := by
  cases t with
  | dic us ws =>
    cases e
    cases r with
    | dic n h l q => exact ⟨_, _, rfl, l, h, q⟩
  | obj n =>
    have e' : (match μ[n]? with | some (some (MO.dic ks ts)) => some (ks, ts) | _ => none) = some (ks, ts) := e
    split at e'
    · rename_i us ws hm
      cases e'
      obtain ⟨a, rfl, _, vs, l, h, q⟩ := s.at hm r
      exact ⟨a, vs, rfl, l, .inl h, q⟩
    · cases e'
  | _ => cases e
end

section
variable {X : Cx} {S : Sta} {W : WX} {a b c : Expr} {fa fb fc : Env → M T} {pos : Pos}
/-- a value, then more -/
theorem ev_then {γ δ : Type} {rel : Hp → Ids → δ → γ → Prop} {k : T → M γ} {ρ : Env} {σ : L2.St} {H : Hp} {ι : Ids} {μ : Store} {Q : δ → Hp → Prop} (he : RepE S H ι σ ρ) (hs : StRep S H ι μ) (h : Pst S W σ H ι rel (bnd (fa ρ) k μ) Q)
    {R : VK} (next : ∀ x H1 ι1 μ1 t, RepE S H1 ι1 σ ρ → StRep S H1 ι1 μ1 → Fut H ι H1 ι1 → Rep S H1 ι1 x t → Pst S W σ H1 ι1 rel (k t μ1) Q → R x H1) : tEv S W fa σ H R :=
  ⟨ρ, ι, μ, he, hs, (Pst.seq (rel := Rep S) h).mono fun x H1 ⟨ι1, μ1, t, f, s, r, q⟩ => next x H1 ι1 μ1 t (he.fut f) s f r q⟩
theorem tv_then {γ δ : Type} {rel : Hp → Ids → δ → γ → Prop} {fa : Env → M Bool} {k : Bool → M γ} {ρ : Env} {σ : L2.St} {H : Hp} {ι : Ids} {μ : Store} {Q : δ → Hp → Prop} (he : RepE S H ι σ ρ) (hs : StRep S H ι μ) (h : Pst S W σ H ι rel (bnd (fa ρ) k μ) Q)
    {R : Bool → Hp → Prop} (next : ∀ x H1 ι1 μ1, RepE S H1 ι1 σ ρ → StRep S H1 ι1 μ1 → Fut H ι H1 ι1 → Pst S W σ H1 ι1 rel (k x μ1) Q → R x H1) : tTv S W fa σ H R :=
  ⟨ρ, ι, μ, he, hs, (Pst.seq (rel := fun _ _ b a => b = a) h).mono fun x H1 ⟨ι1, μ1, t, f, s, r, q⟩ => by subst r; exact next x H1 ι1 μ1 (he.fut f) s f q⟩
theorem av_then {γ δ : Type} {rel : Hp → Ids → δ → γ → Prop} {fa : Env → M (List T)} {k : List T → M γ} {ρ : Env} {σ : L2.St} {H : Hp} {ι : Ids} {μ : Store} {Q : δ → Hp → Prop} (he : RepE S H ι σ ρ) (hs : StRep S H ι μ) (h : Pst S W σ H ι rel (bnd (fa ρ) k μ) Q)
    {R : List V → Hp → Prop} (next : ∀ x H1 ι1 μ1 t, RepE S H1 ι1 σ ρ → StRep S H1 ι1 μ1 → Fut H ι H1 ι1 → Reps S H1 ι1 x t → Pst S W σ H1 ι1 rel (k t μ1) Q → R x H1) : tAv S W fa σ H R :=
  ⟨ρ, ι, μ, he, hs, (Pst.seq (rel := Reps S) h).mono fun x H1 ⟨ι1, μ1, t, f, s, r, q⟩ => next x H1 ι1 μ1 t (he.fut f) s f r q⟩

abbrev PVt (X : Cx) (S : Sta) (W : WX) (e : Expr) (f : Env → M Bool) : Prop := PT X e (tTv S W f)
abbrev PVw (X : Cx) (S : Sta) (W : WX) (e : Expr) (f : Env → M Bool) : Prop := PW X e (tTv S W f)
abbrev PVa (X : Cx) (S : Sta) (W : WX) (es : List Expr) (f : Env → M (List T)) : Prop := PA X es (tAv S W f)

/-! ### names, constants -/
theorem pv_var {i : Nat} {x : Str} (hN : X.N[i]? = some x) (hv : Vis X.env.scope x) (hd : (x == ("__debug__" : Str)) = false) (hcd : (x == ("__classdict__" : Str)) = false) : PV X S W (.Name x pos) (cVar i) :=
  PE.weak (pe_var hN hv hd hcd) fun σ H Q ⟨ρ, ι, μ, he, hs, h⟩ => by
    unfold cVar at h
    cases e : ρ[i]? with
    | none => rw [e] at h; exact h.elim
    | some o =>
      cases o with
      | none => rw [e] at h; exact h.elim
      | some t =>
        rw [e] at h
        obtain ⟨v, h1, h2⟩ := he.2 i t e
        exact ⟨v, h1, Pst.now h hs h2⟩
theorem pv_con {v : V} {t : T} {e : Expr} (h : PE X e (tC v)) (r : ∀ H ι, Rep S H ι v t) : PV X S W e (cK t) :=
  PE.weak h fun σ H Q ⟨ρ, ι, μ, he, hs, h⟩ => Pst.now h hs (r H ι)
theorem pv_int {i : Int} {j : Nat} : PV X S W (.Constant (.int i) j pos) (cK (.int i)) := pv_con pe_int fun _ _ => .int i
theorem pv_bl {i : Bool} {j : Nat} : PV X S W (.Constant (.bool i) j pos) (cK (.bl i)) := pv_con pe_bl fun _ _ => .bl i
theorem pv_non {j : Nat} : PV X S W (.Constant .none j pos) (cK .non) := pv_con pe_non fun _ _ => .non
theorem pv_str {i : Str} {j : Nat} : PV X S W (.Constant (.str i) j pos) (cK (.str i)) := pv_con pe_str fun _ _ => .str i

/-! ### arguments, displays -/
theorem pva_nil : PVa X S W [] aNil := PA.weak pa_nil fun σ H Q ⟨ρ, ι, μ, he, hs, h⟩ => Pst.now h hs .nil
theorem pva_cons {e : Expr} {es : List Expr} {f : Env → M T} {g : Env → M (List T)} (he : PV X S W e f) (hr : PVa X S W es g) (hst : starEach (e :: es) X.env = (false, eval e X.env) :: starEach es X.env) : PVa X S W (e :: es) (aCons f g) :=
  PA.weak (pa_cons he hr hst) fun σ H Q ⟨ρ, ι, μ, he, hs, h⟩ =>
    ev_then he hs h fun x H1 ι1 μ1 t he1 hs1 f1 r1 h1 => av_then he1 hs1 h1 fun xs H2 ι2 μ2 ts he2 hs2 f2 r2 h2 => Pst.now h2 hs2 (.cons (r1.fut f2) r2)
def mSeq (x : T) : M (List T) := fun μ => match seqOf x μ with
  | some xs => .ok xs μ
  | none => .bad
theorem mSeq_some {x : T} {μ : Store} {xs : List T} (h : seqOf x μ = some xs) : mSeq x μ = .ok xs μ := by unfold mSeq; rw [h]
theorem mSeq_none {x : T} {μ : Store} (h : seqOf x μ = none) : mSeq x μ = .bad := by unfold mSeq; rw [h]
def aStar (a : Env → M T) (r : Env → M (List T)) : Env → M (List T) := fun ρ => bnd (a ρ) fun x => bnd (mSeq x) fun xs => bnd (r ρ) fun ys => ret (xs ++ ys)
theorem pva_star {e : Expr} {es : List Expr} {f : Env → M T} {g : Env → M (List T)} {p : Pos} (hK : X.K = S.K) (he : PV X S W e f) (hr : PVa X S W es g) : PVa X S W (.Starred e p :: es) (aStar f g) :=
  PA.weak (StX.pa_star he hr rfl) fun σ H Q ⟨ρ, ι, μ, he, hs, h⟩ =>
    ev_then he hs h fun x H1 ι1 μ1 t he1 hs1 f1 r1 h1 => by
      cases e : seqOf t μ1 with
      | none =>
        unfold bnd at h1
        rw [mSeq_none e] at h1
        exact h1.elim
      | some ts =>
        unfold bnd at h1
        rw [mSeq_some e] at h1
        obtain ⟨a, vs, rfl, q, rs⟩ := seq_read e hs1 r1
        refine ⟨a, vs, rfl, ?_, ?_⟩
        · rw [hK]
          exact q
        · exact av_then (k := fun ys => ret (ts ++ ys)) he1 hs1 h1 fun xs H2 ι2 μ2 us he2 hs2 f2 r2 h2 => Pst.now h2 hs2 ((rs.fut f2).append r2)
/-- (..), [..] -/
def mTup (ts : List T) : M T := if ts.length ≤ lim then ret (.tup ts) else bad
def mLst (ts : List T) : M T := if ts.length ≤ lim then ret (.lst ts) else bad
/-- a list that is changed later on -/
def mNew (ts : List T) : M T := if ts.length ≤ lim then fun μ => .ok (.obj μ.length) (μ ++ [some (.lst ts)]) else bad
theorem pv_tup {es : List Expr} {f : Env → M (List T)} {k : Nat} (h : PVa X S W es f) : PV X S W (.Tuple es k pos) (cN mTup f) :=
  PE.weak (pe_tup h) fun σ H Q ⟨ρ, ι, μ, he, hs, h⟩ => av_then he hs h fun vs H1 ι1 μ1 ts he1 hs1 f1 r1 h1 => by
    unfold mTup at h1
    split at h1
    · rename_i hl
      exact ⟨by rw [r1.length, lim_eq]; exact hl, fun p hp => Pst.new h1 hs1 hp (Rep.newT hs1 hp r1)⟩
    · exact h1.elim
theorem pv_lst {es : List Expr} {f : Env → M (List T)} (h : PVa X S W es f) : PV X S W (.List es pos) (cN mLst f) :=
  PE.weak (pe_lst h) fun σ H Q ⟨ρ, ι, μ, he, hs, h⟩ => av_then he hs h fun vs H1 ι1 μ1 ts he1 hs1 f1 r1 h1 => by
    unfold mLst at h1
    split at h1
    · rename_i hl
      exact ⟨by rw [r1.length, lim_eq]; exact hl, fun p hp => Pst.new h1 hs1 hp (Rep.newL hs1 hp r1)⟩
    · exact h1.elim
theorem Pst.newM {a : T} {b : V} {μ : Store} {Q : VK} {p : Addr} {o : HO} {m : MO} {σ : L2.St} {H : Hp} {ι : Ids} (h : Pst S W σ H ι (Rep S) (.ok (.obj μ.length) (μ ++ [some m])) Q) (s : StRep S H ι μ) (hp : H p = none)
    (r : RepM S (upd H p o) (ι.snoc p) (μ ++ [some m]) μ.length p m) : Q (.ref p) (upd H p o) :=
  h (.ref p) _ _ (Fut.newM s.tk hp) (s.newM hp r) (.obj (by show (ι.l ++ [some p])[μ.length]? = _; rw [← s.len, List.getElem?_append_right (Nat.le_refl _), Nat.sub_self]; rfl))
theorem pv_new {es : List Expr} {f : Env → M (List T)} (h : PVa X S W es f) : PV X S W (.List es pos) (cN mNew f) :=
  PE.weak (pe_lst h) fun σ H Q ⟨ρ, ι, μ, he, hs, h⟩ => av_then he hs h fun vs H1 ι1 μ1 ts he1 hs1 f1 r1 h1 => by
    unfold mNew at h1
    split at h1
    · rename_i hl
      exact ⟨by rw [r1.length, lim_eq]; exact hl, fun p hp => Pst.newM (a := .non) (b := .non) h1 hs1 hp ⟨vs, upd_same, r1.fut (Fut.newM hs1.tk hp)⟩⟩
    · exact h1.elim

/-! ### operators -/
def OpT (S : Sta) (g : T → T → M T) (r : R2) : Prop := ∀ (W : WX) (σ : L2.St) (H : Hp) (ι : Ids) (μ : Store) (x y : V) (tx ty : T) (Q : VK), StRep S H ι μ → Rep S H ι x tx → Rep S H ι y ty → Pst S W σ H ι (Rep S) (g tx ty μ) Q → r x y H Q
theorem tOp_of {r : R2} {g : T → T → M T} (hg : OpT S g r) {σ : L2.St} {H : Hp} {Q : VK} (h : tEv S W (c2 g fa fb) σ H Q) : tOp r (tEv S W fa) (tEv S W fb) σ H Q := by
  obtain ⟨ρ, ι, μ, he, hs, h⟩ := h
  exact ev_then he hs h fun x H1 ι1 μ1 t he1 hs1 f1 r1 h1 => ev_then he1 hs1 h1 fun y H2 ι2 μ2 u he2 hs2 f2 r2 h2 => hg W σ H2 ι2 μ2 x y t u Q hs2 (r1.fut f2) r2 h2
theorem pv_op {op : Operator} {r : R2} {g : T → T → M T} (ho : OpR X (binaryOp op) r) (hg : OpT S g r) (ha : PV X S W a fa) (hb : PV X S W b fb) : PV X S W (.BinOp a op b pos) (c2 g fa fb) :=
  PE.weak (pe_op ho ha hb) fun σ H Q h => tOp_of hg h
theorem pv_cmp {op : CmpOp} {r : R2} {g : T → T → M T} (ho : OpR X (compareOp op) r) (hg : OpT S g r) (ha : PV X S W a fa) (hb : PV X S W b fb) (hm : behindInMarks op b = false) : PV X S W (.Compare a [op] [b] pos) (c2 g fa fb) :=
  PE.weak (pe_cmpR ho ha hb hm) fun σ H Q h => tOp_of hg h
/-- a test of a value that is a bool -/
theorem tTest_of {σ : L2.St} {H : Hp} {Q : Bool → Hp → Prop} (h : tTv S W (cTest fa) σ H Q) : tEv S W fa σ H fun x H' => ∃ k, x = .bl k ∧ Q k H' := by
  obtain ⟨ρ, ι, μ, he, hs, h⟩ := h
  refine ev_then he hs h fun x H1 ι1 μ1 t he1 hs1 f1 r1 h1 => ?_
  cases r1 <;> first
    | exact h1.elim
    | exact ⟨_, rfl, Pst.now h1 hs1 rfl⟩
theorem pvt_cmp {op : CmpOp} {r : R2} {g : T → T → M T} (ho : OpR X (compareOp op) r) (hg : OpT S g r) (ha : PV X S W a fa) (hb : PV X S W b fb) (hm : behindInMarks op b = false) : PVt X S W (.Compare a [op] [b] pos) (cTest (c2 g fa fb)) :=
  PT.weak (pt_cmpR ho ha hb hm) fun σ H Q h => tOp_of hg (tTest_of h)

theorem opT_ints {C : Int → Int → Prop} {g : Int → Int → Int} {f : Int → Int → M T} (hf : ∀ i j μ, (∃ h : C i j, f i j μ = .ok (.int (g i j)) μ) ∨ f i j μ = .bad) :
    OpT S (fun x y => match x, y with | .int i, .int j => f i j | _, _ => bad) (rI C fun i j => .int (g i j)) := by
  intro W σ H ι μ x y tx ty Q hs rx ry h
  cases rx <;> first | exact h.elim | skip
  cases ry <;> first | exact h.elim | skip
  rename_i i j
  dsimp only at h
  rcases hf i j μ with ⟨hc, e⟩ | e
  · rw [e] at h
    exact ⟨i, j, rfl, rfl, hc, Pst.now h hs (.int _)⟩
  · rw [e] at h
    exact h.elim
end
end Tw

/-! Tw4: operators over trees -/
namespace Tw
open PySem L2

section
variable {S : Sta} {X : Cx}
/-! ### arithmetic -/
def gAdd (x y : T) : M T := match x, y with
  | .int i, .int j => ret (.int (i + j))
  | .str a, .str b => if a.length + b.length ≤ lim then ret (.str (a ++ b)) else bad
  | .tup a, .tup b => if a.length + b.length ≤ lim then ret (.tup (a ++ b)) else bad
  | x, y => fun μ => match lstOf x μ, lstOf y μ with
    | some a, some b => if a.length + b.length ≤ lim then .ok (.lst (a ++ b)) μ else .bad
    | _, _ => .bad
theorem Inv.lstR {pins : List (Addr × Obj)} {σ : L2.St} {H : Hp} {s : Shared} {l : Addr} {xs : List V} (I : Inv X pins σ H s) (hH : Rd H l (.lst xs)) : xs.length ≤ sizeLine ∧ ∃ (its : List Value) (n : Nat), Vals xs its ∧ xs.length = its.length ∧ s.heap.get? l = some { cls := .type "list", data := .seq its.toArray n } := by
  obtain ⟨z, its, n, r, e⟩ := hH.ok I.hok
  exact ⟨z, its, n, r, r.length, e⟩
def rCatR : R2 := fun x y H Q => ∃ l b xs zs, x = .ref l ∧ y = .ref b ∧ Rd H l (.lst xs) ∧ Rd H b (.lst zs) ∧ xs.length + zs.length ≤ sizeLine ∧ ∀ p, H p = none → Q (.ref p) (upd H p (.lst (xs ++ zs)))
theorem op_catR : OpR X (binaryOp .Add) rCatR := by
  intro pins s σ H x y v u Q I rx ry h
  obtain ⟨l, b, xs, zs, rfl, rfl, hH, hB, hz, q⟩ := h
  cases rx
  cases ry
  obtain ⟨z, its, n, r, hl, e⟩ := Inv.lstR I hH
  obtain ⟨z2, its2, n2, r2, hl2, e2⟩ := Inv.lstR I hB
  refine PySem.P.add_list e e2 ?_ (by rw [List.size_toArray, List.size_toArray]; omega)
  have ea : its.toArray ++ its2.toArray = (its ++ its2).toArray := by simp
  rw [ea]
  exact ⟨.ref _, _, I.lnew (t' := s.toks) (r.append r2) (by rw [List.length_append]; omega), rfl, q _ I.fresh⟩
def rStrCat : R2 := fun x y H Q => ∃ i j, x = .str i ∧ y = .str j ∧ i.length + j.length ≤ sizeLine ∧ Q (.str (i ++ j)) H
def rAddAll (K : PySem.W.Frag) : R2 := fun x y H Q => rI0 (fun i j => .int (i + j)) x y H Q ∨ rStrCat x y H Q ∨ rCatA K x y H Q ∨ rCatR x y H Q
theorem op_addAll : OpR X (binaryOp .Add) (rAddAll X.K) := op_add.or (OpR.or op_add_str (OpR.or op_catA op_catR))
theorem opT_add : OpT S gAdd (rAddAll S.K) := by
  intro W σ H ι μ x y tx ty Q hs rx ry h
  unfold gAdd at h
  split at h
  · cases rx; cases ry
    exact .inl ⟨_, _, rfl, rfl, Pst.now h hs (.int _)⟩
  · cases rx; cases ry
    split at h
    · rename_i hl
      exact .inr (.inl ⟨_, _, rfl, rfl, by rw [lim_eq]; exact hl, Pst.now h hs (.str _)⟩)
    · exact h.elim
  · split at h
    · rename_i hl
      cases rx with
      | @tup a vs ts hx qx =>
        cases ry with
        | @tup b ws us hy qy =>
          refine .inr (.inr (.inl ⟨a, b, vs, ws, rfl, rfl, hx.sq, hy.sq, by rw [qx.length, qy.length, lim_eq]; exact hl, fun e => ?_, fun e1 e2 => ?_, fun _ _ p hp => ?_⟩))
          · subst e
            cases qx
            exact Pst.now h hs (.tup hy qy)
          · subst e2
            cases qy
            rw [List.append_nil] at h
            exact Pst.now h hs (.tup hx qx)
          · exact Pst.new h hs hp (Rep.newT hs hp (qx.append qy))
    · exact h.elim
  · dsimp only at h
    split at h
    · rename_i e1 e2
      split at h
      · rename_i hl
        obtain ⟨a, vs, rfl, hx, qx⟩ := lst_read e1 hs rx
        obtain ⟨b, ws, rfl, hy, qy⟩ := lst_read e2 hs ry
        exact .inr (.inr (.inr ⟨a, b, vs, ws, rfl, rfl, hx, hy, by rw [qx.length, qy.length, lim_eq]; exact hl, fun p hp => Pst.new h hs hp (Rep.newL hs hp (qx.append qy))⟩))
      · exact h.elim
    · exact h.elim

def gSub (x y : T) : M T := match x, y with
  | .int i, .int j => ret (.int (i - j))
  | _, _ => bad
theorem opT_sub : OpT S gSub (rI0 fun i j => .int (i - j)) := by
  intro W σ H ι μ x y tx ty Q hs rx ry h
  unfold gSub at h
  split at h
  · cases rx; cases ry
    exact ⟨_, _, rfl, rfl, Pst.now h hs (.int _)⟩
  · exact h.elim
/-- ints (one of them within 2 ^ 64), a list or a tuple some times -/
def cMulB (i j : Int) : Bool := (decide (-(2 ^ 64) < i) && decide (i < 2 ^ 64)) || (decide (-(2 ^ 64) < j) && decide (j < 2 ^ 64))
def gMul (x y : T) : M T := match x, y with
  | .int i, .int j => if cMulB i j then ret (.int (i * j)) else bad
  | .lst ts, .int k => if decide (-(2 ^ 63) ≤ k) && decide (k < 2 ^ 63) && decide (ts.length * k.toNat ≤ lim) then ret (.lst (List.replicate k.toNat ts).flatten) else bad
  | .tup ts, .int k => if !ts.isEmpty && decide (2 ≤ k) && decide (k ≤ 1000) && decide (ts.length ≤ 1000) then ret (.tup (List.replicate k.toNat ts).flatten) else bad
  | _, _ => bad
def rRepR : R2 := fun x y H Q => ∃ l k xs, x = .ref l ∧ y = .int k ∧ H l = some (.lst xs) ∧ -(2 ^ 63) ≤ k ∧ k < 2 ^ 63 ∧ xs.length * k.toNat ≤ sizeLine ∧
  ∀ p, H p = none → Q (.ref p) (upd H p (.lst (List.replicate k.toNat xs).flatten))
theorem Reps.rep {H : Hp} {ι : Ids} {vs : List V} {ts : List T} (h : Reps S H ι vs ts) : ∀ k : Nat, Reps S H ι (List.replicate k vs).flatten (List.replicate k ts).flatten
  | 0 => .nil
  | k + 1 => by
    rw [List.replicate_succ, List.replicate_succ, List.flatten_cons, List.flatten_cons]
    exact h.append (h.rep k)
def gFdiv (x y : T) : M T := match x, y with
  | .int i, .int j => if decide (0 < j) && decide (j < 1073741824) then ret (.int (i / j)) else bad
  | _, _ => bad
theorem opT_fdiv : OpT S gFdiv (rI CDiv fun i j => .int (i / j)) := by
  intro W σ H ι μ x y tx ty Q hs rx ry h
  unfold gFdiv at h
  split at h
  · cases rx; cases ry
    split at h
    · rename_i hc
      rw [Bool.and_eq_true, decide_eq_true_eq, decide_eq_true_eq] at hc
      exact ⟨_, _, rfl, rfl, hc, Pst.now h hs (.int _)⟩
    · exact h.elim
  · exact h.elim
def gMod (x y : T) : M T := match x, y with
  | .int i, .int j => if decide (0 < j) then ret (.int (i % j)) else bad
  | _, _ => bad
theorem opT_mod : OpT S gMod (rI (fun _ j => 0 < j) fun i j => .int (i % j)) := by
  intro W σ H ι μ x y tx ty Q hs rx ry h
  unfold gMod at h
  split at h
  · cases rx; cases ry
    split at h
    · rename_i hc
      exact ⟨_, _, rfl, rfl, of_decide_eq_true hc, Pst.now h hs (.int _)⟩
    · exact h.elim
  · exact h.elim
def gPow (x y : T) : M T := match x, y with
  | .int i, .int j => if decide (0 ≤ j) && decide (j ≤ 1000000) && decide (i.natAbs < 2 ^ 64) then ret (.int (i ^ j.toNat)) else bad
  | _, _ => bad
theorem opT_pow : OpT S gPow (rI CPow fun i j => .int (i ^ j.toNat)) := by
  intro W σ H ι μ x y tx ty Q hs rx ry h
  unfold gPow at h
  split at h
  · cases rx; cases ry
    split at h
    · rename_i hc
      rw [Bool.and_eq_true, Bool.and_eq_true, decide_eq_true_eq, decide_eq_true_eq, decide_eq_true_eq] at hc
      exact ⟨_, _, rfl, rfl, ⟨hc.1.1, hc.1.2, hc.2⟩, Pst.now h hs (.int _)⟩
    · exact h.elim
  · exact h.elim

/-! ### order -/
def gCmpI (p : Int → Int → Bool) (x y : T) : M T := match x, y with
  | .int i, .int j => ret (.bl (p i j))
  | _, _ => bad
theorem opT_cmpI {p : Int → Int → Bool} : OpT S (gCmpI p) (rI0 fun i j => .bl (p i j)) := by
  intro W σ H ι μ x y tx ty Q hs rx ry h
  unfold gCmpI at h
  split at h
  · cases rx; cases ry
    exact ⟨_, _, rfl, rfl, Pst.now h hs (.bl _)⟩
  · exact h.elim

/-! ### None -/
def isNon : T → Option Bool
  | .non => some true
  | .obj _ => none
  | _ => some false
def gIs (x y : T) : M T := match y with
  | .non => match isNon x with
    | some b => ret (.bl b)
    | none => bad
  | _ => bad
def gIsNot (x y : T) : M T := match y with
  | .non => match isNon x with
    | some b => ret (.bl (!b))
    | none => bad
  | _ => bad
theorem isNon_of {H : Hp} {ι : Ids} {x : V} {t : T} {b : Bool} (e : isNon t = some b) (r : Rep S H ι x t) : decide (x = .non) = b := by
  cases r <;> first | (cases e; done) | (cases e; simp)
theorem opT_is : OpT S gIs (fun x y H Q => y = .non ∧ Q (.bl (decide (x = .non))) H) := by
  intro W σ H ι μ x y tx ty Q hs rx ry h
  unfold gIs at h
  split at h
  · cases ry
    cases e : isNon tx with
    | some b =>
      rw [e] at h
      rw [isNon_of e rx]
      exact ⟨rfl, Pst.now h hs (.bl _)⟩
    | none => rw [e] at h; exact h.elim
  · exact h.elim
theorem opT_isNot : OpT S gIsNot (fun x y H Q => y = .non ∧ Q (.bl (!decide (x = .non))) H) := by
  intro W σ H ι μ x y tx ty Q hs rx ry h
  unfold gIsNot at h
  split at h
  · cases ry
    cases e : isNon tx with
    | some b =>
      rw [e] at h
      rw [isNon_of e rx]
      exact ⟨rfl, Pst.now h hs (.bl _)⟩
    | none => rw [e] at h; exact h.elim
  · exact h.elim

/-! ### equality of data -/
mutual
def pd : T → Option PyData
  | .non => some .none
  | .bl b => some (.bool b)
  | .int i => some (.int i)
  | .str x => some (.str x)
  | .tup ts => (pds ts).map .tuple
  | .lst ts => (pds ts).map .list
  | _ => none
def pds : List T → Option (List PyData)
  | [] => some []
  | t :: ts => match pd t, pds ts with
    | some d, some ds => some (d :: ds)
    | _, _ => none
end
mutual
theorem pd_dp {H : Hp} {ι : Ids} : ∀ {t : T} {v : V} {d : PyData}, pd t = some d → Rep S H ι v t → Dp S.K H v d
  | .non, _, _, e, r => by simp only [pd] at e; cases e; cases r; exact .non
  | .bl _, _, _, e, r => by simp only [pd] at e; cases e; cases r; exact .bl _
  | .int _, _, _, e, r => by simp only [pd] at e; cases e; cases r; exact .int _
  | .str _, _, _, e, r => by simp only [pd] at e; cases e; cases r; exact .str _
  | .tup ts, _, _, e, r => by
    simp only [pd, Option.map_eq_some_iff] at e
    obtain ⟨ds, e, rfl⟩ := e
    cases r with
    | tup h q => exact .tup h.sq (pds_dp e q)
  | .lst ts, _, _, e, r => by
    simp only [pd, Option.map_eq_some_iff] at e
    obtain ⟨ds, e, rfl⟩ := e
    cases r with
    | lst h q => exact .lst h.sq (pds_dp e q)
  | .ty _, _, _, e, _ => by simp only [pd] at e; cases e
  | .cls _, _, _, e, _ => by simp only [pd] at e; cases e
  | .fn _, _, _, e, _ => by simp only [pd] at e; cases e
  | .dic _ _, _, _, e, _ => by simp only [pd] at e; cases e
  | .ins _ _, _, _, e, _ => by simp only [pd] at e; cases e
  | .obj _, _, _, e, _ => by simp only [pd] at e; cases e
  | .scr _, _, _, e, _ => by simp only [pd] at e; cases e
theorem pds_dp {H : Hp} {ι : Ids} : ∀ {ts : List T} {vs : List V} {ds : List PyData}, pds ts = some ds → Reps S H ι vs ts → DpAll S.K H vs ds
  | [], _, _, e, r => by simp only [pds] at e; cases e; cases r; exact .nil
  | t :: ts, _, _, e, r => by
    simp only [pds] at e
    split at e
    · rename_i d ds e1 e2
      cases e
      cases r with
      | cons h q => exact .cons (pd_dp e1 h) (pds_dp e2 q)
    · cases e
end
/-- the data, a list of the store read -/
def pdOf (t : T) (μ : Store) : Option PyData := match t with
  | .obj n => match μ[n]? with
    | some (some (.lst ts)) => (pds ts).map .list
    | _ => none
  | t => pd t
theorem pdOf_dp {H : Hp} {ι : Ids} {μ : Store} {t : T} {v : V} {d : PyData} (e : pdOf t μ = some d) (s : StRep S H ι μ) (r : Rep S H ι v t) : Dp S.K H v d := by
  cases t with
  | obj n =>
    have e' : (match μ[n]? with | some (some (MO.lst ts)) => (pds ts).map PyData.list | _ => none) = some d := e
    split at e'
    · rename_i us hm
      obtain ⟨ds, e2, rfl⟩ := Option.map_eq_some_iff.mp e'
      obtain ⟨a, rfl, _, vs, h, q⟩ := s.at hm r
      exact .lst (.inl (.inl h)) (pds_dp e2 q)
    · cases e'
  | _ => exact pd_dp e r
def gEqD (neg : Bool) (x y : T) : M T := fun μ => match pdOf x μ, pdOf y μ with
  | some d, some e => if SeqAt.shaped d && SeqAt.shaped e then .ok (.bl (if neg then !PyData.eqv d e else PyData.eqv d e)) μ else .bad
  | _, _ => .bad
theorem opT_eq : OpT S (gEqD false) (rEqD S.K) := by
  intro W σ H ι μ x y tx ty Q hs rx ry h
  unfold gEqD at h
  split at h
  · rename_i d e e1 e2
    split at h
    · rename_i hc
      rw [Bool.and_eq_true] at hc
      exact ⟨d, e, pdOf_dp e1 hs rx, pdOf_dp e2 hs ry, hc.1, hc.2, Pst.now h hs (.bl _)⟩
    · exact h.elim
  · exact h.elim
theorem opT_ne : OpT S (gEqD true) (rNeD S.K) := by
  intro W σ H ι μ x y tx ty Q hs rx ry h
  unfold gEqD at h
  split at h
  · rename_i d e e1 e2
    split at h
    · rename_i hc
      rw [Bool.and_eq_true] at hc
      exact ⟨d, e, pdOf_dp e1 hs rx, pdOf_dp e2 hs ry, hc.1, hc.2, Pst.now h hs (.bl _)⟩
    · exact h.elim
  · exact h.elim

/-! ### order of data -/
def notN : PyData → Bool
  | .none => false
  | _ => true
def gCmpD (bt : PyData → PyData → Bool) (x y : T) : M T := fun μ => match pdOf x μ, pdOf y μ with
  | some d, some e => if PySem.W.alike d e && notN d && decide (min d.depth e.depth ≤ 64) then .ok (.bl (bt d e)) μ else .bad
  | _, _ => .bad
def rCmpD (K : PySem.W.Frag) (bt : PyData → PyData → Bool) : R2 := fun x y H Q => ∃ d e, Dp K H x d ∧ Dp K H y e ∧ PySem.W.alike d e = true ∧ d ≠ .none ∧ min d.depth e.depth ≤ 64 ∧ Q (.bl (bt d e)) H
theorem opT_cmpD {bt : PyData → PyData → Bool} : OpT S (gCmpD bt) (rCmpD S.K bt) := by
  intro W σ H ι μ x y tx ty Q hs rx ry h
  unfold gCmpD at h
  split at h
  · rename_i d e e1 e2
    split at h
    · rename_i hc
      rw [Bool.and_eq_true, Bool.and_eq_true, decide_eq_true_eq] at hc
      exact ⟨d, e, pdOf_dp e1 hs rx, pdOf_dp e2 hs ry, hc.1.1, (fun z => by rw [z] at hc; exact absurd hc.1.2 (by decide)), hc.2, Pst.now h hs (.bl _)⟩
    · exact h.elim
  · exact h.elim
theorem op_ltD (hu : X.A.units + 64 < cLine) : OpR X (compareOp .Lt) (rCmpD X.K fun d e => PySem.W.dataLt d e) := by
  intro pins s σ H x y v u Q I rx ry h
  obtain ⟨d, e, hd, he, ha, hn, hz, q⟩ := h
  obtain ⟨_, r1⟩ := Dp.reads I d x v hd rx
  obtain ⟨_, r2⟩ := Dp.reads I e y u he ry
  exact PySem.W.lt_data r1 r2 ha hn (by omega) ⟨.bl _, H, I, rfl, q⟩
theorem op_gtD (hu : X.A.units + 64 < cLine) : OpR X (compareOp .Gt) (rCmpD X.K fun d e => PySem.W.dataLt e d) := by
  intro pins s σ H x y v u Q I rx ry h
  obtain ⟨d, e, hd, he, ha, hn, hz, q⟩ := h
  obtain ⟨_, r1⟩ := Dp.reads I d x v hd rx
  obtain ⟨_, r2⟩ := Dp.reads I e y u he ry
  exact PySem.W.gt_data r1 r2 ha hn (by omega) ⟨.bl _, H, I, rfl, q⟩
theorem op_leD (hu : X.A.units + 64 < cLine) : OpR X (compareOp .LtE) (rCmpD X.K fun d e => !PySem.W.dataLt e d) := by
  intro pins s σ H x y v u Q I rx ry h
  obtain ⟨d, e, hd, he, ha, hn, hz, q⟩ := h
  obtain ⟨_, r1⟩ := Dp.reads I d x v hd rx
  obtain ⟨_, r2⟩ := Dp.reads I e y u he ry
  exact PySem.W.le_data r1 r2 ha hn (by omega) ⟨.bl _, H, I, rfl, q⟩
theorem op_geD (hu : X.A.units + 64 < cLine) : OpR X (compareOp .GtE) (rCmpD X.K fun d e => !PySem.W.dataLt d e) := by
  intro pins s σ H x y v u Q I rx ry h
  obtain ⟨d, e, hd, he, ha, hn, hz, q⟩ := h
  obtain ⟨_, r1⟩ := Dp.reads I d x v hd rx
  obtain ⟨_, r2⟩ := Dp.reads I e y u he ry
  exact PySem.W.ge_data r1 r2 ha hn (by omega) ⟨.bl _, H, I, rfl, q⟩
/-- ints, else data -/
def gCmpA (p : Int → Int → Bool) (bt : PyData → PyData → Bool) (x y : T) : M T := match x, y with
  | .int i, .int j => ret (.bl (p i j))
  | x, y => gCmpD bt x y
theorem opT_cmpA {p : Int → Int → Bool} {bt : PyData → PyData → Bool} : OpT S (gCmpA p bt) (fun x y H Q => rI0 (fun i j => .bl (p i j)) x y H Q ∨ rCmpD S.K bt x y H Q) := by
  intro W σ H ι μ x y tx ty Q hs rx ry h
  unfold gCmpA at h
  split at h
  · cases rx; cases ry
    exact .inl ⟨_, _, rfl, rfl, Pst.now h hs (.bl _)⟩
  · exact .inr (opT_cmpD W σ H ι μ x y tx ty Q hs rx ry h)
def gLt : T → T → M T := gCmpA (fun i j => decide (i < j)) fun d e => PySem.W.dataLt d e
def gLe : T → T → M T := gCmpA (fun i j => decide (i ≤ j)) fun d e => !PySem.W.dataLt e d
def gGt : T → T → M T := gCmpA (fun i j => decide (j < i)) fun d e => PySem.W.dataLt e d
def gGe : T → T → M T := gCmpA (fun i j => decide (j ≤ i)) fun d e => !PySem.W.dataLt d e

/-! ### in, not in: flat items -/
def flatT : T → Option V
  | .non => some .non
  | .bl b => some (.bl b)
  | .int i => some (.int i)
  | .str x => some (.str x)
  | _ => none
theorem flatT_of {H : Hp} {ι : Ids} {v w : V} {t : T} (e : flatT t = some w) (r : Rep S H ι v t) : v = w := by
  cases r <;> first | (cases e; done) | (cases e; rfl)
def flatsT : List T → Option (List V)
  | [] => some []
  | t :: ts => match flatT t, flatsT ts with
    | some v, some vs => some (v :: vs)
    | _, _ => none
theorem flatsT_of {H : Hp} {ι : Ids} : ∀ {ts : List T} {vs ws : List V}, flatsT ts = some ws → Reps S H ι vs ts → vs = ws
  | [], _, _, e, r => by cases e; cases r; rfl
  | t :: ts, _, _, e, r => by
    unfold flatsT at e
    split at e
    · rename_i v vs e1 e2
      cases e
      cases r with
      | cons h q => rw [flatT_of e1 h, flatsT_of e2 q]
    · cases e
def gInS (neg : Bool) (x y : T) : M T := fun μ => match flatT x, (seqOf y μ).bind flatsT with
  | some v, some vs => if flatV v && vs.all flatV then .ok (.bl (if neg then !inV v vs else inV v vs)) μ else .bad
  | _, _ => .bad
theorem opT_inS (neg : Bool) : OpT S (gInS neg) (rIn S.K neg) := by
  intro W σ H ι μ x y tx ty Q hs rx ry h
  unfold gInS at h
  split at h
  · rename_i v vs e1 e2
    split at h
    · rename_i hc
      rw [Bool.and_eq_true] at hc
      obtain ⟨ts, e3, e4⟩ := Option.bind_eq_some_iff.mp e2
      obtain ⟨a, ws, rfl, q, rs⟩ := seq_read e3 hs ry
      have := flatsT_of e4 rs
      subst this
      have := flatT_of e1 rx
      subst this
      exact ⟨a, ws, rfl, q.symm, hc.1, hc.2, Pst.now h hs (.bl _)⟩
    · exact h.elim
  · exact h.elim
end
end Tw

/-! Tw5: truth, tests, subscripts, calls of built-ins -/
namespace Tw
open PySem L2

/-! ### truth -/
def truT (t : T) (μ : Store) : Option Bool := match t with
  | .non => some false
  | .bl b => some b
  | .int i => some (i != 0)
  | .str y => if y.length ≤ lim then some ((y.length : Int) != 0) else none
  | t => (seqOf t μ).map fun ts => !ts.isEmpty
def mTru (t : T) : M Bool := fun μ => match truT t μ with
  | some b => .ok b μ
  | none => .bad
theorem isEmpty_reps {S : Sta} {H : Hp} {ι : Ids} {vs : List V} {ts : List T} (r : Reps S H ι vs ts) : ts.isEmpty = vs.isEmpty := by cases r <;> rfl
theorem truT_of {S : Sta} {H : Hp} {ι : Ids} {μ : Store} {t : T} {x : V} {b : Bool} (e : truT t μ = some b) (s : StRep S H ι μ) (r : Rep S H ι x t) : TruV S.K x H b := by
  have sq : ∀ {t : T}, (seqOf t μ).map (fun ts => !ts.isEmpty) = some b → Rep S H ι x t → TruV S.K x H b := fun {t} e r => by
    obtain ⟨ts, e1, e2⟩ := Option.map_eq_some_iff.mp e
    obtain ⟨a, vs, rfl, q, rs⟩ := seq_read e1 s r
    rw [isEmpty_reps rs] at e2
    rcases q with q | q
    · exact .inr (.inl ⟨vs, q, e2.symm⟩)
    · exact .inl ⟨vs, q, e2.symm⟩
  cases t with
  | non => cases r; cases e; rfl
  | bl c => cases r; cases e; rfl
  | int i => cases r; cases e; rfl
  | str y =>
    cases r
    unfold truT at e
    dsimp only at e
    split at e
    · rename_i hl
      cases e
      exact ⟨by rw [lim_eq]; exact hl, rfl⟩
    · cases e
  | ty n => exact sq (t := .ty n) e r
  | cls n => exact sq (t := .cls n) e r
  | fn n => exact sq (t := .fn n) e r
  | tup n => exact sq (t := .tup n) e r
  | lst n => exact sq (t := .lst n) e r
  | dic k n => exact sq (t := .dic k n) e r
  | ins k n => exact sq (t := .ins k n) e r
  | obj n => exact sq (t := .obj n) e r
  | scr n => exact sq (t := .scr n) e r

section
variable {X : Cx} {S : Sta} {W : WX} {a b c : Expr} {fa fb fc : Env → M T} {ft fu : Env → M Bool} {pos : Pos} {rest : List Expr}
def cTru (a : Env → M T) : Env → M Bool := fun ρ => bnd (a ρ) mTru
theorem mTru_some {t : T} {μ : Store} {b : Bool} (h : truT t μ = some b) : mTru t μ = .ok b μ := by unfold mTru; rw [h]
theorem mTru_none {t : T} {μ : Store} (h : truT t μ = none) : mTru t μ = .bad := by unfold mTru; rw [h]
theorem pvt_tru (hK : X.K = S.K) (ha : PV X S W a fa) (he : ∀ whole, isTrue a X.env whole = (do let v ← whole; standAt a.pos; holding [v] (truthy v))) : PVt X S W a (cTru fa) :=
  PT.weak (pt_truth ha he) fun σ H Q ⟨ρ, ι, μ, he, hs, h⟩ => ev_then he hs h fun x H1 ι1 μ1 t he1 hs1 f1 r1 h1 => by
    cases e : truT t μ1 with
    | none => rw [mTru_none e] at h1; exact h1.elim
    | some k =>
      rw [mTru_some e] at h1
      exact ⟨k, by rw [hK]; exact truT_of e hs1 r1, Pst.now h1 hs1 rfl⟩
/-- and, or, not as tests -/
theorem pvw_one {op : BoolOp} (ha : PVt X S W a ft) : PVw X S W (.BoolOp op [a] pos) ft := by
  cases op
  · exact pw_and1 ha
  · exact pw_or1 ha
theorem pvw_and (ha : PVt X S W a ft) (hb : PVw X S W (.BoolOp .And (b :: rest) pos) fu) : PVw X S W (.BoolOp .And (a :: b :: rest) pos) (cAnd ft fu) :=
  PW.weak (pw_and ha hb) fun σ H Q ⟨ρ, ι, μ, he, hs, h⟩ => tv_then he hs h fun x H1 ι1 μ1 he1 hs1 f1 h1 => by
    cases x with
    | true => exact iteT ⟨ρ, ι1, μ1, he1, hs1, h1⟩
    | false => exact iteF (Pst.now h1 hs1 rfl)
theorem pvw_or (ha : PVt X S W a ft) (hb : PVw X S W (.BoolOp .Or (b :: rest) pos) fu) : PVw X S W (.BoolOp .Or (a :: b :: rest) pos) (cOr ft fu) :=
  PW.weak (pw_or ha hb) fun σ H Q ⟨ρ, ι, μ, he, hs, h⟩ => tv_then he hs h fun x H1 ι1 μ1 he1 hs1 f1 h1 => by
    cases x with
    | false => exact iteF ⟨ρ, ι1, μ1, he1, hs1, h1⟩
    | true => exact iteT (Pst.now h1 hs1 rfl)
theorem pvt_not (ha : PVt X S W a ft) : PVt X S W (.UnaryOp .Not a pos) (cNot ft) :=
  PT.weak (pt_not ha) fun σ H Q ⟨ρ, ι, μ, he, hs, h⟩ => tv_then he hs h fun x H1 ι1 μ1 he1 hs1 f1 h1 => Pst.now h1 hs1 rfl
theorem pv_if (hc : PVt X S W c ft) (ha : PV X S W a fa) (hb : PV X S W b fb) : PV X S W (.IfExp c a b pos) (cIf ft fa fb) :=
  PE.weak (pe_ifExp hc ha hb) fun σ H Q ⟨ρ, ι, μ, he, hs, h⟩ => tv_then he hs h fun x H1 ι1 μ1 he1 hs1 f1 h1 => by
    cases x with
    | true => exact iteT ⟨ρ, ι1, μ1, he1, hs1, h1⟩
    | false => exact iteF ⟨ρ, ι1, μ1, he1, hs1, h1⟩
/-- .. as values, by truth -/
def cAndT (a b : Env → M T) : Env → M T := fun ρ => bnd (a ρ) fun x => bnd (mTru x) fun k => if k then b ρ else ret x
def cOrT (a b : Env → M T) : Env → M T := fun ρ => bnd (a ρ) fun x => bnd (mTru x) fun k => if k then ret x else b ρ
def cNotT (a : Env → M T) : Env → M T := fun ρ => bnd (a ρ) fun x => bnd (mTru x) fun k => ret (.bl (!k))
theorem bnd_ok {α β : Type} {m : M α} {k : α → M β} {μ μ' : Store} {a : α} (h : m μ = .ok a μ') : bnd m k μ = k a μ' := by unfold bnd; rw [h]
theorem bnd_bad {α β : Type} {m : M α} {k : α → M β} {μ : Store} (h : m μ = .bad) : bnd m k μ = .bad := by unfold bnd; rw [h]
theorem pv_andT (hK : X.K = S.K) (ha : PV X S W a fa) (hb : PV X S W (.BoolOp .And (b :: rest) pos) fb) : PV X S W (.BoolOp .And (a :: b :: rest) pos) (cAndT fa fb) :=
  PE.weak (pe_andT ha hb) fun σ H Q ⟨ρ, ι, μ, he, hs, h⟩ => ev_then he hs h fun x H1 ι1 μ1 t he1 hs1 f1 r1 h1 => by
    cases e : truT t μ1 with
    | none => rw [bnd_bad (mTru_none e)] at h1; exact h1.elim
    | some k =>
      rw [bnd_ok (mTru_some e)] at h1
      refine ⟨k, by rw [hK]; exact truT_of e hs1 r1, ?_⟩
      cases k with
      | true => exact iteT ⟨ρ, ι1, μ1, he1, hs1, h1⟩
      | false => exact iteF (Pst.now h1 hs1 r1)
theorem pv_orT (hK : X.K = S.K) (ha : PV X S W a fa) (hb : PV X S W (.BoolOp .Or (b :: rest) pos) fb) : PV X S W (.BoolOp .Or (a :: b :: rest) pos) (cOrT fa fb) :=
  PE.weak (pe_orT ha hb) fun σ H Q ⟨ρ, ι, μ, he, hs, h⟩ => ev_then he hs h fun x H1 ι1 μ1 t he1 hs1 f1 r1 h1 => by
    cases e : truT t μ1 with
    | none => rw [bnd_bad (mTru_none e)] at h1; exact h1.elim
    | some k =>
      rw [bnd_ok (mTru_some e)] at h1
      refine ⟨k, by rw [hK]; exact truT_of e hs1 r1, ?_⟩
      cases k with
      | false => exact iteF ⟨ρ, ι1, μ1, he1, hs1, h1⟩
      | true => exact iteT (Pst.now h1 hs1 r1)
theorem pv_notT (hK : X.K = S.K) (ha : PV X S W a fa) : PV X S W (.UnaryOp .Not a pos) (cNotT fa) :=
  PE.weak (pe_notT ha) fun σ H Q ⟨ρ, ι, μ, he, hs, h⟩ => ev_then he hs h fun x H1 ι1 μ1 t he1 hs1 f1 r1 h1 => by
    cases e : truT t μ1 with
    | none => rw [bnd_bad (mTru_none e)] at h1; exact h1.elim
    | some k =>
      rw [bnd_ok (mTru_some e)] at h1
      exact ⟨k, by rw [hK]; exact truT_of e hs1 r1, Pst.now h1 hs1 (.bl _)⟩
theorem pv_one {op : BoolOp} (ha : PV X S W a fa) : PV X S W (.BoolOp op [a] pos) fa := pe_one ha
def gNeg (x : T) : M T := match x with
  | .int i => ret (.int (-i))
  | _ => bad
theorem pv_neg (ha : PV X S W a fa) : PV X S W (.UnaryOp .USub a pos) (c1 gNeg fa) :=
  PE.weak (pe_un un_neg ha) fun σ H Q ⟨ρ, ι, μ, he, hs, h⟩ => ev_then he hs h fun x H1 ι1 μ1 t he1 hs1 f1 r1 h1 => by
    unfold gNeg at h1
    split at h1
    · cases r1
      exact ⟨_, rfl, Pst.now h1 hs1 (.int _)⟩
    · exact h1.elim
/-- a op b op c -/
def cChain (g g' : T → T → M T) (a b c : Env → M T) : Env → M T := fun ρ => bnd (a ρ) fun x => bnd (b ρ) fun y => bnd (g x y) fun z => match z with
  | .bl true => bnd (c ρ) fun w => g' y w
  | .bl false => ret (.bl false)
  | _ => bad
theorem tChain_of {r r' : R2} {g g' : T → T → M T} (hg : OpT S g r) (hg' : OpT S g' r') {σ : L2.St} {H : Hp} {Q : VK} (h : tEv S W (cChain g g' fa fb fc) σ H Q) : tChain r r' (tEv S W fa) (tEv S W fb) (tEv S W fc) σ H Q := by
  obtain ⟨ρ, ι, μ, he, hs, h⟩ := h
  refine ev_then he hs h fun x H1 ι1 μ1 t he1 hs1 f1 r1 h1 => ev_then he1 hs1 h1 fun y H2 ι2 μ2 u he2 hs2 f2 r2 h2 => ?_
  refine hg W σ H2 ι2 μ2 x y t u _ hs2 (r1.fut f2) r2 ((Pst.seq (rel := Rep S) h2).mono fun z H3 ⟨ι3, μ3, tz, f3, hs3, r3, h3⟩ => ?_)
  cases tz <;> first | exact h3.elim | skip
  rename_i k
  cases r3
  refine ⟨k, rfl, ?_⟩
  cases k with
  | true => exact iteT (ev_then (he2.fut f3) hs3 h3 fun w H4 ι4 μ4 tw he4 hs4 f4 r4 h4 => hg' W σ H4 ι4 μ4 y w u tw Q hs4 (r2.fut (f3.trans f4)) r4 h4)
  | false => exact iteF (Pst.now h3 hs3 (.bl _))
theorem pv_chain {op op' : CmpOp} {r r' : R2} {g g' : T → T → M T} (ho : OpR X (compareOp op) r) (ho' : OpR X (compareOp op') r') (hg : OpT S g r) (hg' : OpT S g' r') (ha : PV X S W a fa) (hb : PV X S W b fb) (hc : PV X S W c fc) (hm : lastMarks [op, op'] [b, c] = false) :
    PV X S W (.Compare a [op, op'] [b, c] pos) (cChain g g' fa fb fc) := PE.weak (pe_chain ho ho' ha hb hc hm) fun σ H Q h => tChain_of hg hg' h
theorem pvt_chain {op op' : CmpOp} {r r' : R2} {g g' : T → T → M T} (ho : OpR X (compareOp op) r) (ho' : OpR X (compareOp op') r') (hg : OpT S g r) (hg' : OpT S g' r') (ha : PV X S W a fa) (hb : PV X S W b fb) (hc : PV X S W c fc) (hm : lastMarks [op, op'] [b, c] = false) :
    PVt X S W (.Compare a [op, op'] [b, c] pos) (cTest (cChain g g' fa fb fc)) := PT.weak (pt_chain ho ho' ha hb hc hm) fun σ H Q h => tChain_of hg hg' (tTest_of h)

/-! ### subscripts -/
def gIx (x y : T) : M T := fun μ => match y with
  | .int i => match seqOf x μ with
    | some ts => match atI ts i with
      | some t => .ok t μ
      | none => .bad
    | none => .bad
  | _ => .bad
theorem atI_reps {H : Hp} {ι : Ids} {vs : List V} {ts : List T} {i : Int} {t : T} (r : Reps S H ι vs ts) (h : atI ts i = some t) : ∃ v, atI vs i = some v ∧ Rep S H ι v t := by
  unfold atI at h ⊢
  rw [r.length]
  obtain ⟨j, h1, h2⟩ := Option.bind_eq_some_iff.mp h
  obtain ⟨v, e, q⟩ := r.get h2
  exact ⟨v, by rw [h1]; exact e, q⟩
def rIxA (K : PySem.W.Frag) : R2 := fun x y H Q => rIxL K x y H Q ∨ rIxT K x y H Q
theorem ix_all : IxR X (rIxA X.K) := ix_list.or ix_tup
theorem opT_ix : OpT S gIx (rIxA S.K) := by
  intro W σ H ι μ x y tx ty Q hs rx ry h
  unfold gIx at h
  split at h
  · split at h
    · rename_i ts e
      split at h
      · rename_i t e2
        cases ry
        obtain ⟨a, vs, rfl, q, rs⟩ := seq_read e hs rx
        obtain ⟨v, e3, rv⟩ := atI_reps rs e2
        rcases q with q | q
        · exact .inr ⟨a, vs, _, v, rfl, rfl, q, e3, Pst.now h hs rv⟩
        · exact .inl ⟨a, vs, _, v, rfl, rfl, q, e3, Pst.now h hs rv⟩
      · exact h.elim
    · exact h.elim
  · exact h.elim
theorem pv_ix (hK : X.K = S.K) (ha : PV X S W a fa) (hb : PV X S W b fb) (hp : PlainIx b) : PV X S W (.Subscript a b pos) (c2 gIx fa fb) :=
  PE.weak (pe_ix ix_all ha hb hp) fun σ H Q h => by rw [hK]; exact tOp_of opT_ix h

/-! ### slices -/
def cutT (xs : List T) (lo hi : Option Int) : List T := (xs.drop (HT.sIx xs.length 0 lo)).take (HT.sIx xs.length xs.length hi - HT.sIx xs.length 0 lo)
theorem cut_reps {H : Hp} {ι : Ids} {vs : List V} {ts : List T} (r : Reps S H ι vs ts) (lo hi : Option Int) : Reps S H ι (cutV vs lo hi) (cutT ts lo hi) := by
  unfold cutV cutT
  rw [r.length]
  exact (r.drop _).take _
def oNone : Env → M (Option Int) := fun _ => ret none
def oSome (a : Env → M T) : Env → M (Option Int) := fun ρ => bnd (a ρ) fun x => match x with
  | .int i => ret (some i)
  | _ => bad
def tOv (S : Sta) (W : WX) (f : Env → M (Option Int)) : TO := fun σ H Q => ∃ ρ ι μ, RepE S H ι σ ρ ∧ StRep S H ι μ ∧ Pst S W σ H ι (fun _ _ b a => b = a) (f ρ μ) Q
theorem PO.weak {e : Option Expr} {t t' : TO} (h : PO X e t) (w : ∀ σ H Q, t' σ H Q → t σ H Q) : PO X e t' := ⟨fun pins s σ H Q I q => h.run pins s σ H Q I (w σ H Q q)⟩
theorem pvo_none : PO X none (tOv S W oNone) := PO.weak po_none fun σ H Q ⟨ρ, ι, μ, he, hs, h⟩ => Pst.now h hs rfl
theorem pvo_some (ha : PV X S W a fa) : PO X (some a) (tOv S W (oSome fa)) := PO.weak (po_some ha) fun σ H Q ⟨ρ, ι, μ, he, hs, h⟩ => ev_then he hs h fun x H1 ι1 μ1 t he1 hs1 f1 r1 h1 => by
  cases r1 <;> first | exact h1.elim | exact ⟨_, rfl, Pst.now h1 hs1 rfl⟩
theorem ov_then {γ δ : Type} {rel : Hp → Ids → δ → γ → Prop} {fo : Env → M (Option Int)} {k : Option Int → M γ} {ρ : Env} {σ : L2.St} {H : Hp} {ι : Ids} {μ : Store} {Q : δ → Hp → Prop} (he : RepE S H ι σ ρ) (hs : StRep S H ι μ) (h : Pst S W σ H ι rel (bnd (fo ρ) k μ) Q)
    {R : Option Int → Hp → Prop} (next : ∀ x H1 ι1 μ1, RepE S H1 ι1 σ ρ → StRep S H1 ι1 μ1 → Fut H ι H1 ι1 → Pst S W σ H1 ι1 rel (k x μ1) Q → R x H1) : tOv S W fo σ H R :=
  ⟨ρ, ι, μ, he, hs, (Pst.seq (rel := fun _ _ b a => b = a) h).mono fun x H1 ⟨ι1, μ1, t, f, s, r, q⟩ => by subst r; exact next x H1 ι1 μ1 (he.fut f) s f q⟩
def mCut (x : T) (lo hi : Option Int) : M T := fun μ => match x with
  | .tup ts => .ok (.tup (cutT ts lo hi)) μ
  | x => match lstOf x μ with
    | some ts => .ok (.lst (cutT ts lo hi)) μ
    | none => .bad
def cSlice (a : Env → M T) (lo hi : Env → M (Option Int)) : Env → M T := fun ρ => bnd (a ρ) fun x => bnd (lo ρ) fun l => bnd (hi ρ) fun h => mCut x l h
theorem whole_cut {ts : List T} {lo hi : Option Int} (h : HT.sIx ts.length 0 lo = 0 ∧ HT.sIx ts.length ts.length hi = ts.length) : cutT ts lo hi = ts := by
  unfold cutT
  rw [h.1, h.2]
  simp
def rSlAll (K : PySem.W.Frag) : V → Option Int → Option Int → Hp → VK → Prop := fun x lo hi H Q => rSlA K x lo hi H Q ∨ rSlL K x lo hi H Q
theorem sl_all : SlR X (rSlAll X.K) := SlR.or sl_tupA sl_list
theorem pv_slice {lo hi : Option Expr} {flo fhi : Env → M (Option Int)} {p2 : Pos} (hK : X.K = S.K) (ha : PV X S W a fa) (hl : PO X lo (tOv S W flo)) (hh : PO X hi (tOv S W fhi)) : PV X S W (.Subscript a (.Slice lo hi none p2) pos) (cSlice fa flo fhi) :=
  PE.weak (pe_slice sl_all ha hl hh) fun σ H Q ⟨ρ, ι, μ, he, hs, h⟩ => ev_then he hs h fun x H1 ι1 μ1 t he1 hs1 f1 r1 h1 => ov_then he1 hs1 h1 fun l H2 ι2 μ2 he2 hs2 f2 h2 => ov_then he2 hs2 h2 fun u H3 ι3 μ3 he3 hs3 f3 h3 => by
    have r3 := (r1.fut f2).fut f3
    rw [hK]
    unfold mCut at h3
    split at h3
    · cases r3 with
      | @tup a vs ts hx q =>
        refine .inl ⟨a, vs, rfl, hx.sq, fun hw => ?_, fun _ p hp => Pst.new h3 hs3 hp (Rep.newT hs3 hp (cut_reps q l u))⟩
        rw [q.length] at hw
        rw [whole_cut hw] at h3
        exact Pst.now h3 hs3 (.tup hx q)
    · split at h3
      · rename_i e
        obtain ⟨a, vs, rfl, q, rs⟩ := lst_read e hs3 r3
        exact .inr ⟨a, vs, rfl, .inl q, fun p hp => Pst.new h3 hs3 hp (Rep.newL hs3 hp (cut_reps rs l u))⟩
      · exact h3.elim

/-! ### built-ins called -/
def CallT (S : Sta) (g : List T → M T) (r : List V → Hp → VK → Prop) : Prop := ∀ (W : WX) (σ : L2.St) (H : Hp) (ι : Ids) (μ : Store) (xs : List V) (ts : List T) (Q : VK), StRep S H ι μ → Reps S H ι xs ts → Pst S W σ H ι (Rep S) (g ts μ) Q → r xs H Q
variable {e : Expr} {es : List Expr} {f : Env → M (List T)} {x : Str} {p : Pos} {id Ty : String} {r : List V → Hp → VK → Prop} {g : List T → M T}
theorem pv_callB (hc : CallR X (.builtin id) r) (hg' : CallT S g r) (hg : Gl X x) (hm : X.mg x = none) (hv : bootBuiltins x = some (.builtin id)) (ha : PVa X S W (e :: es) f) (hn : x ≠ "__name__") (hdb : (x == ("__debug__" : Str)) = false)
    (he : starEach (e :: es) X.env = (false, eval e X.env) :: starEach es X.env) (hpl : (backTo pos (starEach es X.env)).any (·.1) = false) : PV X S W (.Call (.Name x p) (e :: es) [] pos) (cN g f) :=
  PE.weak (pe_callB hc hg hm hv ha hn hdb he hpl) fun σ H Q ⟨ρ, ι, μ, he, hs, h⟩ => av_then he hs h fun vs H1 ι1 μ1 ts he1 hs1 f1 r1 h1 => hg' W σ H1 ι1 μ1 vs ts Q hs1 r1 h1
theorem pv_callTy (hc : CallR X (.type Ty) r) (hg' : CallT S g r) (hg : Gl X x) (hm : X.mg x = none) (hv : bootBuiltins x = some (.type Ty)) (ha : PVa X S W (e :: es) f) (hn : x ≠ "__name__") (hdb : (x == ("__debug__" : Str)) = false)
    (he : starEach (e :: es) X.env = (false, eval e X.env) :: starEach es X.env) (hpl : (backTo pos (starEach es X.env)).any (·.1) = false) : PV X S W (.Call (.Name x p) (e :: es) [] pos) (cN g f) :=
  PE.weak (pe_callTy hc hg hm hv ha hn hdb he hpl) fun σ H Q ⟨ρ, ι, μ, he, hs, h⟩ => av_then he hs h fun vs H1 ι1 μ1 ts he1 hs1 f1 r1 h1 => hg' W σ H1 ι1 μ1 vs ts Q hs1 r1 h1
end

section
variable {S : Sta} {X : Cx}
theorem reps1 {H : Hp} {ι : Ids} {xs : List V} {t : T} (r : Reps S H ι xs [t]) : ∃ x, xs = [x] ∧ Rep S H ι x t := by
  cases r with
  | cons h q => cases q; exact ⟨_, rfl, h⟩
theorem reps2 {H : Hp} {ι : Ids} {xs : List V} {t u : T} (r : Reps S H ι xs [t, u]) : ∃ x y, xs = [x, y] ∧ Rep S H ι x t ∧ Rep S H ι y u := by
  cases r with
  | cons h q =>
    obtain ⟨y, rfl, hy⟩ := reps1 q
    exact ⟨_, _, rfl, h, hy⟩
/-- len of a list, a tuple, a text -/
def bLen (ts : List T) : M T := fun μ => match ts with
  | [.str y] => if y.length ≤ lim then .ok (.int y.length) μ else .bad
  | [t] => match seqOf t μ with
    | some us => .ok (.int us.length) μ
    | none => .bad
  | _ => .bad
theorem callT_len : CallT S bLen (fun xs H Q => ∃ x n, xs = [x] ∧ LenV S.K x H n ∧ Q (.int n) H) := by
  intro W σ H ι μ xs ts Q hs r h
  unfold bLen at h
  split at h
  · obtain ⟨x, rfl, rx⟩ := reps1 r
    cases rx
    split at h
    · rename_i hl
      exact ⟨_, _, rfl, ⟨by rw [lim_eq]; exact hl, rfl⟩, Pst.now h hs (.int _)⟩
    · exact h.elim
  · obtain ⟨x, rfl, rx⟩ := reps1 r
    split at h
    · rename_i e
      obtain ⟨a, vs, rfl, q, rs⟩ := seq_read e hs rx
      rw [← rs.length] at h
      refine ⟨_, vs.length, rfl, ?_, Pst.now h hs (.int _)⟩
      rcases q with q | q
      · exact .inr ⟨vs, q, rfl⟩
      · exact .inl ⟨vs, q, rfl⟩
    · exact h.elim
  · exact h.elim
/-- list(x), tuple(x) of a list, a tuple -/
def bList (ts : List T) : M T := fun μ => match ts with
  | [t] => match seqOf t μ with
    | some us => .ok (.lst us) μ
    | none => .bad
  | _ => .bad
def bTuple (ts : List T) : M T := fun μ => match ts with
  | [t] => match seqOf t μ with
    | some us => .ok (.tup us) μ
    | none => .bad
  | _ => .bad
theorem callT_list : CallT S bList (fun xs H Q => ∃ p ys, xs = [.ref p] ∧ (SqL S.K H p ys ∨ SqT S.K H p ys) ∧ ∀ l, H l = none → Q (.ref l) (upd H l (.lst ys))) := by
  intro W σ H ι μ xs ts Q hs r h
  unfold bList at h
  split at h
  · obtain ⟨x, rfl, rx⟩ := reps1 r
    split at h
    · rename_i e
      obtain ⟨a, vs, rfl, q, rs⟩ := seq_read e hs rx
      exact ⟨a, vs, rfl, q.symm, fun l hl => Pst.new h hs hl (Rep.newL hs hl rs)⟩
    · exact h.elim
  · exact h.elim
theorem callT_tuple : CallT S bTuple (fun xs H Q => ∃ p ys, xs = [.ref p] ∧ ((SqL S.K H p ys ∧ ∀ l, H l = none → Q (.ref l) (upd H l (.tup ys))) ∨ (SqT S.K H p ys ∧ Q (.ref p) H))) := by
  intro W σ H ι μ xs ts Q hs r h
  unfold bTuple at h
  split at h
  · rename_i t
    obtain ⟨x, rfl, rx⟩ := reps1 r
    split at h
    · rename_i e
      cases t with
      | tup us =>
        cases e
        cases rx with
        | tup hx q => exact ⟨_, _, rfl, .inr ⟨hx.sq, Pst.now h hs (.tup hx q)⟩⟩
      | scr us =>
        cases e
        cases rx with
        | scr hx q => exact ⟨_, _, rfl, .inl ⟨hx.sq, fun l hl => Pst.new h hs hl (Rep.newT hs hl q)⟩⟩
      | lst us =>
        obtain ⟨a, vs, rfl, q, rs⟩ := lst_read (t := .lst us) e hs rx
        exact ⟨a, vs, rfl, .inl ⟨.inl q, fun l hl => Pst.new h hs hl (Rep.newT hs hl rs)⟩⟩
      | obj n =>
        obtain ⟨a, vs, rfl, q, rs⟩ := lst_read (t := .obj n) e hs rx
        exact ⟨a, vs, rfl, .inl ⟨.inl q, fun l hl => Pst.new h hs hl (Rep.newT hs hl rs)⟩⟩
      | _ => cases e
    · exact h.elim
  · exact h.elim
/-- int(x) of an int, a bool -/
def bInt (ts : List T) : M T := match ts with
  | [.int i] => ret (.int i)
  | [.bl b] => ret (.int (if b then 1 else 0))
  | _ => bad
theorem callT_int : CallT S bInt (fun xs H Q => (∃ i, xs = [.int i] ∧ Q (.int i) H) ∨ ∃ k, xs = [.bl k] ∧ Q (.int (if k then 1 else 0)) H) := by
  intro W σ H ι μ xs ts Q hs r h
  unfold bInt at h
  split at h
  · obtain ⟨x, rfl, rx⟩ := reps1 r
    cases rx
    exact .inl ⟨_, rfl, Pst.now h hs (.int _)⟩
  · obtain ⟨x, rfl, rx⟩ := reps1 r
    cases rx
    exact .inr ⟨_, rfl, Pst.now h hs (.int _)⟩
  · exact h.elim
/-- isinstance of data and a built-in type -/
def tyName : T → Option String
  | .non => some "NoneType"
  | .bl _ => some "bool"
  | .int _ => some "int"
  | .str _ => some "str"
  | .tup _ => some "tuple"
  | .lst _ => some "list"
  | _ => none
def isiB (a b : String) : Option Bool :=
  if b = "int" then some (a == "int" || a == "bool") else if b = "bool" then some (a == "bool") else if b = "tuple" then some (a == "tuple") else if b = "str" then some (a == "str") else if b = "list" then some (a == "list") else none
theorem tyName_in {t : T} {a : String} (h : tyName t = some a) : a ∈ ["NoneType", "bool", "int", "str", "tuple", "list"] := by
  cases t <;> first | (cases h; done) | (cases h; decide)
theorem isi_table : ∀ a ∈ ["NoneType", "bool", "int", "str", "tuple", "list"], ∀ b ∈ ["int", "bool", "tuple", "str", "list"], kitB a b = isiB a b := by decide +kernel
theorem isiB_in {a b : String} {k : Bool} (h : isiB a b = some k) : b ∈ ["int", "bool", "tuple", "str", "list"] := by
  unfold isiB at h
  split at h
  · rename_i e; subst e; decide
  · split at h
    · rename_i e; subst e; decide
    · split at h
      · rename_i e; subst e; decide
      · split at h
        · rename_i e; subst e; decide
        · split at h
          · rename_i e; subst e; decide
          · cases h
theorem tyName_of {H : Hp} {ι : Ids} {v : V} {t : T} {a : String} (e : tyName t = some a) (r : Rep S H ι v t) : TyX S.K H v (.type a) := by
  cases r with
  | non => cases e; exact .base .non
  | bl b => cases e; exact .base (.bl _)
  | int b => cases e; exact .base (.int _)
  | str b => cases e; exact .base (.str _)
  | tup h q =>
    cases e
    rcases h with ⟨_, h | ⟨o, h⟩⟩ | ⟨o, its, n, h, c, _⟩
    · exact .base (.tup h)
    · exact .fTuple h
    · exact .kTuple h c
  | lst h q =>
    cases e
    rcases h with ⟨_, h | ⟨o, h⟩⟩
    · exact .base (.lst h)
    · exact .base (.frz h)
  | _ => cases e
def bIsi (ts : List T) : M T := match ts with
  | [t, .ty n] => match (tyName t).bind fun a => isiB a n with
    | some b => ret (.bl b)
    | none => bad
  | _ => bad
theorem callT_isi : CallT S bIsi (rIsi S.K) := by
  intro W σ H ι μ xs ts Q hs r h
  unfold bIsi at h
  split at h
  · rename_i t n
    obtain ⟨x, y, rfl, rx, ry⟩ := reps2 r
    cases e : (tyName t).bind fun a => isiB a n with
    | none => rw [e] at h; exact h.elim
    | some b =>
      rw [e] at h
      obtain ⟨a, e1, e2⟩ := Option.bind_eq_some_iff.mp e
      cases ry
      exact ⟨x, _, .type a, .type n, b, rfl, .ty n, tyName_of e1 rx, kit_ty (by rw [isi_table a (tyName_in e1) n (isiB_in e2)]; exact e2), Pst.now h hs (.bl _)⟩
  · exact h.elim
end
end Tw

/-! TwS: sorted of rows of ints, empty ones among them -/
namespace Tw
open PySem PySem.SeqAt
section
variable {A : Around} {s : Shared}
theorem call_tuple_lt {prog : Program} {w : World} {E : Value → Shared → Prop} {Q : Value → Shared → Prop} {l b : Addr} {items items2 : Array Value} {e r : Nat → Bool} (hl : s.heap.IsTuple l items) (hb : s.heap.IsTuple b items2)
    (he : ∀ j (h1 : j < items.size) (h2 : j < items2.size), EqAt A.in1 s items[j] items2[j] (e j)) (hr : ∀ j (h1 : j < items.size) (h2 : j < items2.size), e j = false → RcLt A.in1 s items[j] items2[j] (r j))
    (h : Q (.bool (firstLt e r (decide (items.size < items2.size)) (List.range (min items.size items2.size)))) s) : wpAny (model prog w) A (call (.builtin "tuple.__lt__") [.ref l, .ref b]) Q E s := by
  obtain ⟨⟨cls, dd, data, sl⟩, ho, hc, n, hd⟩ := id hl
  obtain ⟨⟨cls2, dd2, data2, sl2⟩, ho2, hc2, n2, hd2⟩ := id hb
  simp only at hc hd hc2 hd2
  subst hc hd hc2 hd2
  exact call_meets F.slot_tuple_lt ⟨_, ho, rfl⟩ F.entry_tuple_lt (F.args_tuple_lt_2 _ _) (tuple_ltAt l b items items2 n n2 dd dd2 sl sl2 e r) ⟨ho, ho2, he, hr, h⟩
end
open PySem.W PyProof.Rows PySem.Calls
section
variable {prog : Program} {w : World} {A : Around} {E : Value → Shared → Prop} {s : Shared}
/-- < of two tuples of alike data, as sorting asks it of one type -/
theorem oneLt_tup {f : Bool} {xs ys : List PyData} {a b : Value} {as bs : List Addr} {Q : Bool → Shared → Prop} (ra : Reads s.heap a (.tuple xs) as) (rb : Reads s.heap b (.tuple ys) bs) (h : alike (.tuple xs) (.tuple ys) = true)
    (hu : A.units + min (PyData.tuple xs).depth (PyData.tuple ys).depth < cLine) (hq : Q (dataLt (.tuple xs) (.tuple ys)) s) : wpAny (model prog w) A (oneLt' f a b) Q E s := by
  cases f with
  | false => exact oneLt_alike (fun z => by cases z) ra rb h (by simp) hu hq
  | true =>
    have hal : alikeAll xs ys = true := by simpa [alike] using h
    cases ra with
    | @tuple l o vs n _ as₁ h1 h2 h3 h4 =>
      cases rb with
      | @tuple l' o' vs' n' _ bs₁ k1 k2 k3 k4 =>
        have n1 : vs.size = xs.length := by simpa using ReadsAll.length _ _ _ h4
        have n2 : vs'.size = ys.length := by simpa using ReadsAll.length _ _ _ k4
        rw [dataLt_tuple, ← firstLt_toks xs ys hal, ← n1, ← n2] at hq
        rw [oneLt'_eq]
        simp only [if_true]
        refine wpAny_bind (wpAny_cRoomFor (room_here hu) ?_)
        refine wpAny_bind (wpAny_callSpecialIfBound?_slot (T := "tuple") ⟨_, h1, h2⟩ F.slot_tuple_lt (call_tuple_lt (e := pairEq xs ys) (r := fun j => dataLt (xs.getD j .none) (ys.getD j .none)) ⟨_, h1, h2, _, h3⟩ ⟨_, k1, k2, _, k3⟩ (fun j j1 j2 => ?_) (fun j j1 j2 hj => ?_) ?_))
        · have := eqAt_alikeAll xs ys A.in1 s vs.toList vs'.toList _ _ h4 k4 hal (room_in hu) j (by simpa using j1) (by simpa using j2)
          simpa using this
        · have := rcLt_alikeAll xs ys A.in1 s vs.toList vs'.toList _ _ h4 k4 hal (room_in hu) j (by simpa using j1) (by simpa using j2) hj
          simpa using this
        · exact wpAny_truthy_bool hq
/-- the first items, where some tuple is empty -/
theorem firsts_any : ∀ (vs : List Value) (ds : List (List PyData)) {Q : List (Option Value) → Shared → Prop}, EachIs (fun v d => ∃ as, Reads s.heap v (.tuple d) as) vs ds →
    (∀ fs : List (Option Value), fs.length = ds.length → (∀ (i : Nat) (d : List PyData), ds[i]? = some d → ∃ o, fs[i]? = some o ∧ o.isSome = !d.isEmpty) → Q fs s) → wpAny (model prog w) A (vs.mapM firstOfTuple') Q E s
  | [], [], _, _, h => by
    rw [List.mapM_nil]
    exact wpAny_pure (h [] rfl fun i d e => by simp at e)
  | v :: vs, d :: ds, Q, e, h => by
    cases e with
    | cons h1 t =>
      obtain ⟨as, r⟩ := h1
      cases r with
      | @tuple a o xs n _ _ ho hc hd hr =>
        rw [List.mapM_cons]
        refine wpAny_bind ?_
        rw [kas_first_eq]
        refine wpAny_bind (Looks.here (show Looks (model prog w) s.heap (typeOf (.ref a)) o.cls from (Looks.ld ho).andThen .now) ?_)
        rw [hc, if_neg (by first | decide | simp)]
        refine wpAny_bind (listItems_at ho hd (wpAny_pure ?_))
        refine wpAny_bind (firsts_any vs ds (Q := fun bs s' => wpAny (model prog w) A (pure (xs[0]? :: bs)) Q E s') t fun fs hl hf => wpAny_pure (h _ (by simp [hl]) fun i d' e' => ?_))
        cases i with
        | zero =>
          cases e'
          refine ⟨xs[0]?, rfl, ?_⟩
          have n1 : xs.size = d.length := by simpa using SeqAt.ReadsAll.length _ _ _ hr
          cases d with
          | nil => rw [Array.getElem?_eq_none (by rw [n1]; exact Nat.le_refl _)]; rfl
          | cons x r => rw [Array.getElem?_eq_getElem (by rw [n1]; exact Nat.succ_pos _)]; rfl
        | succ i => exact hf i d' e'
  | [], _ :: _, _, e, _ => by cases e
  | _ :: _, [], _, e, _ => by cases e
theorem tups_kind {vs : List Value} {d₀ : List PyData} {ds : List (List PyData)} (h2 : 2 ≤ vs.length) (e : EachIs (fun v d => ∃ as, Reads s.heap v (.tuple d) as) vs (d₀ :: ds)) (hne : ∃ d ∈ d₀ :: ds, d = []) {Q : SortKind → Shared → Prop}
    (h : Q (if d₀.isEmpty then oneType' else general') s) : wpAny (model prog w) A (keyKind' vs.toArray) Q E s := by
  rw [kat_kind_eq, List.mapM_toArray, map_eq_pure_bind]
  refine wpAny_bind (wpAny_bind (firsts_any vs (d₀ :: ds) e fun fs hl hf => wpAny_pure ?_))
  have hall : (fs.toArray.all fun x => x.isSome) = false := by
    obtain ⟨d, hd, rfl⟩ := hne
    obtain ⟨i, hi⟩ := List.mem_iff_getElem?.mp hd
    obtain ⟨o, e1, e2⟩ := hf i [] hi
    rw [List.all_toArray]
    rw [List.all_eq_false]
    exact ⟨o, List.mem_iff_getElem?.mpr ⟨i, e1⟩, by rw [e2]; simp⟩
  rw [if_neg (by rw [hall]; simp)]
  obtain ⟨o, e1, e2⟩ := hf 0 d₀ rfl
  have e3 : (fs.toArray[0]?.bind id).isSome = !d₀.isEmpty := by
    rw [List.getElem?_toArray, e1]
    exact e2
  rw [e3]
  cases hd : d₀.isEmpty with
  | false =>
    rw [hd] at h
    rw [if_pos (by rfl)]
    exact wpAny_pure h
  | true =>
    rw [hd] at h
    rw [if_neg (by simp)]
    rw [oneTypeOnly'_eq, List.mapM_toArray, map_eq_pure_bind]
    refine wpAny_bind (wpAny_bind (wpAny_bind (kas_mapM (r := Value.type "tuple") _ (fun v hv Q' hq => ?_) (wpAny_pure ?_))))
    · obtain ⟨d, hd, as, r⟩ := e.left v hv
      exact (show Looks (model prog w) s.heap (typeOf v) (.type "tuple") from looks_reads (d := .tuple d) r).here hq
    · obtain ⟨v₁, v₂, rest, rfl⟩ : ∃ v₁ v₂ rest, vs = v₁ :: v₂ :: rest := by
        match vs, h2 with
        | [], h2 => simp at h2
        | [_], h2 => simp at h2
        | v₁ :: v₂ :: rest, _ => exact ⟨v₁, v₂, rest, rfl⟩
      have hall : ((List.map (fun _ => Value.type "tuple") (v₁ :: v₂ :: rest)).toArray.all fun x => x == Value.type "tuple") = true := by
        simp only [List.all_toArray, List.all_map, List.all_eq_true]
        intro _ _
        exact beq_self_eq_true _
      have h0 : (List.map (fun _ => Value.type "tuple") (v₁ :: v₂ :: rest)).toArray[0]? = some (Value.type "tuple") := by simp
      rw [h0]
      simp only [hall, if_true]
      exact wpAny_pure (wpAny_pure h)
theorem each_tup {β : Type} {enc : β → List PyData} {h : Heap} : ∀ {vs : List Value} {bs : List β}, EachIs (fun v b => ∃ as, Reads h v (.tuple (enc b)) as) vs bs → EachIs (fun v d => ∃ as, Reads h v (.tuple d) as) vs (bs.map enc)
  | _, _, .nil => .nil
  | _, _, .cons h t => .cons h (each_tup t)
theorem all_nonempty (ds : List (List PyData)) : (∃ d ∈ ds, d = []) ∨ ∀ d ∈ ds, ∃ x r, d = x :: r := by
  by_cases h : ∃ d ∈ ds, d = []
  · exact .inl h
  · refine .inr fun d hd => ?_
    cases d with
    | nil => exact absurd ⟨[], hd, rfl⟩ h
    | cons x r => exact ⟨x, r, rfl⟩
/-- tuples that are alike, empty ones too -/
theorem sortsAt_tups {vs : List Value} {ds : List (List PyData)} (e : EachIs (fun v d => ∃ as, Reads s.heap v (.tuple d) as) vs ds) (hal : AllAlike (ds.map .tuple)) (hu : ∀ d, d ∈ ds → A.units + (PyData.tuple d).depth < cLine) :
    SortsAt prog w A s (dataKind s.heap (ds.map .tuple)) vs := by
  have hu' : ∀ d, d ∈ ds.map PyData.tuple → A.units + d.depth < cLine := fun d hd => by
    obtain ⟨x, hx, rfl⟩ := List.mem_map.mp hd
    exact hu x hx
  have e' : EachIs (fun v d => ∃ as, Reads s.heap v d as) vs (ds.map .tuple) := each_map (R := fun v d => ∃ as, Reads s.heap v d as) PyData.tuple e
  rcases all_nonempty ds with hne | hne
  · refine ⟨fun v hv => ?_, ?_⟩
    · obtain ⟨d, hd, as, r⟩ := e'.left v hv
      exact ⟨_, dataKind_some hal hd r⟩
    · obtain ⟨d₀, ds₀, rfl⟩ : ∃ d₀ ds₀, ds = d₀ :: ds₀ := by
        cases ds with
        | nil => obtain ⟨_, h, _⟩ := hne; cases h
        | cons a b => exact ⟨a, b, rfl⟩
      refine ⟨if d₀.isEmpty then oneType' else general', ?_, fun h2 E Q hq => tups_kind h2 e hne hq⟩
      intro E x y a b Q ha hb hq
      obtain ⟨d, as, hd, ra, rfl⟩ := dataKind_inv ha
      obtain ⟨d', as', hd', rb, rfl⟩ := dataKind_inv hb
      have hdd := hal d hd d' hd'
      have hroom : A.units + min d.depth d'.depth < cLine := Nat.lt_of_le_of_lt (Nat.add_le_add_left (Nat.min_le_left _ _) _) (hu' d hd)
      obtain ⟨x1, _, rfl⟩ := List.mem_map.mp hd
      obtain ⟨x2, _, rfl⟩ := List.mem_map.mp hd'
      cases d₀.isEmpty with
      | true => exact oneLt_tup (f := true) ra rb hdd hroom hq
      | false => exact oneLt_tup (f := false) ra rb hdd hroom hq
  · refine SortsAt.data e' hal (.inl fun d hd => ?_) hu'
    obtain ⟨x, hx, rfl⟩ := List.mem_map.mp hd
    obtain ⟨y, r, rfl⟩ := hne x hx
    exact ⟨y, r, rfl⟩
theorem sorted_tups {β : Type} {R : Value → β → Prop} {enc : β → List PyData} {vs : List Value} {bs : List β} {l : Addr} {Q : Value → Shared → Prop} (hl : s.heap.IsList l vs.toArray) (e : EachIs R vs bs) (er : EachIs (fun v b => ∃ as, Reads s.heap v (.tuple (enc b)) as) vs bs) (hal : AllAlike (bs.map fun b => .tuple (enc b))) (hL : bs.length ≤ sizeLine)
    (hu : ∀ b, b ∈ bs → A.units + 2 + (PyData.tuple (enc b)).depth < cLine) (h : ∀ out, out.length = bs.length → EachIs R out (bs.mergeSort (dataLe false fun b => .tuple (enc b))) → Q (.ref (s.heap.objs.size + 1)) { s with heap := sortedAll s.heap vs (List.toArray out) }) :
    wpAny (model prog w) A (call (.builtin "sorted") [.ref l]) Q E s := by
  have er' : EachIs (fun v b => ∃ as, Reads (sortingHeap (copyHeap s.heap vs) (s.heap.objs.size + 1) vs) v (.tuple (enc b)) as) vs bs := er.mono fun _ _ ⟨as, r⟩ => ⟨as, PyProof.Rows.Reads.keeps (fun _ _ => sorting_copy_old) r⟩
  have em : bs.map (fun b => PyData.tuple (enc b)) = (bs.map enc).map .tuple := by rw [List.map_map]; rfl
  have S := sortsAt_tups (prog := prog) (w := w) (A := A.in1.in1) (s := { s with heap := sortingHeap (copyHeap s.heap vs) (s.heap.objs.size + 1) vs }) (each_tup er') (by rw [← em]; exact hal) (fun d hd => by
    obtain ⟨b, hb, rfl⟩ := List.mem_map.mp hd
    exact hu b hb)
  rw [← em] at S
  exact sorted_vals hl S (by rw [e.length]; exact hL) (h _ (by rw [sortVals_length false rfl]; exact e.length) (sortVals_data (enc := fun b => .tuple (enc b)) false e er' hal))
end
end Tw

/-! TwT: calls of built-ins: sorted, all, any, sum, max, min -/
namespace Tw
open PySem L2
def leRow (p q : List Int) : Bool := decide (p ≤ q)
def leInt (p q : Int) : Bool := decide (p ≤ q)
/-- a sort that the kernel can run -/
def insS {α : Type} (le : α → α → Bool) (a : α) : List α → List α
  | [] => [a]
  | b :: l => if le a b then a :: b :: l else b :: insS le a l
def srt {α : Type} (le : α → α → Bool) : List α → List α
  | [] => []
  | a :: l => insS le a (srt le l)
section
variable {α : Type} {le : α → α → Bool}
theorem insS_perm (a : α) : ∀ l : List α, (insS le a l).Perm (a :: l)
  | [] => List.Perm.refl _
  | b :: l => by
    unfold insS
    split
    · exact List.Perm.refl _
    · exact ((insS_perm a l).cons b).trans (List.Perm.swap a b l)
theorem srt_perm : ∀ l : List α, (srt le l).Perm l
  | [] => List.Perm.refl _
  | a :: l => (insS_perm a _).trans ((srt_perm l).cons a)
theorem insS_sorted (tr : ∀ a b c, le a b = true → le b c = true → le a c = true) (to : ∀ a b, (le a b || le b a) = true) (a : α) : ∀ l : List α, l.Pairwise (fun a b => le a b = true) → (insS le a l).Pairwise (fun a b => le a b = true)
  | [], _ => by unfold insS; simp
  | b :: l, h => by
    unfold insS
    rw [List.pairwise_cons] at h
    split
    · rename_i q
      rw [List.pairwise_cons, List.pairwise_cons]
      refine ⟨fun c hc => ?_, h⟩
      rcases List.mem_cons.mp hc with rfl | hc
      · exact q
      · exact tr _ _ _ q (h.1 c hc)
    · rename_i q
      rw [List.pairwise_cons]
      refine ⟨fun c hc => ?_, insS_sorted tr to a l h.2⟩
      rcases List.mem_cons.mp ((insS_perm a l).mem_iff.mp hc) with rfl | hc
      · have := to c b
        rw [Bool.or_eq_true] at this
        exact this.resolve_left q
      · exact h.1 c hc
theorem srt_sorted (tr : ∀ a b c, le a b = true → le b c = true → le a c = true) (to : ∀ a b, (le a b || le b a) = true) : ∀ l : List α, (srt le l).Pairwise (fun a b => le a b = true)
  | [] => by unfold srt; simp
  | a :: l => insS_sorted tr to a _ (srt_sorted tr to l)
def mrgS (le : α → α → Bool) : Nat → List α → List α → List α
  | 0, xs, ys => srt le (xs ++ ys)
  | _ + 1, [], ys => ys
  | _ + 1, x :: xs, [] => x :: xs
  | n + 1, x :: xs, y :: ys => if le x y then x :: mrgS le n xs (y :: ys) else y :: mrgS le n (x :: xs) ys
def msF (le : α → α → Bool) : Nat → List α → List α
  | 0, l => srt le l
  | n + 1, l => if l.length ≤ 4 then srt le l else mrgS le l.length (msF le n (l.take (l.length / 2))) (msF le n (l.drop (l.length / 2)))
theorem mrgS_perm : ∀ (n : Nat) (xs ys : List α), (mrgS le n xs ys).Perm (xs ++ ys)
  | 0, xs, ys => srt_perm _
  | n + 1, [], ys => by unfold mrgS; exact List.Perm.refl _
  | n + 1, x :: xs, [] => by unfold mrgS; rw [List.append_nil]
  | n + 1, x :: xs, y :: ys => by
    unfold mrgS
    split
    · exact (mrgS_perm n xs (y :: ys)).cons x
    · exact ((mrgS_perm n (x :: xs) ys).cons y).trans (List.perm_middle (l₁ := x :: xs) (a := y) (l₂ := ys)).symm
theorem mrgS_sorted (tr : ∀ a b c, le a b = true → le b c = true → le a c = true) (to : ∀ a b, (le a b || le b a) = true) : ∀ (n : Nat) (xs ys : List α), xs.Pairwise (fun a b => le a b = true) → ys.Pairwise (fun a b => le a b = true) → (mrgS le n xs ys).Pairwise (fun a b => le a b = true)
  | 0, xs, ys, _, _ => srt_sorted tr to _
  | n + 1, [], ys, _, h => by unfold mrgS; exact h
  | n + 1, x :: xs, [], h, _ => by unfold mrgS; exact h
  | n + 1, x :: xs, y :: ys, h, h' => by
    unfold mrgS
    have h1 := List.pairwise_cons.mp h
    have h2 := List.pairwise_cons.mp h'
    split
    · rename_i q
      rw [List.pairwise_cons]
      refine ⟨fun c hc => ?_, mrgS_sorted tr to n xs (y :: ys) h1.2 h'⟩
      rcases List.mem_append.mp ((mrgS_perm n xs (y :: ys)).mem_iff.mp hc) with z | z
      · exact h1.1 c z
      · rcases List.mem_cons.mp z with rfl | z
        · exact q
        · exact tr _ _ _ q (h2.1 c z)
    · rename_i q
      have q' : le y x = true := by
        have := to x y
        rw [Bool.or_eq_true] at this
        exact this.resolve_left q
      rw [List.pairwise_cons]
      refine ⟨fun c hc => ?_, mrgS_sorted tr to n (x :: xs) ys h h2.2⟩
      rcases List.mem_append.mp ((mrgS_perm n (x :: xs) ys).mem_iff.mp hc) with z | z
      · rcases List.mem_cons.mp z with rfl | z
        · exact q'
        · exact tr _ _ _ q' (h1.1 c z)
      · exact h2.1 c z
theorem msF_perm : ∀ (n : Nat) (l : List α), (msF le n l).Perm l
  | 0, l => srt_perm l
  | n + 1, l => by
    unfold msF
    split
    · exact srt_perm l
    · refine (mrgS_perm _ _ _).trans (((msF_perm n _).append (msF_perm n _)).trans ?_)
      rw [List.take_append_drop]
theorem msF_sorted (tr : ∀ a b c, le a b = true → le b c = true → le a c = true) (to : ∀ a b, (le a b || le b a) = true) : ∀ (n : Nat) (l : List α), (msF le n l).Pairwise (fun a b => le a b = true)
  | 0, l => srt_sorted tr to l
  | n + 1, l => by
    unfold msF
    split
    · exact srt_sorted tr to l
    · exact mrgS_sorted tr to _ _ _ (msF_sorted tr to n _) (msF_sorted tr to n _)
theorem msF_eq (tr : ∀ a b c, le a b = true → le b c = true → le a c = true) (to : ∀ a b, (le a b || le b a) = true) (an : ∀ a b, le a b = true → le b a = true → a = b) (n : Nat) (l : List α) : msF le n l = l.mergeSort le :=
  List.Perm.eq_of_pairwise (le := fun a b => le a b = true) (fun a b _ _ h1 h2 => an a b h1 h2) (msF_sorted tr to n l) (List.pairwise_mergeSort tr to l) ((msF_perm n l).trans (List.mergeSort_perm l le).symm)
theorem srt_eq (tr : ∀ a b c, le a b = true → le b c = true → le a c = true) (to : ∀ a b, (le a b || le b a) = true) (an : ∀ a b, le a b = true → le b a = true → a = b) (l : List α) : srt le l = l.mergeSort le :=
  List.Perm.eq_of_pairwise (le := fun a b => le a b = true) (fun a b _ _ h1 h2 => an a b h1 h2) (srt_sorted tr to l) (List.pairwise_mergeSort tr to l) ((srt_perm l).trans (List.mergeSort_perm l le).symm)
end
theorem srtR (l : List (List Int)) : msF leRow 24 l = l.mergeSort leRow := msF_eq (fun a b c h1 h2 => by unfold leRow at *; rw [decide_eq_true_eq] at *; exact List.le_trans h1 h2) (fun a b => by unfold leRow; rw [Bool.or_eq_true, decide_eq_true_eq, decide_eq_true_eq]; exact List.le_total a b)
  (fun a b h1 h2 => by unfold leRow at *; rw [decide_eq_true_eq] at *; exact List.le_antisymm h1 h2) 24 l
theorem srtI (l : List Int) : msF leInt 24 l = l.mergeSort leInt := msF_eq (fun a b c h1 h2 => by unfold leInt at *; rw [decide_eq_true_eq] at *; omega) (fun a b => by unfold leInt; rw [Bool.or_eq_true, decide_eq_true_eq, decide_eq_true_eq]; omega)
  (fun a b h1 h2 => by unfold leInt at *; rw [decide_eq_true_eq] at *; omega) 24 l
theorem dataLe_tups : PySem.W.dataLe false (fun b : List Int => .tuple (b.map .int)) = leRow := by
  have := PySem.W.dataLe_rows (β := List Int) id
  funext p q
  have e := congrFun (congrFun this p) q
  have e2 : PySem.W.dataLe false (fun b : List Int => .tuple (b.map .int)) p q = PySem.W.dataLe false (fun b : List Int => .list ((id b).map .int)) p q := by
    show (!PySem.W.dataLt (.tuple (q.map .int)) (.tuple (p.map .int))) = (!PySem.W.dataLt (.list (q.map .int)) (.list (p.map .int)))
    rw [PySem.W.dataLt_tuple, PySem.W.dataLt_list]
  rw [e2, e]
  rfl
section
variable {X : Cx}
theorem each_vals {β : Type} {P : V → β → Prop} : ∀ {us : List Value} {bs : List β}, PySem.W.EachIs (fun v b => ∃ x, RelV x v ∧ P x b) us bs → ∃ xs, Vals xs us ∧ PySem.W.EachIs P xs bs
  | _, _, .nil => ⟨[], .nil, .nil⟩
  | _, _, .cons ⟨x, r, p⟩ t => let ⟨xs, h1, h2⟩ := each_vals t; ⟨x :: xs, .cons r h1, .cons p h2⟩
theorem vals_each {β : Type} {P : V → β → Prop} : ∀ {xs : List V} {us : List Value} {bs : List β}, Vals xs us → PySem.W.EachIs P xs bs → PySem.W.EachIs (fun v b => ∃ x, RelV x v ∧ P x b) us bs
  | _, _, _, .nil, .nil => .nil
  | _, _, _, .cons r rs, .cons p ps => .cons ⟨_, r, p⟩ (vals_each rs ps)
theorem each_len {α β : Type} {P : α → β → Prop} : ∀ {xs : List α} {bs : List β}, PySem.W.EachIs P xs bs → xs.length = bs.length
  | _, _, .nil => rfl
  | _, _, .cons _ t => congrArg (· + 1) (each_len t)
def rSortT (K : PySem.W.Frag) : List V → Hp → VK → Prop := fun vs H Q => ∃ (a : Addr) (xs : List V) (rows : List (List Int)) (P : V → List Int → Prop), vs = [.ref a] ∧ SqL K H a xs ∧ PySem.W.EachIs P xs rows ∧ (∀ x r, P x r → Dp K H x (.tuple (r.map .int))) ∧
  ∀ xs' p, PySem.W.EachIs P xs' (rows.mergeSort leRow) → H p = none → Q (.ref p) (upd H p (.lst xs'))
def rSortI (K : PySem.W.Frag) : List V → Hp → VK → Prop := fun vs H Q => ∃ (a : Addr) (ns : List Int), vs = [.ref a] ∧ SqL K H a (ns.map V.int) ∧ ∀ p, H p = none → Q (.ref p) (upd H p (.lst ((ns.mergeSort leInt).map V.int)))
theorem cr_sortT (hu : X.A.units + 64 < cLine) : CallR X (.builtin "sorted") (rSortT X.K) := by
  intro pins s σ H vs us Q I r h
  obtain ⟨a, xs, rows, P, rfl, hs, he, hd, q⟩ := h
  obtain ⟨its, rv, hl, hz⟩ := I.list hs
  rw [Vals.ref1 r]
  have e1 := vals_each rv he
  have hz2 : rows.length ≤ sizeLine := by rw [← each_len he]; exact hz
  refine sorted_tups (enc := fun b : List Int => b.map .int) (R := fun v b => ∃ x, RelV x v ∧ P x b) hl.isList e1 (e1.mono fun v b ⟨x, rx, px⟩ => Dp.reads I _ x v (hd x b px) rx) ?_ hz2 (fun b _ => ?_) fun out ho eo => ?_
  · exact PySem.W.AllAlike.of fun b b' => by
      have := PySem.W.alike_ints b b'
      simpa [PySem.W.alike] using this
  · have e : (PyData.tuple (b.map .int)).depth = 1 := by
      rw [PyData.depth, PySem.W.depth_ints]
    rw [e]
    omega
  · rw [dataLe_tups] at eo
    obtain ⟨xs', rv', ex⟩ := each_vals eo
    obtain ⟨ep, he'⟩ := PyProof.Rows.sortedAll_at s.heap its out.toArray
    have hlen : xs'.length ≤ sizeLine := by rw [rv'.length, ho]; exact hz2
    exact ⟨.ref _, upd H (s.heap.objs.size + 1) (.lst xs'), I.laid (t' := s.toks) (fun _ _ => PyProof.Rows.sortedAll_old) (Nat.le_succ _) ⟨hlen, out, ep, rv', he'⟩, rfl, q xs' _ ex (I.hok.fresh (Nat.le_succ _))⟩
theorem each_ints : ∀ (ns : List Int), PySem.W.EachIs (fun (x : V) (n : Int) => x = .int n) (ns.map V.int) ns
  | [] => .nil
  | _ :: ns => .cons rfl (each_ints ns)
theorem ints_each : ∀ {xs : List V} {ns : List Int}, PySem.W.EachIs (fun (x : V) (n : Int) => x = .int n) xs ns → xs = ns.map V.int
  | _, _, .nil => rfl
  | _, _, .cons h t => by rw [h, ints_each t]; rfl
theorem cr_sortI (hu : X.A.units + 64 < cLine) : CallR X (.builtin "sorted") (rSortI X.K) := by
  intro pins s σ H vs us Q I r h
  obtain ⟨a, ns, rfl, hs, q⟩ := h
  obtain ⟨its, rv, hl, hz⟩ := I.list hs
  rw [Vals.ref1 r]
  have e1 := vals_each rv (each_ints ns)
  have hz2 : ns.length ≤ sizeLine := by rw [List.length_map] at hz; exact hz
  have er : PySem.W.EachIs (fun v (b : Int) => ∃ as, Reads s.heap v (PyData.int b) as) its ns := e1.mono fun v b ⟨x, rx, px⟩ => by
    subst px
    obtain ⟨t, rfl⟩ := rx
    exact ⟨_, .int b t⟩
  have hal : PySem.W.AllAlike (ns.map PyData.int) := PySem.W.AllAlike.of fun b b' => by simp [PySem.W.alike]
  have hk : PySem.W.Sortable (ns.map PyData.int) := PySem.W.Sortable.others fun b => ⟨by simp, by simp⟩
  have hb : ∀ b, b ∈ ns → X.A.units + 2 + (PyData.int b).depth < cLine := fun b _ => by
    have e : (PyData.int b).depth = 0 := by rw [PyData.depth]
    rw [e]
    omega
  refine PySem.W.sorted_data (enc := PyData.int) (R := fun v b => ∃ x, RelV x v ∧ x = V.int b) hl.isList e1 er hal hk hz2 hb fun out ho eo => ?_
  rw [PySem.W.dataLe_int (fun b => b)] at eo
  obtain ⟨xs', rv', ex⟩ := each_vals eo
  have := ints_each ex
  subst this
  obtain ⟨ep, he'⟩ := PyProof.Rows.sortedAll_at s.heap its out.toArray
  have hlen : ((ns.mergeSort leInt).map V.int).length ≤ sizeLine := by rw [List.length_map, List.length_mergeSort]; exact hz2
  exact ⟨.ref _, upd H (s.heap.objs.size + 1) (.lst ((ns.mergeSort leInt).map V.int)), I.laid (t' := s.toks) (fun _ _ => PyProof.Rows.sortedAll_old) (Nat.le_succ _) ⟨hlen, out, ep, rv', he'⟩, rfl, q _ (I.hok.fresh (Nat.le_succ _))⟩
theorem CallR.or2 {f : Value} {r r' : List V → Hp → VK → Prop} (h : CallR X f r) (h' : CallR X f r') : CallR X f (fun xs H Q => r xs H Q ∨ r' xs H Q) := fun pins s σ H vs us Q I rv q => q.elim (h pins s σ H vs us Q I rv) (h' pins s σ H vs us Q I rv)
end
/-! ### readings of trees -/
def intsT : List T → Option (List Int)
  | [] => some []
  | .int i :: ts => (intsT ts).map (i :: ·)
  | _ => none
def blsT : List T → Option (List Bool)
  | [] => some []
  | .bl i :: ts => (blsT ts).map (i :: ·)
  | _ => none
def rowsT : List T → Option (List (List Int))
  | [] => some []
  | .tup a :: ts => match intsT a, rowsT ts with
    | some r, some rs => some (r :: rs)
    | _, _ => none
  | _ => none
theorem intsT_of : ∀ {ts : List T} {ns : List Int}, intsT ts = some ns → ts = ns.map T.int
  | [], _, h => by cases h; rfl
  | .int i :: ts, _, h => by
    obtain ⟨r, e, rfl⟩ := Option.map_eq_some_iff.mp h
    rw [intsT_of e]; rfl
  | .non :: _, _, h => by cases h
  | .bl _ :: _, _, h => by cases h
  | .str _ :: _, _, h => by cases h
  | .ty _ :: _, _, h => by cases h
  | .cls _ :: _, _, h => by cases h
  | .fn _ :: _, _, h => by cases h
  | .tup _ :: _, _, h => by cases h
  | .lst _ :: _, _, h => by cases h
  | .dic _ _ :: _, _, h => by cases h
  | .ins _ _ :: _, _, h => by cases h
  | .obj _ :: _, _, h => by cases h
  | .scr _ :: _, _, h => by cases h
theorem intsT_map : ∀ (ns : List Int), intsT (ns.map T.int) = some ns
  | [] => rfl
  | n :: ns => by show (intsT (ns.map T.int)).map (n :: ·) = _; rw [intsT_map ns]; rfl
theorem blsT_of : ∀ {ts : List T} {ns : List Bool}, blsT ts = some ns → ts = ns.map T.bl
  | [], _, h => by cases h; rfl
  | .bl i :: ts, _, h => by
    obtain ⟨r, e, rfl⟩ := Option.map_eq_some_iff.mp h
    rw [blsT_of e]; rfl
  | .non :: _, _, h => by cases h
  | .int _ :: _, _, h => by cases h
  | .str _ :: _, _, h => by cases h
  | .ty _ :: _, _, h => by cases h
  | .cls _ :: _, _, h => by cases h
  | .fn _ :: _, _, h => by cases h
  | .tup _ :: _, _, h => by cases h
  | .lst _ :: _, _, h => by cases h
  | .dic _ _ :: _, _, h => by cases h
  | .ins _ _ :: _, _, h => by cases h
  | .obj _ :: _, _, h => by cases h
  | .scr _ :: _, _, h => by cases h
theorem blsT_map : ∀ (ns : List Bool), blsT (ns.map T.bl) = some ns
  | [] => rfl
  | n :: ns => by show (blsT (ns.map T.bl)).map (n :: ·) = _; rw [blsT_map ns]; rfl
@[reducible] def rowT (r : List Int) : T := .tup (r.map T.int)
theorem rowsT_of : ∀ {ts : List T} {ns : List (List Int)}, rowsT ts = some ns → ts = ns.map rowT
  | [], _, h => by cases h; rfl
  | .tup a :: ts, _, h => by
    unfold rowsT at h
    split at h
    · rename_i r rs e1 e2
      cases h
      rw [rowsT_of e2, intsT_of e1]; rfl
    · cases h
  | .int _ :: _, _, h => by cases h
  | .non :: _, _, h => by cases h
  | .bl _ :: _, _, h => by cases h
  | .str _ :: _, _, h => by cases h
  | .ty _ :: _, _, h => by cases h
  | .cls _ :: _, _, h => by cases h
  | .fn _ :: _, _, h => by cases h
  | .lst _ :: _, _, h => by cases h
  | .dic _ _ :: _, _, h => by cases h
  | .ins _ _ :: _, _, h => by cases h
  | .obj _ :: _, _, h => by cases h
  | .scr _ :: _, _, h => by cases h
theorem rowsT_map : ∀ (ns : List (List Int)), rowsT (ns.map rowT) = some ns
  | [] => rfl
  | n :: ns => by
    show (match intsT (n.map T.int), rowsT (ns.map rowT) with | some r, some rs => some (r :: rs) | _, _ => none) = _
    rw [rowsT_map ns, intsT_map n]
section
variable {S : Sta} {H : Hp} {ι : Ids} {X : Cx}
theorem reps_bls : ∀ {vs : List V} {ns : List Bool}, Reps S H ι vs (ns.map T.bl) → vs = ns.map V.bl
  | _, [], .nil => rfl
  | _, _ :: _, .cons h r => by cases h; rw [reps_bls r]; rfl
theorem reps_each : ∀ {vs : List V} {rows : List (List Int)}, Reps S H ι vs (rows.map rowT) → PySem.W.EachIs (fun x r => Rep S H ι x (rowT r)) vs rows
  | _, [], .nil => .nil
  | _, _ :: _, .cons h r => .cons h (reps_each r)
theorem each_reps : ∀ {vs : List V} {rows : List (List Int)}, PySem.W.EachIs (fun x r => Rep S H ι x (rowT r)) vs rows → Reps S H ι vs (rows.map rowT)
  | _, _, .nil => .nil
  | _, _, .cons h r => .cons h (each_reps r)
theorem pds_ints : ∀ ns : List Int, pds (ns.map T.int) = some (ns.map PyData.int)
  | [] => by simp only [List.map_nil, pds]
  | n :: ns => by simp only [List.map_cons, pds, pd, pds_ints ns]
theorem dp_row {x : V} {r : List Int} (h : Rep S H ι x (rowT r)) : Dp S.K H x (.tuple (r.map .int)) :=
  pd_dp (by unfold rowT; simp only [pd, pds_ints, Option.map_some]) h
/-- sorted(xs) of rows of ints, of ints -/
def bSorted (ts : List T) : M T := fun μ => match ts with
  | [t] => match lstOf t μ with
    | some us => match rowsT us with
      | some rs => .ok (.lst ((msF leRow 24 rs).map rowT)) μ
      | none => match intsT us with
        | some ns => .ok (.lst ((msF leInt 24 ns).map T.int)) μ
        | none => .bad
    | none => .bad
  | _ => .bad
theorem callT_sorted : CallT S bSorted (fun xs H Q => rSortT S.K xs H Q ∨ rSortI S.K xs H Q) := by
  intro W σ H ι μ xs ts Q hs r h
  unfold bSorted at h
  split at h
  · obtain ⟨x, rfl, rx⟩ := reps1 r
    split at h
    · rename_i us e
      obtain ⟨a, vs, rfl, q, rs⟩ := lst_read e hs rx
      split at h
      · rename_i rows er
        have := rowsT_of er
        subst this
        rw [srtR] at h
        refine .inl ⟨a, vs, rows, fun x r => Rep S H ι x (rowT r), rfl, .inl q, reps_each rs, fun x r hr => dp_row hr, fun xs' p ex hp => Pst.new h hs hp (Rep.newL hs hp (each_reps ex))⟩
      · split at h
        · rename_i ns ei
          have := intsT_of ei
          subst this
          have := reps_ints rs
          subst this
          rw [srtI] at h
          exact .inr ⟨a, ns, rfl, .inl q, fun p hp => Pst.new h hs hp (Rep.newL hs hp (reps_of_ints _))⟩
        · exact h.elim
    · exact h.elim
  · exact h.elim
def bAll (ts : List T) : M T := fun μ => match ts with
  | [t] => match (lstOf t μ).bind blsT with
    | some bs => .ok (.bl (bs.all id)) μ
    | none => .bad
  | _ => .bad
def bAny (ts : List T) : M T := fun μ => match ts with
  | [t] => match (lstOf t μ).bind blsT with
    | some bs => .ok (.bl (bs.any id)) μ
    | none => .bad
  | _ => .bad
def bSum (ts : List T) : M T := fun μ => match ts with
  | [t] => match (lstOf t μ).bind intsT with
    | some bs => .ok (.int bs.sum) μ
    | none => .bad
  | _ => .bad
theorem callT_all : CallT S bAll (rAll S.K) := by
  intro W σ H ι μ xs ts Q hs r h
  unfold bAll at h
  split at h
  · obtain ⟨x, rfl, rx⟩ := reps1 r
    split at h
    · rename_i bs e
      obtain ⟨us, e1, e2⟩ := Option.bind_eq_some_iff.mp e
      obtain ⟨a, vs, rfl, q, rs⟩ := lst_read e1 hs rx
      have := blsT_of e2
      subst this
      have := reps_bls rs
      subst this
      exact ⟨a, bs, rfl, .inl q, Pst.now h hs (.bl _)⟩
    · exact h.elim
  · exact h.elim
theorem callT_any : CallT S bAny (rAny S.K) := by
  intro W σ H ι μ xs ts Q hs r h
  unfold bAny at h
  split at h
  · obtain ⟨x, rfl, rx⟩ := reps1 r
    split at h
    · rename_i bs e
      obtain ⟨us, e1, e2⟩ := Option.bind_eq_some_iff.mp e
      obtain ⟨a, vs, rfl, q, rs⟩ := lst_read e1 hs rx
      have := blsT_of e2
      subst this
      have := reps_bls rs
      subst this
      exact ⟨a, bs, rfl, .inl q, Pst.now h hs (.bl _)⟩
    · exact h.elim
  · exact h.elim
theorem callT_sum : CallT S bSum (rSum S.K) := by
  intro W σ H ι μ xs ts Q hs r h
  unfold bSum at h
  split at h
  · obtain ⟨x, rfl, rx⟩ := reps1 r
    split at h
    · rename_i bs e
      obtain ⟨us, e1, e2⟩ := Option.bind_eq_some_iff.mp e
      obtain ⟨a, vs, rfl, q, rs⟩ := lst_read e1 hs rx
      have := intsT_of e2
      subst this
      have := reps_ints rs
      subst this
      exact ⟨a, bs, rfl, .inl q, Pst.now h hs (.int _)⟩
    · exact h.elim
  · exact h.elim
end
end Tw

/-! TwU: max, min -/
namespace Tw
open PySem L2
section
variable {X : Cx}
theorem alike_intsAll (ns : List Int) : PySem.W.AlikeAll (ns.map PyData.int) := ⟨fun x hx y hy => by
  obtain ⟨a, _, rfl⟩ := List.mem_map.mp hx
  obtain ⟨b, _, rfl⟩ := List.mem_map.mp hy
  simp [PySem.W.alike], fun x hx => by
  obtain ⟨a, _, rfl⟩ := List.mem_map.mp hx
  simp⟩
theorem dpAll_ints {K : PySem.W.Frag} {H : Hp} : ∀ (ns : List Int), DpAll K H (ns.map V.int) (ns.map PyData.int)
  | [] => .nil
  | n :: ns => .cons (.int n) (dpAll_ints ns)
def rMM (K : PySem.W.Frag) (g : Int → List Int → Int) : List V → Hp → VK → Prop := fun vs H Q => ∃ (a : Addr) (n : Int) (ns : List Int), vs = [V.ref a] ∧ (SqT K H a ((n :: ns).map V.int) ∨ SqL K H a ((n :: ns).map V.int)) ∧ Q (.int (g n ns)) H
def rMMd (K : PySem.W.Frag) (g : Int → List Int → Int) : List V → List V → Hp → VK → Prop := fun vs zs H Q => ∃ (a : Addr) (ns : List Int) (d : V), vs = [V.ref a] ∧ zs = [d] ∧ (SqT K H a (ns.map V.int) ∨ SqL K H a (ns.map V.int)) ∧ Q (match ns with
  | [] => d
  | n :: r => .int (g n r)) H
def mxI (n : Int) (ns : List Int) : Int := ns.foldl max n
def mnI (n : Int) (ns : List Int) : Int := ns.foldl min n
theorem depth_ints' (ns : List Int) : PyData.depthAll (ns.map .int) = 0 := PySem.W.depth_ints ns
theorem cr_mx (hc : X.calm = true) (hu : X.A.units + 64 < cLine) : CallR X (.builtin "max") (rMM X.K mxI) := by
  intro pins s σ H vs us Q I r h
  obtain ⟨a, n, ns, rfl, hs, q⟩ := h
  rw [Vals.ref1 r]
  have hb : X.A.units + 1 + PyData.depthAll (PyData.int n :: ns.map .int) < cLine := by
    have := depth_ints' (n :: ns)
    rw [List.map_cons] at this
    rw [this]; omega
  have fin : ∀ (v : Value) (h' : Heap) (tk : Nat) (bs : List Addr), Reads h' v (PySem.W.maxD (.int n) (ns.map .int)) bs → (∀ b o, s.heap.get? b = some o → h'.get? b = some o) → EP X pins σ Q v { s with heap := h', toks := tk } := fun v h' tk bs rd hk => by
    rw [PySem.W.maxD_ints] at rd
    cases rd with
    | int _ t => exact ⟨.int _, H, I.kept hk, ⟨t, rfl⟩, q⟩
  rcases hs with hs | hs
  · obtain ⟨its, rv, hl, hz⟩ := I.tuple hs
    obtain ⟨as, hr⟩ := Dp.readsAll I _ _ its (dpAll_ints (n :: ns)) rv
    exact PySem.W.max_tuple_data (x := .int n) (xs := ns.map .int) (I.ok.hd hc) hl (by simpa using hr) (alike_intsAll (n :: ns)) hb fun i v h' tk bs _ rd hk => fin v h' tk bs rd hk
  · obtain ⟨its, rv, hl, hz⟩ := I.list hs
    obtain ⟨as, hr⟩ := Dp.readsAll I _ _ its (dpAll_ints (n :: ns)) rv
    exact PySem.W.max_list_data (x := .int n) (xs := ns.map .int) (I.ok.hd hc) hl.isList (by simpa using hr) (alike_intsAll (n :: ns)) hb fun i v h' tk bs _ rd hk => fin v h' tk bs rd hk
theorem cr_mxd (hc : X.calm = true) (hu : X.A.units + 64 < cLine) : CallRK X (.builtin "max") ["default"] (rMMd X.K mxI) := by
  intro pins s σ H vs zs us ws Q I r rz h
  obtain ⟨a, ns, d, rfl, rfl, hs, q⟩ := h
  rw [Vals.ref1 r]
  obtain ⟨w, rfl, rw'⟩ := rz.one
  have hb : X.A.units + 1 + PyData.depthAll (ns.map .int) < cLine := by rw [depth_ints']; omega
  have e0 : ns.map PyData.int = [] → ∀ (h' : Heap) (tk : Nat), (∀ b o, s.heap.get? b = some o → h'.get? b = some o) → EP X pins σ Q w { s with heap := h', toks := tk } := fun e h' tk hk => by
    have e' : ns = [] := by simpa using e
    subst e'
    exact ⟨d, H, I.kept hk, rw', q⟩
  have fin : ∀ (y : PyData) (ys : List PyData) (i : Nat) (v : Value) (h' : Heap) (tk : Nat) (bs : List Addr), ns.map PyData.int = y :: ys → Reads h' v (PySem.W.maxD y ys) bs → (∀ b o, s.heap.get? b = some o → h'.get? b = some o) → EP X pins σ Q v { s with heap := h', toks := tk } := fun y ys i v h' tk bs e rd hk => by
    cases ns with
    | nil => cases e
    | cons n r =>
      cases e
      rw [PySem.W.maxD_ints] at rd
      cases rd with
      | int _ t => exact ⟨.int _, H, I.kept hk, ⟨t, rfl⟩, q⟩
  rcases hs with hs | hs
  · obtain ⟨its, rv, hl, hz⟩ := I.tuple hs
    obtain ⟨as, hr⟩ := Dp.readsAll I _ _ its (dpAll_ints ns) rv
    exact PySem.W.max_tuple_default (I.ok.hd hc) hl (by simpa using hr) (alike_intsAll ns) hb e0 fun y ys i v h' tk bs e _ rd hk => fin y ys i v h' tk bs e rd hk
  · obtain ⟨its, rv, hl, hz⟩ := I.list hs
    obtain ⟨as, hr⟩ := Dp.readsAll I _ _ its (dpAll_ints ns) rv
    exact PySem.W.max_list_default (I.ok.hd hc) hl.isList (by simpa using hr) (alike_intsAll ns) hb e0 fun y ys i v h' tk bs e _ rd hk => fin y ys i v h' tk bs e rd hk
theorem cr_mn (hc : X.calm = true) (hu : X.A.units + 64 < cLine) : CallR X (.builtin "min") (rMM X.K mnI) := by
  intro pins s σ H vs us Q I r h
  obtain ⟨a, n, ns, rfl, hs, q⟩ := h
  rw [Vals.ref1 r]
  have hb : X.A.units + 1 + PyData.depthAll (PyData.int n :: ns.map .int) < cLine := by
    have := depth_ints' (n :: ns)
    rw [List.map_cons] at this
    rw [this]; omega
  have fin : ∀ (v : Value) (h' : Heap) (tk : Nat) (bs : List Addr), Reads h' v (PySem.W.minD (.int n) (ns.map .int)) bs → (∀ b o, s.heap.get? b = some o → h'.get? b = some o) → EP X pins σ Q v { s with heap := h', toks := tk } := fun v h' tk bs rd hk => by
    rw [PySem.W.minD_ints] at rd
    cases rd with
    | int _ t => exact ⟨.int _, H, I.kept hk, ⟨t, rfl⟩, q⟩
  rcases hs with hs | hs
  · obtain ⟨its, rv, hl, hz⟩ := I.tuple hs
    obtain ⟨as, hr⟩ := Dp.readsAll I _ _ its (dpAll_ints (n :: ns)) rv
    exact PySem.W.min_tuple_data (x := .int n) (xs := ns.map .int) (I.ok.hd hc) hl (by simpa using hr) (alike_intsAll (n :: ns)) hb fun i v h' tk bs _ rd hk => fin v h' tk bs rd hk
  · obtain ⟨its, rv, hl, hz⟩ := I.list hs
    obtain ⟨as, hr⟩ := Dp.readsAll I _ _ its (dpAll_ints (n :: ns)) rv
    exact PySem.W.min_list_data (x := .int n) (xs := ns.map .int) (I.ok.hd hc) hl.isList (by simpa using hr) (alike_intsAll (n :: ns)) hb fun i v h' tk bs _ rd hk => fin v h' tk bs rd hk
theorem cr_mnd (hc : X.calm = true) (hu : X.A.units + 64 < cLine) : CallRK X (.builtin "min") ["default"] (rMMd X.K mnI) := by
  intro pins s σ H vs zs us ws Q I r rz h
  obtain ⟨a, ns, d, rfl, rfl, hs, q⟩ := h
  rw [Vals.ref1 r]
  obtain ⟨w, rfl, rw'⟩ := rz.one
  have hb : X.A.units + 1 + PyData.depthAll (ns.map .int) < cLine := by rw [depth_ints']; omega
  have e0 : ns.map PyData.int = [] → ∀ (h' : Heap) (tk : Nat), (∀ b o, s.heap.get? b = some o → h'.get? b = some o) → EP X pins σ Q w { s with heap := h', toks := tk } := fun e h' tk hk => by
    have e' : ns = [] := by simpa using e
    subst e'
    exact ⟨d, H, I.kept hk, rw', q⟩
  have fin : ∀ (y : PyData) (ys : List PyData) (i : Nat) (v : Value) (h' : Heap) (tk : Nat) (bs : List Addr), ns.map PyData.int = y :: ys → Reads h' v (PySem.W.minD y ys) bs → (∀ b o, s.heap.get? b = some o → h'.get? b = some o) → EP X pins σ Q v { s with heap := h', toks := tk } := fun y ys i v h' tk bs e rd hk => by
    cases ns with
    | nil => cases e
    | cons n r =>
      cases e
      rw [PySem.W.minD_ints] at rd
      cases rd with
      | int _ t => exact ⟨.int _, H, I.kept hk, ⟨t, rfl⟩, q⟩
  rcases hs with hs | hs
  · obtain ⟨its, rv, hl, hz⟩ := I.tuple hs
    obtain ⟨as, hr⟩ := Dp.readsAll I _ _ its (dpAll_ints ns) rv
    exact PySem.W.min_tuple_default (I.ok.hd hc) hl (by simpa using hr) (alike_intsAll ns) hb e0 fun y ys i v h' tk bs e _ rd hk => fin y ys i v h' tk bs e rd hk
  · obtain ⟨its, rv, hl, hz⟩ := I.list hs
    obtain ⟨as, hr⟩ := Dp.readsAll I _ _ its (dpAll_ints ns) rv
    exact PySem.W.min_list_default (I.ok.hd hc) hl.isList (by simpa using hr) (alike_intsAll ns) hb e0 fun y ys i v h' tk bs e _ rd hk => fin y ys i v h' tk bs e rd hk
end
section
variable {S : Sta} {X : Cx} {W : WX}
/-- max, min of two ints, of a row of ints -/
def bMM (p : Int → Int → Int) (g : Int → List Int → Int) (ts : List T) : M T := fun μ => match ts with
  | [.int i, .int j] => .ok (.int (p i j)) μ
  | [t] => match (seqOf t μ).bind intsT with
    | some (n :: ns) => .ok (.int (g n ns)) μ
    | _ => .bad
  | _ => .bad
def mx2 (i j : Int) : Int := if j > i then j else i
def mn2 (i j : Int) : Int := if j < i then j else i
def bMax : List T → M T := bMM mx2 mxI
def bMin0 : List T → M T := bMM mn2 mnI
def rMM2 (p : Int → Int → Int) : List V → Hp → VK → Prop := fun xs H Q => ∃ i j, xs = [.int i, .int j] ∧ Q (.int (p i j)) H
theorem callT_mm (p : Int → Int → Int) (g : Int → List Int → Int) : CallT S (bMM p g) (fun xs H Q => rMM2 p xs H Q ∨ rMM S.K g xs H Q) := by
  intro W σ H ι μ xs ts Q hs r h
  unfold bMM at h
  split at h
  · obtain ⟨x, y, rfl, rx, ry⟩ := reps2 r
    cases rx; cases ry
    exact .inl ⟨_, _, rfl, Pst.now h hs (.int _)⟩
  · obtain ⟨x, rfl, rx⟩ := reps1 r
    split at h
    · rename_i n ns e
      obtain ⟨us, e1, e2⟩ := Option.bind_eq_some_iff.mp e
      obtain ⟨a, vs, rfl, q, rs⟩ := seq_read e1 hs rx
      have := intsT_of e2
      subst this
      have := reps_ints rs
      subst this
      exact .inr ⟨a, n, ns, rfl, q, Pst.now h hs (.int _)⟩
    · exact h.elim
  · exact h.elim
/-- max(xs, default=d) -/
def kMM (g : Int → List Int → Int) (ts : List T) (d : T) : M T := fun μ => match ts with
  | [t] => match (seqOf t μ).bind intsT with
    | some [] => .ok d μ
    | some (n :: ns) => .ok (.int (g n ns)) μ
    | none => .bad
  | _ => .bad
def cKw (g : List T → T → M T) (a : Env → M (List T)) (d : Env → M T) : Env → M T := fun ρ => bnd (a ρ) fun ts => bnd (d ρ) fun u => g ts u
def tKw1 (K : PySem.W.Frag) (g : Int → List Int → Int) : List V → List V → Hp → VK → Prop := rMMd K g
theorem pv_mmd {id : String} {x : Str} {e d : Expr} {fa : Env → M (List T)} {fd : Env → M T} {g : Int → List Int → Int} {p pos kpos : Pos} (hK : X.K = S.K) (hc : CallRK X (.builtin id) ["default"] (rMMd X.K g)) (hg : Gl X x) (hm : X.mg x = none) (hv : bootBuiltins x = some (.builtin id))
    (ha : PVa X S W [e] fa) (hd : PV X S W d fd) (hn : x ≠ "__name__") (hdb : (x == ("__debug__" : Str)) = false) (hst : starEach [e] X.env = [(false, eval e X.env)]) :
    PV X S W (.Call (.Name x p) [e] [⟨some "default", d, kpos⟩] pos) (cKw (kMM g) fa fd) :=
  PE.weak (pe_callBK hc hg hm hv ha (pk_cons hd pk_nil) hn hdb (by rw [hst]; rfl) (by rw [hst]; rfl) rfl rfl rfl) fun σ H Q ⟨ρ, ι, μ, he, hs, h⟩ => av_then he hs h fun vs H1 ι1 μ1 ts he1 hs1 f1 r1 h1 => ev_then he1 hs1 h1 fun y H2 ι2 μ2 u he2 hs2 f2 r2 h2 => by
    have r1' := r1.fut f2
    unfold kMM at h2
    show rMMd X.K g vs [y] H2 Q
    rw [hK]
    split at h2
    · obtain ⟨x, rfl, rx⟩ := reps1 r1'
      split at h2
      · rename_i e
        obtain ⟨us, e1, e2⟩ := Option.bind_eq_some_iff.mp e
        obtain ⟨a, vs, rfl, q, rs⟩ := seq_read e1 hs2 rx
        have := intsT_of e2
        subst this
        have := reps_ints rs
        subst this
        exact ⟨a, [], y, rfl, rfl, q, Pst.now h2 hs2 r2⟩
      · rename_i n ns e
        obtain ⟨us, e1, e2⟩ := Option.bind_eq_some_iff.mp e
        obtain ⟨a, vs, rfl, q, rs⟩ := seq_read e1 hs2 rx
        have := intsT_of e2
        subst this
        have := reps_ints rs
        subst this
        exact ⟨a, n :: ns, y, rfl, rfl, q, Pst.now h2 hs2 (.int _)⟩
      · exact h2.elim
    · exact h2.elim
end
end Tw

/-! Tw6: statements, loops, comprehensions -/
namespace Tw
open PySem L2

inductive Out where
  | nx (ρ : Env) | bk (ρ : Env) | ct (ρ : Env) | rt (t : T) | xx (ρ : Env) (e : Exc)
section
variable (S : Sta) (W : WX)
def PstS (D : Ends) (H : Hp) (ι : Ids) (r : Res Out) : Prop := match r with
  | .ok (.nx ρ) μ => ∀ σ' H' ι', Fut H ι H' ι' → StRep S H' ι' μ → RepE S H' ι' σ' ρ → D.nx σ' H'
  | .ok (.bk ρ) μ => ∀ σ' H' ι', Fut H ι H' ι' → StRep S H' ι' μ → RepE S H' ι' σ' ρ → D.bk σ' H'
  | .ok (.ct ρ) μ => ∀ σ' H' ι', Fut H ι H' ι' → StRep S H' ι' μ → RepE S H' ι' σ' ρ → D.ct σ' H'
  | .ok (.rt t) μ => ∀ v H' ι', Fut H ι H' ι' → StRep S H' ι' μ → Rep S H' ι' v t → D.rt v H'
  | .ok (.xx ρ e) μ => ∀ σ' cls d H' ι', Fut H ι H' ι' → StRep S H' ι' μ → RepE S H' ι' σ' ρ → RepX S H' ι' cls d e → W cls d σ' H'
  | _ => False
end
/-- a value first; an exception leaves at these slots -/
def bndS {α : Type} (m : M α) (ρ : Env) (k : α → M Out) : M Out := fun μ => match m μ with
  | .ok a μ' => k a μ'
  | .ex e μ' => .ok (.xx ρ e) μ'
  | .bad => .bad
section
variable {S : Sta} {W : WX} {H H1 : Hp} {ι ι1 : Ids} {D : Ends}
theorem PstS.later {r : Res Out} (f : Fut H ι H1 ι1) (h : PstS S W D H ι r) : PstS S W D H1 ι1 r := by
  cases r with
  | ok o μ =>
    cases o with
    | nx ρ => exact fun σ' H' ι' f' => h σ' H' ι' (f.trans f')
    | bk ρ => exact fun σ' H' ι' f' => h σ' H' ι' (f.trans f')
    | ct ρ => exact fun σ' H' ι' f' => h σ' H' ι' (f.trans f')
    | rt t => exact fun σ' H' ι' f' => h σ' H' ι' (f.trans f')
    | xx ρ e => exact fun σ' c d H' ι' f' => h σ' c d H' ι' (f.trans f')
  | ex e μ => exact h
  | bad => exact h
theorem PstS.seq {α β : Type} {rel : Hp → Ids → β → α → Prop} {m : M α} {k : α → M Out} {ρ : Env} {σ : L2.St} {μ : Store} (he : RepE S H ι σ ρ) (h : PstS S W D H ι (bndS m ρ k μ)) :
    Pst S W σ H ι rel (m μ) (fun b H1 => ∃ ι1 μ1 a, Fut H ι H1 ι1 ∧ StRep S H1 ι1 μ1 ∧ rel H1 ι1 b a ∧ PstS S W D H1 ι1 (k a μ1)) := by
  unfold bndS at h
  cases e : m μ with
  | ok a μ1 =>
    rw [e] at h
    exact fun b H1 ι1 f s r => ⟨ι1, μ1, a, f, s, r, h.later f⟩
  | ex x μ1 =>
    rw [e] at h
    exact fun cls d H' ι' f s r => h σ cls d H' ι' f s (he.fut f) r
  | bad =>
    rw [e] at h
    exact h
end
/-- a statement -/
def tSv (S : Sta) (W : WX) (f : Env → M Out) : TS := fun D σ H => ∃ ρ ι μ, RepE S H ι σ ρ ∧ StRep S H ι μ ∧ PstS S W D H ι (f ρ μ)

section
variable {X : Cx} {S : Sta} {W : WX} {e c : Expr} {fe : Env → M T} {ft : Env → M Bool} {pos : Pos} {st : Stmt} {rest : List Stmt} {g k : Env → M Out}
abbrev PVs (X : Cx) (S : Sta) (W : WX) (st : Stmt) (f : Env → M Out) : Prop := PS X st (tSv S W f)
abbrev PVss (X : Cx) (S : Sta) (W : WX) (sts : List Stmt) (f : Env → M Out) : Prop := PSs X sts (tSv S W f)
theorem es_then {D : Ends} {k : T → M Out} {ρ : Env} {σ : L2.St} {H : Hp} {ι : Ids} {μ : Store} (he : RepE S H ι σ ρ) (hs : StRep S H ι μ) (h : PstS S W D H ι (bndS (fe ρ) ρ k μ))
    {R : VK} (next : ∀ x H1 ι1 μ1 t, RepE S H1 ι1 σ ρ → StRep S H1 ι1 μ1 → Fut H ι H1 ι1 → Rep S H1 ι1 x t → PstS S W D H1 ι1 (k t μ1) → R x H1) : tEv S W fe σ H R :=
  ⟨ρ, ι, μ, he, hs, (PstS.seq (rel := Rep S) he h).mono fun x H1 ⟨ι1, μ1, t, f, s, r, q⟩ => next x H1 ι1 μ1 t (he.fut f) s f r q⟩
theorem ts_then {D : Ends} {k : Bool → M Out} {ρ : Env} {σ : L2.St} {H : Hp} {ι : Ids} {μ : Store} (he : RepE S H ι σ ρ) (hs : StRep S H ι μ) (h : PstS S W D H ι (bndS (ft ρ) ρ k μ))
    {R : Bool → Hp → Prop} (next : ∀ x H1 ι1 μ1, RepE S H1 ι1 σ ρ → StRep S H1 ι1 μ1 → Fut H ι H1 ι1 → PstS S W D H1 ι1 (k x μ1) → R x H1) : tTv S W ft σ H R :=
  ⟨ρ, ι, μ, he, hs, (PstS.seq (rel := fun _ _ b a => b = a) he h).mono fun x H1 ⟨ι1, μ1, t, f, s, r, q⟩ => by subst r; exact next x H1 ι1 μ1 (he.fut f) s f q⟩

/-! ### blocks -/
def sNil : Env → M Out := fun ρ => ret (.nx ρ)
def sSeq (a b : Env → M Out) : Env → M Out := fun ρ => bnd (a ρ) fun o => match o with
  | .nx ρ' => b ρ'
  | o => ret o
theorem pss_of_nil : PVss X S W [] sNil := PSs.weak pss_nil fun D σ H ⟨ρ, ι, μ, he, hs, h⟩ => h σ H ι (Fut.refl H ι) hs he
theorem pss_of_cons (h1 : PVs X S W st g) (h2 : PVss X S W rest k) : PVss X S W (st :: rest) (sSeq g k) :=
  PSs.weak (pss_cons h1 h2) fun D σ H ⟨ρ, ι, μ, he, hs, h⟩ => by
    refine ⟨ρ, ι, μ, he, hs, ?_⟩
    have h' : PstS S W D H ι (bnd (g ρ) (fun o => match o with | .nx ρ' => k ρ' | o => ret o) μ) := h
    unfold bnd at h'
    cases e : g ρ μ with
    | ok o μ1 =>
      rw [e] at h'
      cases o with
      | nx ρ1 => exact fun σ' H' ι' f s r => ⟨ρ1, ι', μ1, r, s, h'.later f⟩
      | bk ρ1 => exact h'
      | ct ρ1 => exact h'
      | rt t => exact h'
      | xx ρ1 x => exact h'
    | ex x μ1 => rw [e] at h'; exact h'.elim
    | bad => rw [e] at h'; exact h'.elim
def sPass : Env → M Out := fun ρ => ret (.nx ρ)
def sBreak : Env → M Out := fun ρ => ret (.bk ρ)
def sCont : Env → M Out := fun ρ => ret (.ct ρ)
def sBad : Env → M Out := fun _ => bad
theorem ps_of_pass : PVs X S W (.Pass pos) sPass := PS.weak ps_pass fun D σ H ⟨ρ, ι, μ, he, hs, h⟩ => h σ H ι (Fut.refl H ι) hs he
theorem ps_of_break : PVs X S W (.Break pos) sBreak := PS.weak ps_break fun D σ H ⟨ρ, ι, μ, he, hs, h⟩ => h σ H ι (Fut.refl H ι) hs he
theorem ps_of_cont : PVs X S W (.Continue pos) sCont := PS.weak ps_continue fun D σ H ⟨ρ, ι, μ, he, hs, h⟩ => h σ H ι (Fut.refl H ι) hs he
theorem ps_of_bad : PVs X S W st sBad := PS.weak ps_never fun D σ H ⟨ρ, ι, μ, he, hs, h⟩ => h
def sExpr (a : Env → M T) : Env → M Out := fun ρ => bndS (a ρ) ρ fun _ => ret (.nx ρ)
theorem ps_of_expr (he : PV X S W e fe) (hw : swapsWith e none pos.line X.env = pure false) : PVs X S W (.Expr e pos) (sExpr fe) :=
  PS.weak (ps_expr he hw) fun D σ H ⟨ρ, ι, μ, he, hs, h⟩ => es_then he hs h fun x H1 ι1 μ1 t he1 hs1 f1 r1 h1 => h1 σ H1 ι1 (Fut.refl _ _) hs1 he1
def sRet (a : Env → M T) : Env → M Out := fun ρ => bndS (a ρ) ρ fun t => ret (.rt t)
theorem ps_of_ret (he : PV X S W e fe) : PVs X S W (.Return (some e) pos) (sRet fe) :=
  PS.weak (ps_ret he) fun D σ H ⟨ρ, ι, μ, he, hs, h⟩ => es_then he hs h fun x H1 ι1 μ1 t he1 hs1 f1 r1 h1 => h1 x H1 ι1 (Fut.refl _ _) hs1 r1
def sRetN : Env → M Out := fun _ => ret (.rt .non)
theorem ps_of_retN : PVs X S W (.Return none pos) sRetN := PS.weak ps_retN fun D σ H ⟨ρ, ι, μ, he, hs, h⟩ => h .non H ι (Fut.refl H ι) hs .non
def sIf (c : Env → M Bool) (a b : Env → M Out) : Env → M Out := fun ρ => bndS (c ρ) ρ fun x => if x then a ρ else b ρ
theorem ps_of_if {a b : List Stmt} (hc : PVt X S W c ft) (ha : PVss X S W a g) (hb : PVss X S W b k) : PVs X S W (.If c a b pos) (sIf ft g k) :=
  PS.weak (ps_if hc ha hb) fun D σ H ⟨ρ, ι, μ, he, hs, h⟩ => ts_then he hs h fun x H1 ι1 μ1 he1 hs1 f1 h1 => by
    cases x with
    | true => exact iteT ⟨ρ, ι1, μ1, he1, hs1, h1⟩
    | false => exact iteF ⟨ρ, ι1, μ1, he1, hs1, h1⟩

/-! ### targets -/
/-- v is bound: the slots is alone are stored -/
def tGv (S : Sta) (is : List Nat) (f : T → Env → Option Env) : TG := fun v σ H Q => ∃ ρ ι μ t ρ', RepE S H ι σ ρ ∧ StRep S H ι μ ∧ Rep S H ι v t ∧ f t ρ = some ρ' ∧ ∀ σ', RepE S H ι σ' ρ' → (∀ j, j ∉ is → σ'[j]? = σ[j]?) → σ'.length = σ.length → Q σ' H
def tGvs (S : Sta) (is : List Nat) (f : List T → Env → Option Env) : TGs := fun vs σ H Q => ∃ ρ ι μ ts ρ', RepE S H ι σ ρ ∧ StRep S H ι μ ∧ Reps S H ι vs ts ∧ f ts ρ = some ρ' ∧ ∀ σ', RepE S H ι σ' ρ' → (∀ j, j ∉ is → σ'[j]? = σ[j]?) → σ'.length = σ.length → Q σ' H
theorem PG.weak {tg : Expr} {t t' : TG} (h : PG X tg t) (w : ∀ v σ H Q, t' v σ H Q → t v σ H Q) : PG X tg t' := ⟨fun pins s σ H v u Q I r q => h.run pins s σ H v u Q I r (w v σ H Q q)⟩
theorem PGs.weak {tg : List Expr} {t t' : TGs} (h : PGs X tg t) (w : ∀ v σ H Q, t' v σ H Q → t v σ H Q) : PGs X tg t' := ⟨fun pins s σ H v u Q I r q => h.run pins s σ H v u Q I r (w v σ H Q q)⟩
def gN (i : Nat) : T → Env → Option Env := fun t ρ => some (ρ.set i (some t))
def gsNil : List T → Env → Option Env := fun ts ρ => match ts with
  | [] => some ρ
  | _ => none
def gsCons (a : T → Env → Option Env) (r : List T → Env → Option Env) : List T → Env → Option Env := fun ts ρ => match ts with
  | t :: ts => (a t ρ).bind (r ts)
  | _ => none
def gTp (r : List T → Env → Option Env) : T → Env → Option Env := fun t ρ => match t with
  | .tup ts => r ts ρ
  | _ => none
theorem pg_of_name {i : Nat} {x : Str} (hN : X.N.Nodup) (hi : X.N[i]? = some x) (hx : Loc X.env.scope x) (hf : X.fn x = true ∨ X.env.scope.names.lookup x = some .local) : PG X (.Name x pos) (tGv S [i] (gN i)) :=
  PG.weak (pg_name hN hi hx hf) fun v σ H Q ⟨ρ, ι, μ, t, ρ', he, hs, r, ef, h⟩ => by
    cases ef
    exact h _ (he.set r) (fun j hj => List.getElem?_set_ne fun z => hj (by simp [z])) (List.length_set ..)
theorem pgs_of_nil : PGs X [] (tGvs S [] gsNil) := PGs.weak pgs_nil fun v σ H Q ⟨ρ, ι, μ, ts, ρ', he, hs, r, ef, h⟩ => by
  cases r with
  | nil => cases ef; exact ⟨rfl, h σ he (fun _ _ => rfl) rfl⟩
  | cons _ _ => cases ef
theorem pgs_of_cons {es : List Expr} {is js : List Nat} {f : T → Env → Option Env} {r : List T → Env → Option Env} (h1 : PG X e (tGv S is f)) (h2 : PGs X es (tGvs S js r))
    (hst : (assignEach (e :: es) X.env).map (·.2) = assign e X.env :: (assignEach es X.env).map (·.2)) : PGs X (e :: es) (tGvs S (is ++ js) (gsCons f r)) :=
  PGs.weak (pgs_cons h1 h2 hst) fun v σ H Q ⟨ρ, ι, μ, ts, ρ', he, hs, rr, ef, h⟩ => by
    cases rr with
    | nil => cases ef
    | @cons v vs t ts rv rvs =>
      obtain ⟨ρ1, e1, e2⟩ := Option.bind_eq_some_iff.mp ef
      refine ⟨v, vs, rfl, ρ, ι, μ, t, ρ1, he, hs, rv, e1, fun σ1 he1 k1 l1 => ⟨ρ1, ι, μ, ts, ρ', he1, hs, rvs, e2, fun σ2 he2 k2 l2 => h σ2 he2 (fun j hj => ?_) (l2.trans l1)⟩⟩
      have hj' : j ∉ is ∧ j ∉ js := by simpa using hj
      exact (k2 j hj'.2).trans (k1 j hj'.1)
theorem pg_of_tup {es : List Expr} {k n : Nat} {is : List Nat} {r : List T → Env → Option Env} (hK : X.K = S.K) (hc : X.calm = true) (h : PGs X es (tGvs S is r)) (hl : ∀ ts ρ ρ', r ts ρ = some ρ' → ts.length = n)
    (hn : (assignEach es X.env).length = n) (hst : (assignEach es X.env).findIdx? (·.1) = none) : PG X (.Tuple es k pos) (tGv S is (gTp r)) :=
  PG.weak (pg_tup hc h hn hst) fun v σ H Q ⟨ρ, ι, μ, t, ρ', he, hs, rr, ef, h⟩ => by
    cases t with
    | tup ts =>
      cases rr with
      | tup hx q => exact ⟨_, _, rfl, by rw [hK]; exact hx.sq, by rw [q.length]; exact hl ts ρ ρ' ef, ρ, ι, μ, ts, ρ', he, hs, q, ef, h⟩
    | _ => cases ef
/-- target = value -/
def sAsg (a : Env → M T) (f : T → Env → Option Env) : Env → M Out := fun ρ => bndS (a ρ) ρ fun t => match f t ρ with
  | some ρ' => ret (.nx ρ')
  | none => bad
theorem asg_then {is : List Nat} {f : T → Env → Option Env} {D : Ends} {σ : L2.St} {H : Hp} (h : tSv S W (sAsg fe f) D σ H) : tAsg (tEv S W fe) (tGv S is f) D σ H := by
  obtain ⟨ρ, ι, μ, he, hs, h⟩ := h
  refine es_then he hs h fun x H1 ι1 μ1 t he1 hs1 f1 r1 h1 => ?_
  cases e : f t ρ with
  | none => rw [e] at h1; exact h1.elim
  | some ρ' =>
    rw [e] at h1
    exact ⟨ρ, ι1, μ1, t, ρ', he1, hs1, r1, e, fun σ' he' _ _ => h1 σ' H1 ι1 (Fut.refl _ _) hs1 he'⟩
theorem ps_of_asg {tg : Expr} {is : List Nat} {f : T → Env → Option Env} (he : PV X S W e fe) (hg : PG X tg (tGv S is f)) (hs : swapsWithSole [tg] e pos.line X.env = pure false) (hw : swappedStores [tg] e X.env = pure none)
    (h1 : (assignEach [tg] X.env).map (·.2) = [assign tg X.env]) : PVs X S W (.Assign [tg] e pos) (sAsg fe f) :=
  PS.weak (ps_asg he hg hs hw h1) fun D σ H h => asg_then h
def sSet (i : Nat) (a : Env → M T) : Env → M Out := fun ρ => bndS (a ρ) ρ fun t => ret (.nx (ρ.set i (some t)))
theorem set_then {i : Nat} {D : Ends} {σ : L2.St} {H : Hp} (h : tSv S W (sSet i fe) D σ H) : tAsg (tEv S W fe) (gName i) D σ H := by
  obtain ⟨ρ, ι, μ, he, hs, h⟩ := h
  exact es_then he hs h fun x H1 ι1 μ1 t he1 hs1 f1 r1 h1 => h1 _ H1 ι1 (Fut.refl _ _) hs1 (he1.set r1)
theorem ps_of_set {i : Nat} {x : Str} {pos' : Pos} (hN : X.N.Nodup) (hi : X.N[i]? = some x) (hx : Loc X.env.scope x) (he : PV X S W e fe) (hs : swapsWith e (some (.Name x pos')) pos.line X.env = pure false) (hf : X.fn x = true ∨ X.env.scope.names.lookup x = some .local) :
    PVs X S W (.Assign [.Name x pos'] e pos) (sSet i fe) := PS.weak (ps_set hN hi hx he hs hf) fun D σ H h => set_then h
/-- a, b = x, y -/
def sPar (i j : Nat) (a b : Env → M T) : Env → M Out := fun ρ => bndS (aCons a (aCons b aNil) ρ) ρ fun ts => match ts with
  | [t, u] => ret (.nx ((ρ.set i (some t)).set j (some u)))
  | _ => bad
theorem ps_of_par {i j : Nat} {x y : Str} {a b : Expr} {fa fb : Env → M T} {px py pt : Pos} {kt k2 : Nat} {pt2 : Pos} (hc : X.calm = true) (hN : X.N.Nodup) (hi : X.N[i]? = some x) (hj : X.N[j]? = some y) (hij : i ≠ j)
    (hx : X.env.scope.names.lookup x = some .local) (hy : X.env.scope.names.lookup y = some .local) (ha : PVa X S W [a, b] (aCons fa (aCons fb aNil)))
    (hw : swappedStores [.Tuple [.Name x px, .Name y py] kt pt] (.Tuple [a, b] k2 pt2) X.env = pure (some [x, y]))
    (hs : swapsWithSole [.Tuple [.Name x px, .Name y py] kt pt] (.Tuple [a, b] k2 pt2) pos.line X.env = pure false) :
    PVs X S W (.Assign [.Tuple [.Name x px, .Name y py] kt pt] (.Tuple [a, b] k2 pt2) pos) (sPar i j fa fb) :=
  PS.weak (ps_par hc hN hi hj hij hx hy ha hw hs) fun D σ H ⟨ρ, ι, μ, he, hs, h⟩ =>
    ⟨ρ, ι, μ, he, hs, (PstS.seq (rel := Reps S) he h).mono fun vs H1 ⟨ι1, μ1, ts, f, s, r, q⟩ => by
      split at q
      · obtain ⟨v, w, rfl, rv, rw'⟩ := reps2 r
        exact ⟨v, w, rfl, q _ H1 ι1 (Fut.refl _ _) s (((he.fut f).set rv).set rw')⟩
      · exact q.elim⟩

/-! ### walks -/
/-- the walk gives these, one after another, whatever is made and changed meanwhile -/
def Wlk (S : Sta) (J : It) (ts : List T) (H : Hp) (ι : Ids) : Prop := ∀ Hc ιc μc, Fu0 H ι Hc ιc → StRep S Hc ιc μc →
  (∀ (i : Nat) t, ts[i]? = some t → J.go i Hc ∧ ∀ x H2, J.yld i Hc x H2 → (∀ b o, Hc b = some o → H2 b = some o) ∧ Rep S H2 ιc x t) ∧ J.stop ts.length Hc
theorem Wlk.later {J : It} {ts : List T} {H H1 : Hp} {ι ι1 : Ids} (w : Wlk S J ts H ι) (f : Fut H ι H1 ι1) : Wlk S J ts H1 ι1 := fun Hc ιc μc g s => w Hc ιc μc (f.toFu0.trans g) s
def tIv (S : Sta) (W : WX) (f : Env → M (List T)) : TI := fun σ H R => ∃ ρ ι μ, RepE S H ι σ ρ ∧ StRep S H ι μ ∧ Pst S W σ H ι (fun H' ι' J ts => Wlk S J ts H' ι') (f ρ μ) R
abbrev PVi (X : Cx) (S : Sta) (W : WX) (tg iter : Expr) (f : Env → M (List T)) : Prop := PI X tg iter (tIv S W f)
theorem PI.weak {tg iter : Expr} {t t' : TI} (h : PI X tg iter t) (w : ∀ σ H R, t' σ H R → t σ H R) : PI X tg iter t' := ⟨fun pins s σ H R I q => h.run pins s σ H R I (w σ H R q)⟩
/-- the items of a tuple, of a list that no one changes -/
def mIt (t : T) : M (List T) := match t with
  | .tup ts => ret ts
  | .lst ts => ret ts
  | _ => bad
def iSeq (a : Env → M T) : Env → M (List T) := fun ρ => bnd (a ρ) mIt
theorem wlk_tup {K : PySem.W.Frag} {a : Addr} {vs : List V} {ts : List T} {H : Hp} {ι : Ids} (hK : K = S.K) (hx : RT S.K H ι a vs) (q : Reps S H ι vs ts) (uniq : ∀ H xs ys, SqT K H a xs → SqT K H a ys → True := by intros; trivial) :
    Wlk S (Itt K a) ts H ι := fun Hc ιc μc f s => by
  subst hK
  have hc := (hx.fut f).sq
  refine ⟨fun i t e => ?_, vs, hc, Nat.le_of_eq q.length⟩
  obtain ⟨v, e1, r1⟩ := q.get e
  exact ⟨⟨vs, v, hc, e1⟩, fun x H2 ⟨h1, h2⟩ => by
    subst h1
    have := h2 vs hc
    rw [e1] at this
    cases this
    exact ⟨fun _ _ z => z, r1.fut0 f⟩⟩
theorem wlk_lst {K : PySem.W.Frag} {a : Addr} {vs : List V} {ts : List T} {H : Hp} {ι : Ids} (hK : K = S.K) (hx : RL S.K H ι a vs) (q : Reps S H ι vs ts) : Wlk S (Itl K a) ts H ι := fun Hc ιc μc f s => by
  subst hK
  have hc := (hx.fut f).sq
  refine ⟨fun i t e => ?_, vs, hc, Nat.le_of_eq q.length⟩
  obtain ⟨v, e1, r1⟩ := q.get e
  exact ⟨⟨vs, v, hc, e1⟩, fun x H2 ⟨h1, h2⟩ => by
    subst h1
    have := h2 vs hc
    rw [e1] at this
    cases this
    exact ⟨fun _ _ z => z, r1.fut0 f⟩⟩
/-- over a list or a tuple -/
def iSeqB (K : PySem.W.Frag) (tl : TE) : TI := fun σ H R => tl σ H fun x H1 => ∃ a, x = .ref a ∧ (((∃ xs, SqL K H1 a xs) ∧ R (Itl K a) H1) ∨ ((∃ xs, SqT K H1 a xs) ∧ R (Itt K a) H1))
theorem pi_seqB {tg l : Expr} {tl : TE} (hl : PE X l tl) : PI X tg l (iSeqB X.K tl) := by
  refine ⟨fun pins s σ H R I h => ?_⟩
  refine thn (hl.run pins s σ H _ I h) fun v s1 ⟨x, H1, I1, r1, q1⟩ => ?_
  obtain ⟨a, e, ⟨⟨xs, hq⟩, q⟩ | ⟨⟨xs, hq⟩, q⟩⟩ := q1
  · subst e
    cases r1
    obtain ⟨its, rv, p, hz⟩ := I1.list hq
    refine wpAny_pyIter_list p.isList ?_
    refine ⟨s1.heap.objs.size, [s1.heap.objs.size], _, _, H1, rfl, I1.kept (t' := s1.toks) fun b o e => Heap.get?_push_of_some _ e, turn_list a _, ⟨_, Heap.get?_push_size _ rfl, rfl, rfl⟩, fun b hb => ?_, q⟩
    have e : b = s1.heap.objs.size := by simpa using hb
    subst e
    exact I1.fpOk (Nat.le_refl _) (I1.hok.fresh (Nat.le_refl _))
  · subst e
    cases r1
    obtain ⟨its, rv, p, hz⟩ := I1.tuple hq
    refine wpAny_pyIter_tuple (show s1.heap.IsTuple a its.toArray from p) ?_
    refine ⟨s1.heap.objs.size, [s1.heap.objs.size], _, _, H1, rfl, I1.kept (t' := s1.toks) fun b o e => Heap.get?_push_of_some _ e, turn_tuple a _, ⟨_, Heap.get?_push_size _ rfl, rfl, rfl⟩, fun b hb => ?_, q⟩
    have e : b = s1.heap.objs.size := by simpa using hb
    subst e
    exact I1.fpOk (Nat.le_refl _) (I1.hok.fresh (Nat.le_refl _))
theorem pvi_seq {tg l : Expr} {fa : Env → M T} (hK : X.K = S.K) (hl : PV X S W l fa) : PVi X S W tg l (iSeq fa) :=
  PI.weak (pi_seqB hl) fun σ H R ⟨ρ, ι, μ, he, hs, h⟩ => ev_then he hs h fun x H1 ι1 μ1 t he1 hs1 f1 r1 h1 => by
    rw [hK]
    cases r1 with
    | tup hx q => exact ⟨_, rfl, .inr ⟨⟨_, hx.sq⟩, h1 _ H1 ι1 (Fut.refl _ _) hs1 (wlk_tup rfl hx q)⟩⟩
    | lst hx q => exact ⟨_, rfl, .inl ⟨⟨_, hx.sq⟩, h1 _ H1 ι1 (Fut.refl _ _) hs1 (wlk_lst rfl hx q)⟩⟩
    | _ => exact h1.elim
/-- range(n), range(a, b) -/
def rgT (i j : Int) : List T := (List.range (j - i).toNat).map fun k => T.int (i + (k : Nat))
theorem rgT_length (i j : Int) : (rgT i j).length = (j - i).toNat := by unfold rgT; rw [List.length_map, List.length_range]
theorem rgT_get {i j : Int} {k : Nat} {t : T} (h : (rgT i j)[k]? = some t) : k < (j - i).toNat ∧ t = .int (i + (k : Nat)) := by
  unfold rgT at h
  rw [List.getElem?_map] at h
  obtain ⟨a, h1, h2⟩ := Option.map_eq_some_iff.mp h
  obtain ⟨h3, h4⟩ := List.getElem?_eq_some_iff.mp h1
  rw [List.length_range] at h3
  rw [List.getElem_range] at h4
  subst h4
  exact ⟨h3, h2.symm⟩
@[irreducible] def inR (i : Int) : Bool := decide (-(2 ^ 62) ≤ i) && decide (i < 2 ^ 62)
theorem inR_iff {i : Int} (h : inR i = true) : -(2 ^ 62) ≤ i ∧ i < 2 ^ 62 := by
  unfold inR at h
  rw [Bool.and_eq_true, decide_eq_true_eq, decide_eq_true_eq] at h
  exact h
def mRg1 (ts : List T) : M (List T) := match ts with
  | [.int j] => if inR j then ret (rgT 0 j) else bad
  | _ => bad
def mRg2 (ts : List T) : M (List T) := match ts with
  | [.int i, .int j] => if inR i && inR j then ret (rgT i j) else bad
  | _ => bad
def iRg1 (a : Env → M (List T)) : Env → M (List T) := fun ρ => bnd (a ρ) mRg1
def iRg2 (a : Env → M (List T)) : Env → M (List T) := fun ρ => bnd (a ρ) mRg2
theorem wlk_range {i j : Int} {H : Hp} {ι : Ids} : Wlk S (Itr i (j - i).toNat) (rgT i j) H ι := fun Hc ιc μc f s => by
  refine ⟨fun k t e => ?_, Nat.le_of_eq (rgT_length i j).symm⟩
  obtain ⟨h1, rfl⟩ := rgT_get e
  exact ⟨h1, fun x H2 ⟨e1, e2⟩ => by
    subst e1; subst e2
    exact ⟨fun _ _ z => z, .int _⟩⟩
theorem pvi_range1 {tg a : Expr} {fa : Env → M (List T)} {p : Pos} (hg : Gl X "range") (hm : X.mg "range" = none) (ha : PVa X S W [a] fa) (hst : starEach [a] X.env = [(false, eval a X.env)]) : PVi X S W tg (.Call (.Name "range" p) [a] [] pos) (iRg1 fa) :=
  PI.weak (pi_range1 hg hm ha hst) fun σ H R ⟨ρ, ι, μ, he, hs, h⟩ => av_then he hs h fun vs H1 ι1 μ1 ts he1 hs1 f1 r1 h1 => by
    unfold mRg1 at h1
    split at h1
    · obtain ⟨x, rfl, rx⟩ := reps1 r1
      cases rx
      rename_i j
      split at h1
      · rename_i hj
        refine ⟨j, rfl, (inR_iff hj).1, (inR_iff hj).2, h1 _ H1 ι1 (Fut.refl _ _) hs1 ?_⟩
        have := wlk_range (S := S) (i := 0) (j := j) (H := H1) (ι := ι1)
        rw [Int.sub_zero] at this
        exact this
      · exact h1.elim
    · exact h1.elim
theorem pvi_range2 {tg a b : Expr} {fa : Env → M (List T)} {p : Pos} (hg : Gl X "range") (hm : X.mg "range" = none) (ha : PVa X S W [a, b] fa) (hst : starEach [a, b] X.env = [(false, eval a X.env), (false, eval b X.env)]) (hst2 : starEach [b] X.env = [(false, eval b X.env)]) :
    PVi X S W tg (.Call (.Name "range" p) [a, b] [] pos) (iRg2 fa) :=
  PI.weak (pi_range2 hg hm ha hst hst2) fun σ H R ⟨ρ, ι, μ, he, hs, h⟩ => av_then he hs h fun vs H1 ι1 μ1 ts he1 hs1 f1 r1 h1 => by
    unfold mRg2 at h1
    split at h1
    · obtain ⟨x, y, rfl, rx, ry⟩ := reps2 r1
      cases rx
      cases ry
      rename_i i j
      split at h1
      · rename_i hj
        rw [Bool.and_eq_true] at hj
        exact ⟨i, j, rfl, ⟨(inR_iff hj.1).1, (inR_iff hj.1).2, (inR_iff hj.2).1, (inR_iff hj.2).2⟩, h1 _ H1 ι1 (Fut.refl _ _) hs1 wlk_range⟩
      · exact h1.elim
    · exact h1.elim
/-- pairs -/
def prs (ts us : List T) : List T := (ts.zip us).map fun p => .tup [p.1, p.2]
theorem prs_get {ts us : List T} {k : Nat} {t : T} (h : (prs ts us)[k]? = some t) : ∃ a b, ts[k]? = some a ∧ us[k]? = some b ∧ t = .tup [a, b] := by
  unfold prs at h
  rw [List.getElem?_map] at h
  obtain ⟨⟨a, b⟩, h1, rfl⟩ := Option.map_eq_some_iff.mp h
  obtain ⟨h3, h4⟩ := List.getElem?_zip_eq_some.mp h1
  exact ⟨a, b, h3, h4, rfl⟩
def enT (ts : List T) : List T := prs ((List.range ts.length).map fun k => T.int (k : Nat)) ts
theorem enT_get {ts : List T} {k : Nat} {t : T} (h : (enT ts)[k]? = some t) : ∃ a, ts[k]? = some a ∧ t = .tup [.int (k : Nat), a] := by
  obtain ⟨a, b, h1, h2, rfl⟩ := prs_get h
  rw [List.getElem?_map] at h1
  obtain ⟨c, h3, rfl⟩ := Option.map_eq_some_iff.mp h1
  obtain ⟨h4, h5⟩ := List.getElem?_eq_some_iff.mp h3
  rw [List.getElem_range] at h5
  subst h5
  exact ⟨b, h2, rfl⟩
theorem enT_length (ts : List T) : (enT ts).length = ts.length := by
  unfold enT prs
  simp
theorem prs_length (ts us : List T) : (prs ts us).length = min ts.length us.length := by
  unfold prs
  simp
theorem rep_pair {H : Hp} {ι : Ids} {μ : Store} {p : Addr} {x y : V} {a b : T} (s : StRep S H ι μ) (hp : H p = none) (rx : Rep S H ι x a) (ry : Rep S H ι y b) : (∀ c o, H c = some o → upd H p (.tup [x, y]) c = some o) ∧ Rep S (upd H p (.tup [x, y])) ι (.ref p) (.tup [a, b]) :=
  ⟨fun c o e => by rw [upd_ne (ne_of_none e hp)]; exact e, Rep.newT s hp (.cons rx (.cons ry .nil))⟩
theorem wlk_enum {K : PySem.W.Frag} {a : Addr} {vs : List V} {ts : List T} {H : Hp} {ι : Ids} (hK : K = S.K) (hx : RL S.K H ι a vs) (q : Reps S H ι vs ts) : Wlk S (Ite K a) (enT ts) H ι := fun Hc ιc μc f s => by
  subst hK
  have hc := (hx.fut f).sq
  refine ⟨fun i t e => ?_, vs, hc, by rw [enT_length, q.length]; exact Nat.le_refl _⟩
  obtain ⟨b, e0, rfl⟩ := enT_get e
  obtain ⟨v, e1, r1⟩ := q.get e0
  exact ⟨⟨vs, v, hc, e1⟩, fun x H2 ⟨p, w, h1, hp, h2, h3⟩ => by
    subst h1; subst h2
    have := h3 vs hc
    rw [e1] at this
    cases this
    exact rep_pair s hp (.int _) (r1.fut0 f)⟩
theorem wlk_zip {K : PySem.W.Frag} {a b : Addr} {vs ws : List V} {ts us : List T} {H : Hp} {ι : Ids} (hK : K = S.K) (hx : RL S.K H ι a vs) (q : Reps S H ι vs ts) (hy : RL S.K H ι b ws) (q' : Reps S H ι ws us) : Wlk S (Itz K a b) (prs ts us) H ι := fun Hc ιc μc f s => by
  subst hK
  have hc := (hx.fut f).sq
  have hc' := (hy.fut f).sq
  refine ⟨fun i t e => ?_, vs, ws, hc, hc', by rw [prs_length, q.length, q'.length]; omega⟩
  obtain ⟨c, d, e0, e0', rfl⟩ := prs_get e
  obtain ⟨v, e1, r1⟩ := q.get e0
  obtain ⟨w, e1', r1'⟩ := q'.get e0'
  exact ⟨⟨vs, ws, v, w, hc, hc', e1, e1'⟩, fun x H2 ⟨p, y, z, h1, hp, h2, h3, h4⟩ => by
    subst h1; subst h2
    have := h3 vs hc
    rw [e1] at this
    cases this
    have := h4 ws hc'
    rw [e1'] at this
    cases this
    exact rep_pair s hp (r1.fut0 f) (r1'.fut0 f)⟩
theorem wlk_zipT {K : PySem.W.Frag} {a b : Addr} {vs ws : List V} {ts us : List T} {H : Hp} {ι : Ids} (hK : K = S.K) (hx : RT S.K H ι a vs) (q : Reps S H ι vs ts) (hy : RT S.K H ι b ws) (q' : Reps S H ι ws us) : Wlk S (RZ.ItzT K a b) (prs ts us) H ι := fun Hc ιc μc f s => by
  subst hK
  have hc := (hx.fut f).sq
  have hc' := (hy.fut f).sq
  refine ⟨fun i t e => ?_, vs, ws, hc, hc', by rw [prs_length, q.length, q'.length]; omega⟩
  obtain ⟨c, d, e0, e0', rfl⟩ := prs_get e
  obtain ⟨v, e1, r1⟩ := q.get e0
  obtain ⟨w, e1', r1'⟩ := q'.get e0'
  exact ⟨⟨vs, ws, v, w, hc, hc', e1, e1'⟩, fun x H2 ⟨p, y, z, h1, hp, h2, h3, h4⟩ => by
    subst h1; subst h2
    have := h3 vs hc
    rw [e1] at this
    cases this
    have := h4 ws hc'
    rw [e1'] at this
    cases this
    exact rep_pair s hp (r1.fut0 f) (r1'.fut0 f)⟩
def mZip (ts : List T) : M (List T) := match ts with
  | [.lst a, .lst b] => ret (prs a b)
  | [.tup a, .tup b] => ret (prs a b)
  | _ => bad
def iZp (a : Env → M (List T)) : Env → M (List T) := fun ρ => bnd (a ρ) mZip
theorem pvi_zip {e e2 : Expr} {fa : Env → M (List T)} {p tpos : Pos} {elts : List Expr} {kk : Nat} (hK : X.K = S.K) (hg : Gl X "zip") (hm : X.mg "zip" = none) (ha : PVa X S W [e, e2] fa) (hst : starEach [e, e2] X.env = (false, eval e X.env) :: starEach [e2] X.env) (hst2 : ((backTo pos (starEach [e2] X.env)).any fun x => x.1) = false) :
    PVi X S W (.Tuple elts kk tpos) (.Call (.Name "zip" p) [e, e2] [] pos) (iZp fa) :=
  PI.weak (RZ.pi_zipA hg hm ha hst hst2) fun σ H R ⟨ρ, ι, μ, he, hs, h⟩ => av_then he hs h fun vs H1 ι1 μ1 ts he1 hs1 f1 r1 h1 => by
    rw [hK]
    unfold mZip at h1
    split at h1
    · obtain ⟨x, y, rfl, rx, ry⟩ := reps2 r1
      cases rx with
      | lst hx q => cases ry with
        | lst hy q' => exact ⟨_, _, _, _, rfl, .inl ⟨hx.sq, hy.sq, h1 _ H1 ι1 (Fut.refl _ _) hs1 (wlk_zip rfl hx q hy q')⟩⟩
    · obtain ⟨x, y, rfl, rx, ry⟩ := reps2 r1
      cases rx with
      | tup hx q => cases ry with
        | tup hy q' => exact ⟨_, _, _, _, rfl, .inr ⟨hx.sq, hy.sq, h1 _ H1 ι1 (Fut.refl _ _) hs1 (wlk_zipT rfl hx q hy q')⟩⟩
    · exact h1.elim

/-! ### for -/
def forL : List T → (T → Env → M Out) → Env → M Out
  | [], _, ρ => ret (.nx ρ)
  | t :: ts, step, ρ => bnd (step t ρ) fun o => match o with
    | .nx ρ' => forL ts step ρ'
    | .ct ρ' => forL ts step ρ'
    | .bk ρ' => ret (.nx ρ')
    | .rt u => ret (.rt u)
    | .xx ρ' e => ret (.xx ρ' e)
def stp (f : T → Env → Option Env) (b : Env → M Out) (t : T) (ρ : Env) : M Out := match f t ρ with
  | some ρ2 => b ρ2
  | none => bad
theorem stp_some {f : T → Env → Option Env} {b : Env → M Out} {t : T} {ρ ρ2 : Env} (h : f t ρ = some ρ2) : stp f b t ρ = b ρ2 := by unfold stp; rw [h]
theorem stp_none {f : T → Env → Option Env} {b : Env → M Out} {t : T} {ρ : Env} (h : f t ρ = none) : stp f b t ρ = bad := by unfold stp; rw [h]
def sFor (it : Env → M (List T)) (f : T → Env → Option Env) (b : Env → M Out) : Env → M Out := fun ρ => bndS (it ρ) ρ fun ts => forL ts (stp f b) ρ
theorem ps_of_for {tg iter : Expr} {body : List Stmt} {fi : Env → M (List T)} {is : List Nat} {f : T → Env → Option Env} (hp : PassesOwn (model X.prog X.w) X.A X.env X.xe) (hc : X.calm = true) (hi : PVi X S W tg iter fi) (hg : PG X tg (tGv S is f)) (hb : PVss X S W body g)
    (hfs : ∀ x, foldedSetIterable iter X.env x = pure x) : PVs X S W (.For tg iter body [] pos) (sFor fi f g) :=
  PS.weak (ps_for hp hc hi hg hb hfs) fun D σ H ⟨ρ, ι, μ, he, hs, h⟩ => by
    refine ⟨ρ, ι, μ, he, hs, (PstS.seq (rel := fun H' ι' J ts => Wlk S J ts H' ι') he h).mono fun J H1 ⟨ι1, μ1, ts, f1, hs1, w, h1⟩ => ?_⟩
    refine ⟨fun i m σ H => m = ts.length - i ∧ i ≤ ts.length ∧ ∃ ι μ ρ, Fut H1 ι1 H ι ∧ StRep S H ι μ ∧ RepE S H ι σ ρ ∧ PstS S W D H ι (forL (ts.drop i) (stp f g) ρ μ),
      ⟨ts.length, by simp, Nat.zero_le _, ι1, μ1, ρ, Fut.refl _ _, hs1, he.fut f1, by rw [List.drop_zero]; exact h1⟩, ?_⟩
    rintro i m σ2 H2 ⟨rfl, hi2, ι2, μ2, ρ2, f2, hs2, he2, h2⟩
    obtain ⟨go, stop⟩ := w H2 ι2 μ2 f2.toFu0 hs2
    by_cases hlt : i < ts.length
    · refine .inr ?_
      have et : ts[i]? = some ts[i] := List.getElem?_eq_getElem hlt
      obtain ⟨g1, g2⟩ := go i _ et
      rw [List.drop_eq_getElem_cons hlt] at h2
      refine ⟨g1, fun σ' H' => ∃ ι μ ρ, Fut H1 ι1 H' ι ∧ StRep S H' ι μ ∧ RepE S H' ι σ' ρ ∧ PstS S W D H' ι (forL (ts.drop (i + 1)) (stp f g) ρ μ),
        fun σ' H' n => ⟨ts.length - (i + 1), by omega, rfl, hlt, n⟩, fun x H3 y => ?_⟩
      obtain ⟨k3, r3⟩ := g2 x H3 y
      have f3 : Fut H2 ι2 H3 ι2 := Fut.grow hs2.tk k3
      have hs3 : StRep S H3 ι2 μ2 := hs2.same k3
      have h3 := PstS.later f3 h2
      unfold forL at h3
      cases ef : f ts[i] ρ2 with
      | none => unfold bnd at h3; rw [stp_none ef] at h3; exact h3.elim
      | some ρ3 =>
        refine ⟨ρ2, ι2, μ2, ts[i], ρ3, he2.fut f3, hs3, r3, ef, fun σ4 he4 _ _ => ⟨ρ3, ι2, μ2, he4, hs3, ?_⟩⟩
        unfold bnd at h3
        rw [stp_some ef] at h3
        cases eg : g ρ3 μ2 with
        | bad => rw [eg] at h3; exact h3.elim
        | ex e2 μ4 => rw [eg] at h3; exact h3.elim
        | ok o μ4 =>
          rw [eg] at h3
          cases o with
          | nx ρ4 => exact fun σ' H' ι' f' s' r' => ⟨ι', μ4, ρ4, (f2.trans f3).trans f', s', r', h3.later f'⟩
          | ct ρ4 => exact fun σ' H' ι' f' s' r' => ⟨ι', μ4, ρ4, (f2.trans f3).trans f', s', r', h3.later f'⟩
          | bk ρ4 => exact h3
          | rt u => exact h3
          | xx ρ4 e => exact h3
    · have e : i = ts.length := by omega
      subst e
      rw [List.drop_length] at h2
      exact .inl ⟨stop, h2 σ2 H2 ι2 (Fut.refl _ _) hs2 he2⟩
/-- while, at most so many turns -/
def whileL : Nat → (Env → M Bool) → (Env → M Out) → Env → M Out
  | 0, _, _, _ => bad
  | n + 1, c, b, ρ => bndS (c ρ) ρ fun k => if k then bnd (b ρ) fun o => match o with
    | .nx ρ' => whileL n c b ρ'
    | .ct ρ' => whileL n c b ρ'
    | .bk ρ' => ret (.nx ρ')
    | .rt u => ret (.rt u)
    | .xx ρ' e => ret (.xx ρ' e) else ret (.nx ρ)
theorem ps_of_while {body : List Stmt} (n : Nat) (hp : PassesOwn (model X.prog X.w) X.A X.env X.xe) (hc : PVt X S W c ft) (hb : PVss X S W body g) : PVs X S W (.While c body [] pos) (whileL n ft g) :=
  PS.weak (ps_while hp hc hb) fun D σ H ⟨ρ, ι, μ, he, hs, h⟩ => by
    refine ⟨fun m σ H => ∃ ρ ι μ, RepE S H ι σ ρ ∧ StRep S H ι μ ∧ PstS S W D H ι (whileL m ft g ρ μ), ⟨n, ρ, ι, μ, he, hs, h⟩, ?_⟩
    rintro m σ1 H1 ⟨ρ1, ι1, μ1, he1, hs1, h1⟩
    cases m with
    | zero => exact h1.elim
    | succ m =>
      refine ts_then he1 hs1 h1 fun x H2 ι2 μ2 he2 hs2 f2 h2 => ?_
      cases x with
      | false => exact iteF (h2 σ1 H2 ι2 (Fut.refl _ _) hs2 he2)
      | true =>
        refine iteT ⟨fun σ' H' => ∃ ρ ι μ, RepE S H' ι σ' ρ ∧ StRep S H' ι μ ∧ PstS S W D H' ι (whileL m ft g ρ μ), fun σ' H' q => ⟨m, Nat.lt_succ_self _, q⟩, ρ1, ι2, μ2, he2, hs2, ?_⟩
        have h3 : PstS S W D H2 ι2 (bnd (g ρ1) (fun o => match o with | .nx ρ' => whileL m ft g ρ' | .ct ρ' => whileL m ft g ρ' | .bk ρ' => ret (.nx ρ') | .rt u => ret (.rt u) | .xx ρ' e => ret (.xx ρ' e)) μ2) := h2
        unfold bnd at h3
        cases eg : g ρ1 μ2 with
        | bad => rw [eg] at h3; exact h3.elim
        | ex e2 μ4 => rw [eg] at h3; exact h3.elim
        | ok o μ4 =>
          rw [eg] at h3
          cases o with
          | nx ρ4 => exact fun σ' H' ι' f' s' r' => ⟨ρ4, ι', μ4, r', s', h3.later f'⟩
          | ct ρ4 => exact fun σ' H' ι' f' s' r' => ⟨ρ4, ι', μ4, r', s', h3.later f'⟩
          | bk ρ4 => exact h3
          | rt u => exact h3
          | xx ρ4 e => exact h3
end
end Tw

/-! TwV: stores at subscripts, methods of lists and dicts, dicts -/
namespace Tw
open PySem L2
/-! ### keys -/
def keyT : T → Option Key
  | .int i => some (.inl i)
  | .str x => some (.inr x)
  | _ => none
def unKey : Key → T
  | .inl i => .int i
  | .inr x => .str x
theorem keyT_of {S : Sta} {H : Hp} {ι : Ids} {v : V} {t : T} {k : Key} (e : keyT t = some k) (r : Rep S H ι v t) : v = kV k := by
  cases r <;> first | (cases e; done) | (cases e; rfl)
theorem rep_key {S : Sta} {H : Hp} {ι : Ids} (k : Key) : Rep S H ι (kV k) (unKey k) := by
  cases k with
  | inl i => exact .int i
  | inr x => exact .str x
theorem reps_keys {S : Sta} {H : Hp} {ι : Ids} : ∀ (ks : List Key), Reps S H ι (ks.map kV) (ks.map unKey)
  | [] => .nil
  | k :: ks => .cons (rep_key k) (reps_keys ks)
/-- what stands at a key -/
def getL {α : Type} : List Key → List α → Key → Option α
  | k' :: ks, x :: xs, k => if k' = k then some x else getL ks xs k
  | _, _, _ => none
def setL {α : Type} : List Key → List α → Key → α → List α
  | k' :: ks, x :: xs, k, y => (if k' = k then y else x) :: setL ks xs k y
  | _, xs, _, _ => xs
def hasL (ks : List Key) (k : Key) : Bool := ks.any fun k' => decide (k' = k)
def putL {α : Type} (ks : List Key) (xs : List α) (k : Key) (y : α) : List Key × List α := if hasL ks k then (ks, setL ks xs k y) else (ks ++ [k], xs ++ [y])
theorem setL_length {α : Type} : ∀ (ks : List Key) (xs : List α) (k : Key) (y : α), (setL ks xs k y).length = xs.length
  | [], [], _, _ => rfl
  | [], _ :: _, _, _ => rfl
  | _ :: _, [], _, _ => rfl
  | _ :: ks, _ :: xs, k, y => congrArg (· + 1) (setL_length ks xs k y)
theorem putL_length {α : Type} {ks : List Key} {xs : List α} {k : Key} {y : α} (h : ks.length = xs.length) : (putL ks xs k y).1.length = (putL ks xs k y).2.length := by
  unfold putL
  split
  · rw [setL_length]; exact h
  · simp [h]
theorem valV_zip : ∀ {ks : List Key} {vs : List V} (k : Key), ks.length = vs.length → valV (ks.zip vs) k = getL ks vs k
  | [], [], _, _ => rfl
  | k' :: ks, v :: vs, k, h => by
    rw [List.zip_cons_cons]
    unfold getL
    by_cases e : k' = k
    · rw [if_pos e, valV_pos e]
    · rw [if_neg e, valV_neg e, valV_zip k (by simpa using h)]
  | [], _ :: _, _, h => by simp at h
  | _ :: _, [], _, h => by simp at h
theorem any_zip : ∀ {ks : List Key} {vs : List V} (k : Key), ks.length = vs.length → ((ks.zip vs).any fun kv => decide (kv.1 = k)) = hasL ks k
  | [], [], _, _ => rfl
  | k' :: ks, v :: vs, k, h => by
    unfold hasL
    rw [List.zip_cons_cons, List.any_cons, List.any_cons, any_zip k (by simpa using h)]
    rfl
  | [], _ :: _, _, h => by simp at h
  | _ :: _, [], _, h => by simp at h
theorem map_zip : ∀ {ks : List Key} {vs : List V} (k : Key) (y : V), ks.length = vs.length → (ks.zip vs).map (fun kv => if kv.1 = k then (kv.1, y) else kv) = ks.zip (setL ks vs k y)
  | [], [], _, _, _ => rfl
  | k' :: ks, v :: vs, k, y, h => by
    show (if k' = k then (k', y) else (k', v)) :: (ks.zip vs).map (fun kv => if kv.1 = k then (kv.1, y) else kv) = (k' :: ks).zip ((if k' = k then y else v) :: setL ks vs k y)
    rw [map_zip k y (by simpa using h), List.zip_cons_cons]
    by_cases e : k' = k
    · rw [if_pos e, if_pos e]
    · rw [if_neg e, if_neg e]
  | [], _ :: _, _, _, h => by simp at h
  | _ :: _, [], _, _, h => by simp at h
theorem putK_zip {ks : List Key} {vs : List V} (k : Key) (y : V) (h : ks.length = vs.length) : putK (ks.zip vs) k y = (putL ks vs k y).1.zip (putL ks vs k y).2 := by
  unfold putK putL
  rw [any_zip k h]
  by_cases e : hasL ks k = true
  · rw [if_pos e, if_pos e, map_zip k y h]
  · rw [if_neg e, if_neg e]
    show ks.zip vs ++ [(k, y)] = (ks ++ [k]).zip (vs ++ [y])
    rw [List.zip_append h]
    rfl
theorem putL_keys {α β : Type} (ks : List Key) (xs : List α) (zs : List β) (k : Key) (y : α) (z : β) : (putL ks xs k y).1 = (putL ks zs k z).1 := by
  unfold putL
  split <;> rfl
section
variable {S : Sta} {H : Hp} {ι : Ids}
theorem getL_reps : ∀ {ks : List Key} {vs : List V} {ts : List T} {k : Key} {t : T}, Reps S H ι vs ts → getL ks ts k = some t → ∃ v, getL ks vs k = some v ∧ Rep S H ι v t
  | [], _, _, _, _, _, e => by simp [getL] at e
  | _ :: _, _, _, _, _, .nil, e => by simp [getL] at e
  | k' :: ks, _, _, k, t, .cons h r, e => by
    unfold getL at e ⊢
    by_cases c : k' = k
    · rw [if_pos c] at e ⊢
      cases e
      exact ⟨_, rfl, h⟩
    · rw [if_neg c] at e ⊢
      exact getL_reps r e
theorem getL_none : ∀ {ks : List Key} {vs : List V} {ts : List T} {k : Key}, Reps S H ι vs ts → getL ks ts k = none → getL ks vs k = none
  | [], _, _, _, _, e => by simp [getL]
  | _ :: _, _, _, _, .nil, e => by simp [getL]
  | k' :: ks, _, _, k, .cons h r, e => by
    unfold getL at e ⊢
    by_cases c : k' = k
    · rw [if_pos c] at e
      cases e
    · rw [if_neg c] at e ⊢
      exact getL_none r e
theorem setL_reps {v : V} {t : T} (h : Rep S H ι v t) {k : Key} : ∀ {ks : List Key} {vs : List V} {ts : List T}, Reps S H ι vs ts → Reps S H ι (setL ks vs k v) (setL ks ts k t)
  | [], _, _, .nil => .nil
  | [], _, _, .cons a b => .cons a b
  | _ :: _, _, _, .nil => .nil
  | k' :: ks, _, _, .cons a b => by
    unfold setL
    by_cases c : k' = k
    · rw [if_pos c, if_pos c]; exact .cons h (setL_reps h b)
    · rw [if_neg c, if_neg c]; exact .cons a (setL_reps h b)
theorem putL_reps {v : V} {t : T} (h : Rep S H ι v t) {k : Key} {ks : List Key} {vs : List V} {ts : List T} (r : Reps S H ι vs ts) : Reps S H ι (putL ks vs k v).2 (putL ks ts k t).2 := by
  unfold putL
  split
  · exact setL_reps h r
  · exact r.snoc h
end
/-! ### in, not in, of lists of data -/
def gInD (neg : Bool) (x y : T) : M T := fun μ => match pdOf x μ, pdOf y μ with
  | some d, some (.list ds) => if SeqAt.shaped d && SeqAt.shaped (.list ds) then .ok (.bl (if neg then !(ds.any fun z => PyData.eqv z d) else ds.any fun z => PyData.eqv z d)) μ else .bad
  | _, _ => .bad
def rInDn (K : PySem.W.Frag) (neg : Bool) : R2 := fun x y H Q => ∃ d ds, Dp K H x d ∧ Dp K H y (.list ds) ∧ SeqAt.shaped d = true ∧ SeqAt.shaped (.list ds) = true ∧ Q (.bl (if neg then !(ds.any fun z => PyData.eqv z d) else ds.any fun z => PyData.eqv z d)) H
theorem opT_inD {S : Sta} (neg : Bool) : OpT S (gInD neg) (rInDn S.K neg) := by
  intro W σ H ι μ x y tx ty Q hs rx ry h
  unfold gInD at h
  split at h
  · rename_i d ds e1 e2
    split at h
    · rename_i hc
      rw [Bool.and_eq_true] at hc
      exact ⟨d, ds, pdOf_dp e1 hs rx, pdOf_dp e2 hs ry, hc.1, hc.2, Pst.now h hs (.bl _)⟩
    · exact h.elim
  · exact h.elim
theorem op_inDn {X : Cx} (hu : X.A.units + 65 < cLine) : OpR X (compareOp .In) (rInDn X.K false) := fun pins s σ H x y v u Q I rx ry ⟨d, ds, h1, h2, h3, h4, h5⟩ => op_inD hu pins s σ H x y v u Q I rx ry ⟨d, ds, h1, h2, h3, h4, h5⟩
theorem op_notInDn {X : Cx} (hu : X.A.units + 65 < cLine) : OpR X (compareOp .NotIn) (rInDn X.K true) := fun pins s σ H x y v u Q I rx ry ⟨d, ds, h1, h2, h3, h4, h5⟩ => op_notInD hu pins s σ H x y v u Q I rx ry ⟨d, ds, h1, h2, h3, h4, h5⟩
/-! ### in, not in, of dicts too -/
def gIn (neg : Bool) (x y : T) : M T := fun μ => match dicOf y μ, keyT x with
  | some (ks, ts), some k => .ok (.bl (if neg then !(getL ks ts k).isSome else (getL ks ts k).isSome)) μ
  | some _, none => .bad
  | none, _ => match gInS neg x y μ with
    | .bad => gInD neg x y μ
    | r => r
def rDIn (neg : Bool) : R2 := fun y x H Q => ∃ a o, x = .ref a ∧ DGet H a y o ∧ Q (.bl (if neg then !o.isSome else o.isSome)) H
theorem op_dIn {X : Cx} (hu : X.A.units + 1 < cLine) : OpR X (compareOp .In) (rDIn false) := by
  intro pins s σ H x y v u Q I rx ry h
  obtain ⟨a, o, rfl, g, q⟩ := h
  cases ry
  exact d_in hu I g rx fun s' I' => ⟨.bl _, H, I', rfl, q⟩
theorem op_dNotIn {X : Cx} (hu : X.A.units + 1 < cLine) : OpR X (compareOp .NotIn) (rDIn true) := by
  intro pins s σ H x y v u Q I rx ry h
  obtain ⟨a, o, rfl, g, q⟩ := h
  cases ry
  exact d_notIn hu I g rx fun s' I' => ⟨.bl _, H, I', rfl, q⟩
theorem getL_some {S : Sta} {H : Hp} {ι : Ids} {ks : List Key} {vs : List V} {ts : List T} {k : Key} (r : Reps S H ι vs ts) : (getL ks vs k).isSome = (getL ks ts k).isSome := by
  cases e : getL ks ts k with
  | none => rw [getL_none r e]; rfl
  | some t =>
    obtain ⟨v, e2, _⟩ := getL_reps r e
    rw [e2]; rfl
theorem opT_in {S : Sta} (neg : Bool) : OpT S (gIn neg) (fun x y H Q => rIn S.K neg x y H Q ∨ rDIn neg x y H Q ∨ rInDn S.K neg x y H Q) := by
  intro W σ H ι μ x y tx ty Q hs rx ry h
  unfold gIn at h
  split at h
  · rename_i ks ts k e1 e2
    obtain ⟨a, vs, rfl, hl, hr, rr⟩ := dic_read e1 hs ry
    have := keyT_of e2 rx
    subst this
    refine .inr (.inl ⟨a, _, rfl, .inl ⟨_, k, hr, rfl, rfl⟩, ?_⟩)
    rw [valV_zip k hl, getL_some rr]
    exact Pst.now h hs (.bl _)
  · exact h.elim
  · split at h
    · exact .inr (.inr (opT_inD neg W σ H ι μ x y tx ty Q hs rx ry h))
    · exact .inl (opT_inS neg W σ H ι μ x y tx ty Q hs rx ry h)
/-! ### subscripts of dicts -/
def gIxD (x y : T) : M T := fun μ => match dicOf x μ, keyT y with
  | some (ks, ts), some k => match getL ks ts k with
    | some t => .ok t μ
    | none => .bad
  | some _, none => .bad
  | none, _ => gIx x y μ
def rIxD : R2 := fun x y H Q => ∃ a v, x = .ref a ∧ DGet H a y (some v) ∧ Q v H
theorem ix_dict {X : Cx} (hu : X.A.units + 1 < cLine) : IxR X rIxD := by
  intro value slice pins s σ H x y v u Q I rx ry h hs
  obtain ⟨a, v, rfl, g, q⟩ := h
  obtain rfl := (show _ = Value.ref a from rx)
  unfold PyProof.Rows.subscriptTail
  have hT := dict_typeIs I g
  refine wpAny_bind ?_
  rw [getitemInPython_of_ne hT.not_modules]
  refine wpAny_bind (wpAny_specialOf hT PySem.F.slot_dict_getitem.lookup ?_)
  have h₂ : wpAny (model X.prog X.w) X.A (getItem (.ref a) u) (EP X pins σ Q) X.xe s := d_getItem hu I g ry fun w' s3 I3 rw' => ⟨v, H, I3, rw', q⟩
  have fin : wpAny (model X.prog X.w) X.A (subscripted slice false (.ref a) u) (fun r s₃ => wpAny (model X.prog X.w) X.A (letTemporaryGo value (.ref a) r >>= fun _ => pure r) (EP X pins σ Q) X.xe s₃) X.xe s := by
    rw [hs]
    exact wpAny_operating (wpAny_mono h₂ (fun r s₃ h₃ => wpAny_bind (wpAny_letTemporaryGo (wpAny_pure h₃))) fun _ _ x => x)
  first
    | exact wpAny_pure (wpAny_bind fin)
    | exact wpAny_bind (wpAny_pure (wpAny_bind fin))
    | exact wpAny_bind fin
def rIxE (K : PySem.W.Frag) : R2 := fun x y H Q => rIxA K x y H Q ∨ rIxD x y H Q
theorem opT_ixD {S : Sta} : OpT S gIxD (rIxE S.K) := by
  intro W σ H ι μ x y tx ty Q hs rx ry h
  unfold gIxD at h
  split at h
  · rename_i ks ts k e1 e2
    split at h
    · rename_i t e3
      obtain ⟨a, vs, rfl, hl, hr, rr⟩ := dic_read e1 hs rx
      have := keyT_of e2 ry
      subst this
      obtain ⟨v, e4, rv⟩ := getL_reps rr e3
      exact .inr ⟨a, v, rfl, .inl ⟨_, k, hr, rfl, by rw [valV_zip k hl, e4]⟩, Pst.now h hs rv⟩
    · exact h.elim
  · exact h.elim
  · exact .inl (opT_ix W σ H ι μ x y tx ty Q hs rx ry h)
section
variable {X : Cx} {S : Sta} {W : WX} {a b e : Expr} {fa fb fe : Env → M T} {pos : Pos}
theorem pv_ixD {k : Nat} (hr : Room k X.A) (hK : X.K = S.K) (ha : PV X S W a fa) (hb : PV X S W b fb) (hp : PlainIx b) : PV X S W (.Subscript a b pos) (c2 gIxD fa fb) :=
  PE.weak (pe_ix (ix_all.or (ix_dict (by have := hr.units; omega))) ha hb hp) fun σ H Q h => by rw [hK]; exact tOp_of opT_ixD h

/-! ### x[i] = e -/
def mPut (o i v : T) : M Unit := fun μ => match o with
  | .obj n => match μ[n]? with
    | some (some (.lst ts)) => match i with
      | .int k => match ixN ts.length k with
        | some j => .ok () (μ.set n (some (.lst (ts.set j v))))
        | none => .bad
      | _ => .bad
    | some (some (.dic ks ts)) => match keyT i with
      | some k => if ks.length < lim then .ok () (μ.set n (some (.dic (putL ks ts k v).1 (putL ks ts k v).2))) else .bad
      | none => .bad
    | _ => .bad
  | _ => .bad
def rSetD : TSet := fun o i v H Q => ∃ a H', o = .ref a ∧ DPut H a i v H' ∧ Q H'
theorem set_dict (hu : X.A.units + 1 < cLine) : PSet X rSetD := by
  intro pins s σ H o i v ov iv u Q I ro ri rv h
  obtain ⟨a, H', rfl, g, q⟩ := h
  cases ro
  exact d_setItem hu I g ri rv fun s' I' => ⟨H', I', q⟩
theorem PSet.or {t t' : TSet} (h : PSet X t) (h' : PSet X t') : PSet X (fun o i v H Q => t o i v H Q ∨ t' o i v H Q) := fun pins s σ H o i v ov iv u Q I ro ri rv q => q.elim (h pins s σ H o i v ov iv u Q I ro ri rv) (h' pins s σ H o i v ov iv u Q I ro ri rv)
/-- what a store does -/
theorem put_ok {H : Hp} {ι : Ids} {μ μ' : Store} {o i v : V} {to ti tv : T} {R : Hp → Prop} (hs : StRep S H ι μ) (ro : Rep S H ι o to) (ri : Rep S H ι i ti) (rv : Rep S H ι v tv) (h : mPut to ti tv μ = .ok () μ')
    (q : ∀ H' ι', Fut H ι H' ι' → StRep S H' ι' μ' → R H') : rSetL o i v H R ∨ rSetD o i v H R := by
  unfold mPut at h
  split at h
  · rename_i n
    split at h
    · rename_i ts hm
      split at h
      · split at h
        · rename_i j hj
          cases h
          obtain ⟨p, rfl, hp, vs, hH, rr⟩ := hs.at hm ro
          cases ri
          refine .inl ⟨p, vs, _, j, rfl, rfl, hH, by rw [rr.length]; exact hj, q _ ι (Fut.write (inL hp) (hs.nlk hp)) (hs.put hm (fun k z => by cases z) hp ⟨_, upd_same, ?_⟩)⟩
          have f := Fut.write (o := .lst (vs.set j v)) (inL hp) (hs.nlk hp) (H := H)
          exact (rr.fut f).set (rv.fut f) j
        · cases h
      · cases h
    · rename_i ks ts hm
      split at h
      · rename_i k hk
        split at h
        · rename_i hl
          cases h
          obtain ⟨p, rfl, hp, vs, hlen, hH, rr⟩ := hs.at hm ro
          have := keyT_of hk ri
          subst this
          refine .inr ⟨p, _, rfl, .inl ⟨_, k, hH, rfl, ?_, rfl⟩, ?_⟩
          · rw [List.length_zip, ← hlen, Nat.min_self, lim_eq]; exact hl
          · have f := Fut.write (o := .dK (putK (ks.zip vs) k v)) (inL hp) (hs.nlk hp) (H := H)
            refine q _ ι f (hs.put hm (fun k z => by cases z) hp ⟨(putL ks vs k v).2, ?_, ?_, putL_reps (rv.fut f) (rr.fut f)⟩)
            · rw [putL_keys ks ts vs k tv v]
              exact putL_length hlen
            · rw [putL_keys ks ts vs k tv v, ← putK_zip k v hlen]
              exact upd_same
        · cases h
      · cases h
    · cases h
  · cases h
def sStore (e a i : Env → M T) : Env → M Out := fun ρ => bndS (e ρ) ρ fun v => bndS (a ρ) ρ fun o => bndS (i ρ) ρ fun k => bndS (mPut o k v) ρ fun _ => ret (.nx ρ)
theorem mPut_noX {o i v : T} {μ μ' : Store} {x : Exc} : mPut o i v μ ≠ .ex x μ' := by
  intro h
  unfold mPut at h
  repeat' split at h
  all_goals cases h
theorem ps_of_store {p2 : Pos} {k : Nat} (hr : Room k X.A) (he : PV X S W e fe) (ha : PV X S W a fa) (hb : PV X S W b fb) (hs : swapsWithSole [.Subscript a b p2] e pos.line X.env = pure false) (hw : swappedStores [.Subscript a b p2] e X.env = pure none)
    (hg : ∀ v, assign (.Subscript a b p2) X.env v = (do
      let ov ← holding [v] (eval a X.env)
      let iv ← holding [v, ov] (eval b X.env)
      standAt p2
      holding [v, ov, iv] (setItem ov iv v)
      release [v, ov, iv] [])) : PVs X S W (.Assign [.Subscript a b p2] e pos) (sStore fe fa fb) :=
  PS.weak (ps_asg he (pg_sub ha hb (PSet.or set_list (set_dict (by have := hr.units; omega))) hg) hs hw rfl) fun D σ H ⟨ρ, ι, μ, he, hs, h⟩ => by
    refine es_then he hs h fun v H1 ι1 μ1 tv he1 hs1 f1 r1 h1 => ?_
    refine es_then he1 hs1 h1 fun o H2 ι2 μ2 to he2 hs2 f2 r2 h2 => ?_
    refine es_then he2 hs2 h2 fun i H3 ι3 μ3 ti he3 hs3 f3 r3 h3 => ?_
    unfold bndS at h3
    cases em : mPut to ti tv μ3 with
    | bad => rw [em] at h3; exact h3.elim
    | ex x μ4 => exact absurd em mPut_noX
    | ok u μ4 =>
      rw [em] at h3
      exact put_ok hs3 (r2.fut f3) r3 ((r1.fut f2).fut f3) em fun H' ι' f' s' => h3 σ H' ι' f' s' (he3.fut f')
end
/-! ### methods -/
def MtT (S : Sta) (g : T → List T → M T) (r : V → List V → Hp → VK → Prop) : Prop := ∀ (W : WX) (σ : L2.St) (H : Hp) (ι : Ids) (μ : Store) (x : V) (xs : List V) (t : T) (ts : List T) (Q : VK), StRep S H ι μ → Rep S H ι x t → Reps S H ι xs ts → Pst S W σ H ι (Rep S) (g t ts μ) Q → r x xs H Q
/-- the receiver is of that type -/
def tyOk (Ty : String) (t : T) (μ : Store) : Bool := if Ty = "list" then (lstOf t μ).isSome else if Ty = "dict" then (match t with
  | .obj _ => (dicOf t μ).isSome
  | _ => false) else if Ty = "str" then (match t with
  | .str _ => true
  | _ => false) else false
def mTy (Ty : String) (t : T) : M Unit := fun μ => if tyOk Ty t μ then .ok () μ else .bad
theorem tyOk_of {S : Sta} {H : Hp} {ι : Ids} {μ : Store} {Ty : String} {t : T} {x : V} (e : tyOk Ty t μ = true) (s : StRep S H ι μ) (r : Rep S H ι x t) : tyV S.K Ty x H := by
  unfold tyOk at e
  split at e
  · rename_i h
    subst h
    cases q : lstOf t μ with
    | none => rw [q] at e; cases e
    | some ts =>
      obtain ⟨a, vs, rfl, h1, h2⟩ := lst_read q s r
      exact .inl ⟨rfl, vs, .inl h1⟩
  · split at e
    · rename_i h
      subst h
      split at e
      · rename_i n
        cases q : dicOf (.obj n) μ with
        | none => rw [q] at e; cases e
        | some p =>
          have q' : (match μ[n]? with | some (some (MO.dic ks ts)) => some (ks, ts) | _ => none) = some p := q
          split at q'
          · rename_i ks ts hm
            obtain ⟨a, rfl, _, vs, _, hH, _⟩ := s.at hm r
            exact .inr (.inr (.inl ⟨rfl, .inl ⟨_, hH⟩⟩))
          · cases q'
      · cases e
    · split at e
      · rename_i h
        subst h
        split at e
        · cases r; rfl
        · cases e
      · cases e
def cMeth (Ty : String) (g : T → List T → M T) (o : Env → M T) (a : Env → M (List T)) : Env → M T := fun ρ => bnd (o ρ) fun x => bnd (mTy Ty x) fun _ => bnd (a ρ) fun ts => g x ts
section
variable {X : Cx} {S : Sta} {W : WX} {o e : Expr} {es : List Expr} {fo : Env → M T} {fa : Env → M (List T)} {name : Str} {apos cpos : Pos} {Ty id : String} {g : T → List T → M T} {r : V → List V → Hp → VK → Prop}
theorem pv_meth (hK : X.K = S.K) (pa : PlainAttrs Ty) (slot : Slot Ty name id) (hty : typeOf (.builtin id) = pure (.type "method_descriptor")) (hm : MtR X id r) (hg : MtT S g r) (ho : PV X S W o fo) (ha : PVa X S W (e :: es) fa)
    (hbase : attributeBase o name X.env (eval o X.env) = eval o X.env)
    (hfew : ((backTo cpos (starEach (e :: es) X.env)).all (fun x => !x.1) && (backToKw cpos (keywordEach [] X.env)).all (fun x => x.1.isSome)
      && decide ((e :: es).length + ([] : List Keyword).length + (if ([] : List Keyword).isEmpty then 0 else 1) < 30)) = true)
    (hline : (apos.endLine == cpos.line) = true) (hs : starEach (e :: es) X.env = (false, eval e X.env) :: starEach es X.env) (hplain : (backTo cpos (starEach es X.env)).any (·.1) = false) :
    PV X S W (.Call (.Attribute o name apos) (e :: es) [] cpos) (cMeth Ty g fo fa) :=
  PE.weak (pe_bm pa slot hty hm ho ha hbase hfew hline hs hplain) fun σ H Q ⟨ρ, ι, μ, he, hs, h⟩ => ev_then he hs h fun x H1 ι1 μ1 t he1 hs1 f1 r1 h1 => by
    cases et : tyOk Ty t μ1 with
    | false =>
      have : mTy Ty t μ1 = .bad := by unfold mTy; rw [et]; rfl
      rw [bnd_bad this] at h1
      exact h1.elim
    | true =>
      have : mTy Ty t μ1 = .ok () μ1 := by unfold mTy; rw [et]; rfl
      rw [bnd_ok this] at h1
      refine ⟨by rw [hK]; exact tyOk_of et hs1 r1, ?_⟩
      exact av_then (k := fun ts => g t ts) he1 hs1 h1 fun vs H2 ι2 μ2 ts he2 hs2 f2 r2 h2 => hg W σ H2 ι2 μ2 x vs t ts Q hs2 (r1.fut f2) r2 h2
end
/-- xs.append(y) -/
def mApp (t : T) (ts : List T) : M T := fun μ => match t, ts with
  | .obj n, [y] => match μ[n]? with
    | some (some (.lst us)) => if us.length < lim then .ok .non (μ.set n (some (.lst (us ++ [y])))) else .bad
    | _ => .bad
  | _, _ => .bad
theorem mtT_app {S : Sta} : MtT S mApp rAppend := by
  intro W σ H ι μ x xs t ts Q hs r rs h
  unfold mApp at h
  split at h
  · rename_i n y
    split at h
    · rename_i us hm
      split at h
      · rename_i hl
        obtain ⟨p, rfl, hp, vs, hH, rr⟩ := hs.at hm r
        obtain ⟨v, rfl, rv⟩ := reps1 rs
        have f := Fut.write (o := .lst (vs ++ [v])) (inL hp) (hs.nlk hp) (H := H)
        exact ⟨p, vs, v, rfl, rfl, hH, by rw [rr.length, lim_eq]; exact hl, h .non _ ι f (hs.put hm (fun k z => by cases z) hp ⟨_, upd_same, (rr.fut f).snoc (rv.fut f)⟩) .non⟩
      · exact h.elim
    · exact h.elim
  · exact h.elim
/-! ### d.update(pairs) -/
def pairsT : List T → Option (List (Key × T))
  | [] => some []
  | .tup [k, v] :: ts => match keyT k, pairsT ts with
    | some k, some r => some ((k, v) :: r)
    | _, _ => none
  | _ => none
def mergeL {α : Type} : List (Key × α) → List Key × List α → List Key × List α
  | [], p => p
  | (k, v) :: r, p => mergeL r (putL p.1 p.2 k v)
theorem mergeL_length {α : Type} : ∀ (r : List (Key × α)) (p : List Key × List α), p.1.length = p.2.length → (mergeL r p).1.length = (mergeL r p).2.length
  | [], _, h => h
  | (_, _) :: r, p, h => mergeL_length r _ (putL_length h)
theorem mergeL_zip : ∀ (r : List (Key × V)) (p : List Key × List V), p.1.length = p.2.length → mergeK (p.1.zip p.2) r = (mergeL r p).1.zip (mergeL r p).2
  | [], _, _ => rfl
  | (k, v) :: r, p, h => by
    show mergeK (putK (p.1.zip p.2) k v) r = _
    rw [putK_zip k v h]
    exact mergeL_zip r _ (putL_length h)
def mUpd (t : T) (ts : List T) : M T := fun μ => match t, ts with
  | .obj n, [.lst us] => match μ[n]?, pairsT us with
    | some (some (.dic ks xs)), some ps => if ks.length + ps.length ≤ lim then .ok .non (μ.set n (some (.dic (mergeL ps (ks, xs)).1 (mergeL ps (ks, xs)).2))) else .bad
    | _, _ => .bad
  | _, _ => .bad
def rUpd (K : PySem.W.Frag) : V → List V → Hp → VK → Prop := fun x vs H Q => ∃ (d a : Addr) (kvs : List (Key × V)) (ps : List Addr) (more : List (Key × V)), x = .ref d ∧ vs = [.ref a] ∧ H d = some (.dK kvs) ∧ SqL K H a (ps.map V.ref) ∧ Paired (fun p kv => SqT K H p [kV kv.1, kv.2]) ps more ∧
  kvs.length + more.length ≤ sizeLine ∧ Q .non (upd H d (.dK (mergeK kvs more)))
section
variable {X : Cx}
theorem pairs_vals {pins : List (Addr × Obj)} {σ : L2.St} {H : Hp} {s : Shared} (I : Inv X pins σ H s) : ∀ {ps : List Addr} {kvs : List (Key × V)}, Paired (fun p kv => SqT X.K H p [kV kv.1, kv.2]) ps kvs →
    ∃ (prs : List (Key × Value)) (ws : List (Value × Value)), KV kvs prs ∧ prs.length = ps.length ∧ ws.length = ps.length ∧ ∀ (j : Nat) (u v : Value), ws[j]? = some (u, v) → ∃ (b : Addr) (k : Key), ps[j]? = some b ∧ PyProof.Rows.IsTup s.heap b #[u, v] ∧ prs[j]? = some (k, v) ∧ (mixKind X.prog X.w).is k u = true
  | _, _, .nil => ⟨[], [], .nil, rfl, rfl, fun j u v e => by simp at e⟩
  | _, _, .cons (a := p) (b := kv) h t => by
    obtain ⟨prs, ws, r, hl, hl2, hp⟩ := pairs_vals I t
    obtain ⟨its, rv, ht, _⟩ := I.tuple h
    obtain ⟨u, y, ei, ru, ry⟩ := vals2 rv
    subst ei
    refine ⟨(kv.1, y) :: prs, (u, y) :: ws, .cons ⟨rfl, ry⟩ r, by rw [List.length_cons, List.length_cons, hl], by rw [List.length_cons, List.length_cons, hl2], fun j u' v' e => ?_⟩
    cases j with
    | zero =>
      cases e
      exact ⟨p, kv.1, rfl, ht, rfl, kV_is (P := X.prog) (w := X.w) ru⟩
    | succ j =>
      obtain ⟨b, k, e1, e2, e3, e4⟩ := hp j u' v' (by simpa using e)
      exact ⟨b, k, by simpa using e1, e2, by simpa using e3, e4⟩
theorem mt_upd (hc : X.calm = true) : MtR X "dict.update" (rUpd X.K) := by
  intro pins s σ H x xs v us Q I rx rv h
  obtain ⟨d, a, kvs, ps, more, rfl, rfl, hd, hq, hp, hz, q⟩ := h
  cases rx
  obtain ⟨u, rfl, ru⟩ := rv.one
  cases ru
  obtain ⟨its, ri, ⟨o, n, ho, hcl, hdd, hdat⟩, hz2⟩ := I.list hq
  have ei := refs_at ri
  subst ei
  obtain ⟨prs, ws, rel, hl, hl2, hpr⟩ := pairs_vals I hp
  obtain ⟨z, hsys, vs, rk, dd⟩ := dk_of I.hok hd
  have hl3 : prs.length = more.length := rel.length.symm
  have hcd : ∀ o', s.heap.get? d = some o' → o'.cls = .type "dict" := fun o' e => by
    obtain ⟨q, _, _, hq, hx, _⟩ := dd
    rw [hq] at e
    cases e
    exact hx.1
  have hne : d ≠ a := fun z => by
    subst z
    have := hcd o ho
    rw [hcl] at this
    exact absurd this (by decide)
  have hnp : d ∉ ps := fun z => by
    obtain ⟨j, hj⟩ := List.mem_iff_getElem?.mp z
    have hjl : j < ws.length := by rw [hl2]; exact (List.getElem?_eq_some_iff.mp hj).1
    obtain ⟨b, k, e1, ⟨o', e2, e3, _⟩, _⟩ := hpr j ws[j].1 ws[j].2 (List.getElem?_eq_getElem hjl)
    rw [hj] at e1
    cases e1
    have := hcd o' e2
    rw [e3] at this
    exact absurd this (by decide)
  have P := PairArg.list (prog := X.prog) (w := X.w) a (ps.map Value.ref).toArray (fun j => ps.getD j 0) ws
  refine call_update_pairs (knd := mixKind X.prog X.w) (kvs := prs) P (I.ok.hd hc) ⟨⟨o, n, ho, hcl, hdd, hdat⟩, ?_⟩ ?_ ⟨by rw [hl, hl2], fun i key v hr => ?_⟩ dd (by rw [← rk.length, hl2, ← hl, hl3]; exact hz) fun h' tk hd' hk => ?_
  · refine ⟨by simp [hl2], fun j k v e => ?_⟩
    obtain ⟨b, k', e1, e2, e3, e4⟩ := hpr j k v e
    have eg : ps.getD j 0 = b := by rw [List.getD_eq_getElem?_getD, e1]; rfl
    show (ps.map Value.ref).toArray[j]? = some (.ref (ps.getD j 0)) ∧ PairAt s.heap (ps.getD j 0) k v
    rw [eg]
    refine ⟨by simp [e1], .inl ?_⟩
    exact e2
  · intro hm
    rcases List.mem_cons.mp hm with e | e
    · exact hne e
    · obtain ⟨j, hj, e2⟩ := List.mem_map.mp e
      rw [List.mem_range, hl2] at hj
      rw [List.getD_eq_getElem?_getD, List.getElem?_eq_getElem hj] at e2
      exact hnp (e2 ▸ List.getElem_mem hj)
  · obtain ⟨b, k', e1, e2, e3, e4⟩ := hpr i key v hr
    exact ⟨k', e3, e4⟩
  · refine ⟨.non, upd H d (.dK (mergeK kvs more)), ?_, rfl, q⟩
    have he : ∃ q, h'.get? d = some q := let ⟨q, _, _, hq, _⟩ := hd'; ⟨q, hq⟩
    have hzz : (mergeK kvs more).length ≤ sizeLine := Nat.le_trans (length_mergeK more kvs) hz
    exact I.write (x := d) (e := d) (by rw [hd]; trivial) (.inl rfl) (fun b o hb e => hk b o hb (by simp) e) he (dk_new hzz hsys (rel.merge rk) hd')
end
section
variable {S : Sta} {H : Hp} {ι : Ids}
theorem pairsT_of : ∀ {us : List T} {vs : List V} {ps : List (Key × T)}, pairsT us = some ps → Reps S H ι vs us → ∃ (as : List Addr) (more : List (Key × V)), vs = as.map V.ref ∧ Paired (fun p kv => SqT S.K H p [kV kv.1, kv.2]) as more ∧ more.map (·.1) = ps.map (·.1) ∧ Reps S H ι (more.map (·.2)) (ps.map (·.2))
  | [], _, _, e, r => by
    cases e
    cases r
    exact ⟨[], [], rfl, .nil, rfl, .nil⟩
  | u :: us, _, _, e, r => by
    unfold pairsT at e
    split at e
    · rename_i eq; cases eq
    · rename_i k v ts eq
      cases eq
      split at e
      · rename_i k' r' e1 e2
        cases e
        cases r with
        | cons h q =>
          obtain ⟨as, more, rfl, h1, h2, h3⟩ := pairsT_of e2 q
          cases h with
          | @tup a ws _ hx qx =>
            obtain ⟨x, y, rfl, rx, ry⟩ := reps2 qx
            have := keyT_of e1 rx
            subst this
            exact ⟨a :: as, (k', y) :: more, rfl, .cons hx.sq h1, by rw [List.map_cons, List.map_cons, h2], .cons ry h3⟩
      · cases e
    · cases e
theorem mergeL_reps : ∀ {ps : List (Key × T)} {more : List (Key × V)} {p : List Key × List V} {q : List Key × List T}, more.map (·.1) = ps.map (·.1) → Reps S H ι (more.map (·.2)) (ps.map (·.2)) → p.1 = q.1 → Reps S H ι p.2 q.2 →
    (mergeL more p).1 = (mergeL ps q).1 ∧ Reps S H ι (mergeL more p).2 (mergeL ps q).2
  | [], [], _, _, _, _, e, r => ⟨e, r⟩
  | [], _ :: _, _, _, h, _, _, _ => by simp at h
  | _ :: _, [], _, _, h, _, _, _ => by simp at h
  | (k, t) :: ps, (k', v) :: more, p, q, h, rr, e, r => by
    rw [List.map_cons, List.map_cons] at h
    injection h with h1 h2
    obtain rfl : k' = k := h1
    cases rr with
    | cons rv rs =>
      show (mergeL more (putL p.1 p.2 k' v)).1 = (mergeL ps (putL q.1 q.2 k' t)).1 ∧ Reps S H ι (mergeL more (putL p.1 p.2 k' v)).2 (mergeL ps (putL q.1 q.2 k' t)).2
      refine mergeL_reps h2 rs ?_ ?_
      · rw [e]; exact putL_keys _ _ _ _ _ _
      · rw [e]; exact putL_reps rv r
theorem paired_len {α β : Type} {F : α → β → Prop} : ∀ {a : List α} {b : List β}, Paired F a b → a.length = b.length
  | _, _, .nil => rfl
  | _, _, .cons _ t => congrArg (· + 1) (paired_len t)
theorem mtT_upd : MtT S mUpd (rUpd S.K) := by
  intro W σ H ι μ x xs t ts Q hs r rs h
  unfold mUpd at h
  split at h
  · rename_i n us
    split at h
    · rename_i ks zs ps hm hp
      split at h
      · rename_i hl
        obtain ⟨d, rfl, hd, vs, hlen, hH, rr⟩ := hs.at hm r
        obtain ⟨v, rfl, rv⟩ := reps1 rs
        cases rv with
        | @lst a ws _ hx q =>
          obtain ⟨as, more, rfl, h1, h2, h3⟩ := pairsT_of hp q
          have f := Fut.write (o := .dK (mergeK (ks.zip vs) more)) (inL hd) (hs.nlk hd) (H := H)
          have hml : more.length = ps.length := by have := congrArg List.length h2; simpa using this
          refine ⟨d, a, ks.zip vs, as, more, rfl, rfl, hH, hx.sq, h1, ?_, h .non _ ι f (hs.put hm (fun k z => by cases z) hd ⟨(mergeL more (ks, vs)).2, ?_, ?_, ?_⟩) .non⟩
          · rw [List.length_zip, ← hlen, Nat.min_self, hml, lim_eq]; exact hl
          · rw [← (mergeL_reps (H := H) (ι := ι) h2 h3 rfl rr (q := (ks, zs)) (p := (ks, vs))).1]
            exact mergeL_length more (ks, vs) hlen
          · rw [← (mergeL_reps (H := H) (ι := ι) h2 h3 rfl rr (q := (ks, zs)) (p := (ks, vs))).1, ← mergeL_zip more (ks, vs) hlen]
            exact upd_same
          · exact (mergeL_reps h2 (h3.fut f) rfl (rr.fut f) (q := (ks, zs)) (p := (ks, vs))).2
      · exact h.elim
    · exact h.elim
  · exact h.elim
/-- list(d) -/
def bListD (ts : List T) : M T := fun μ => match ts with
  | [.obj n] => match μ[n]? with
    | some (some (.dic ks _)) => .ok (.lst (ks.map unKey)) μ
    | _ => bList [.obj n] μ
  | ts => bList ts μ
theorem map_zip1 : ∀ {ks : List Key} {vs : List V}, ks.length = vs.length → (ks.zip vs).map (fun kv => kV kv.1) = ks.map kV
  | [], [], _ => rfl
  | k :: ks, v :: vs, h => by rw [List.zip_cons_cons, List.map_cons, List.map_cons, map_zip1 (by simpa using h)]
  | [], _ :: _, h => by simp at h
  | _ :: _, [], h => by simp at h
theorem callT_listD : CallT S bListD (fun xs H Q => (∃ p ys, xs = [.ref p] ∧ (SqL S.K H p ys ∨ SqT S.K H p ys) ∧ ∀ l, H l = none → Q (.ref l) (upd H l (.lst ys))) ∨ rListD xs H Q) := by
  intro W σ H ι μ xs ts Q hs r h
  unfold bListD at h
  split at h
  · rename_i n
    split at h
    · rename_i ks zs hm
      obtain ⟨x, rfl, rx⟩ := reps1 r
      obtain ⟨d, rfl, hd, vs, hlen, hH, rr⟩ := hs.at hm rx
      refine .inr ⟨d, ks.zip vs, rfl, hH, fun q hq => ?_⟩
      rw [map_zip1 hlen]
      exact Pst.new h hs hq (Rep.newL hs hq (reps_keys ks))
    · exact .inl (callT_list W σ H ι μ xs _ Q hs r h)
  · exact .inl (callT_list W σ H ι μ xs _ Q hs r h)
end
/-! ### {k: v, ..} -/
def prL : List ((Env → M T) × (Env → M T)) → Env → M (List (T × T))
  | [], _ => ret []
  | (a, b) :: r, ρ => bnd (a ρ) fun x => bnd (b ρ) fun y => bnd (prL r ρ) fun zs => ret ((x, y) :: zs)
def keysT : List (T × T) → Option (List (Key × T))
  | [] => some []
  | (k, v) :: r => match keyT k, keysT r with
    | some k, some r => some ((k, v) :: r)
    | _, _ => none
def mFin (n : Nat) (ps : List (T × T)) : M T := fun μ => match μ[n]?, keysT ps with
  | some (some (.dic [] [])), some kvs => if kvs.length ≤ 15 then .ok (.obj n) (μ.set n (some (.dic (mergeL kvs ([], [])).1 (mergeL kvs ([], [])).2))) else .bad
  | _, _ => .bad
def cDisp (fs : List ((Env → M T) × (Env → M T))) : Env → M T := fun ρ μ => bnd (prL fs ρ) (mFin μ.length) (μ ++ [some (.dic [] [])])
inductive RepP (S : Sta) (H : Hp) (ι : Ids) : List (V × V) → List (T × T) → Prop
  | nil : RepP S H ι [] []
  | cons {x y : V} {t u : T} {vs : List (V × V)} {ts : List (T × T)} : Rep S H ι x t → Rep S H ι y u → RepP S H ι vs ts → RepP S H ι ((x, y) :: vs) ((t, u) :: ts)
theorem keysT_of {S : Sta} {H : Hp} {ι : Ids} : ∀ {ps : List (T × T)} {vs : List (V × V)} {kvs : List (Key × T)}, keysT ps = some kvs → RepP S H ι vs ps → ∃ more : List (Key × V), vs = more.map (fun kv => (kV kv.1, kv.2)) ∧ more.map (·.1) = kvs.map (·.1) ∧ Reps S H ι (more.map (·.2)) (kvs.map (·.2))
  | [], _, _, e, r => by
    cases e
    cases r
    exact ⟨[], rfl, rfl, .nil⟩
  | (k, v) :: ps, _, _, e, r => by
    unfold keysT at e
    split at e
    · rename_i k' r' e1 e2
      cases e
      cases r with
      | cons rx ry rr =>
        obtain ⟨more, rfl, h1, h2⟩ := keysT_of e2 rr
        have := keyT_of e1 rx
        subst this
        exact ⟨(k', _) :: more, rfl, by rw [List.map_cons, List.map_cons, h1], .cons ry h2⟩
    · cases e
section
variable {X : Cx} {S : Sta} {W : WX} {pos : Pos}
theorem pr_then {ρ : Env} {σ : L2.St} : ∀ {fs : List ((Env → M T) × (Env → M T))} {γ δ : Type} {rel : Hp → Ids → δ → γ → Prop} {k : List (T × T) → M γ} {H : Hp} {ι : Ids} {μ : Store} {Q : δ → Hp → Prop}, RepE S H ι σ ρ → StRep S H ι μ → Pst S W σ H ι rel (bnd (prL fs ρ) k μ) Q →
    ∀ {R : List (V × V) → Hp → Prop}, (∀ x H1 ι1 μ1 t, RepE S H1 ι1 σ ρ → StRep S H1 ι1 μ1 → Fut H ι H1 ι1 → RepP S H1 ι1 x t → Pst S W σ H1 ι1 rel (k t μ1) Q → R x H1) →
    tPairs (fs.map fun p => (tEv S W p.1, tEv S W p.2)) σ H R
  | [], _, _, _, _, _, _, _, _, he, hs, h, _, next => next [] _ _ _ [] he hs (Fut.refl _ _) .nil h
  | (a, b) :: fs, γ, δ, rel, k, H, ι, μ, Q, he, hs, h, R, next => by
    have h' : Pst S W σ H ι rel (bnd (a ρ) (fun x => bnd (b ρ) fun y => bnd (prL fs ρ) fun zs => k ((x, y) :: zs)) μ) Q := by
      have e : bnd (prL ((a, b) :: fs) ρ) k μ = bnd (a ρ) (fun x => bnd (b ρ) fun y => bnd (prL fs ρ) fun zs => k ((x, y) :: zs)) μ := by
        show bnd (bnd (a ρ) fun x => bnd (b ρ) fun y => bnd (prL fs ρ) fun zs => ret ((x, y) :: zs)) k μ = _
        unfold bnd
        cases a ρ μ with
        | bad => rfl
        | ex e μ => rfl
        | ok x μ1 =>
          dsimp only
          cases b ρ μ1 with
          | bad => rfl
          | ex e μ => rfl
          | ok y μ2 =>
            dsimp only
            cases prL fs ρ μ2 with
            | bad => rfl
            | ex e μ => rfl
            | ok z μ3 => rfl
      rw [← e]; exact h
    exact ev_then he hs h' fun x H1 ι1 μ1 t he1 hs1 f1 r1 h1 => ev_then he1 hs1 h1 fun y H2 ι2 μ2 u he2 hs2 f2 r2 h2 =>
      pr_then he2 hs2 h2 fun ps H3 ι3 μ3 ts he3 hs3 f3 r3 h3 => next _ H3 ι3 μ3 _ he3 hs3 (f1.trans (f2.trans f3)) (.cons ((r1.fut f2).fut f3) (r2.fut f3) r3) h3
theorem pv_disp {keys : List (Option Expr)} {values : List Expr} {fs : List ((Env → M T) × (Env → M T))} (h : PPs X pos keys values (fs.map fun p => (tEv S W p.1, tEv S W p.2))) (hall : keys.all (·.isSome) = true) (hl : keys.length = values.length) (h0 : keys ≠ []) (h15 : keys.length ≤ 15) :
    PV X S W (.Dict keys values pos) (cDisp fs) :=
  PE.weak (pe_disp h hall hl h0 h15) fun σ H Q ⟨ρ, ι, μ, he, hs, h⟩ p hp => by
    have f0 : Fut H ι (upd H p (.dK [])) (ι.snoc p) := Fut.newM hs.tk hp
    have s0 : StRep S (upd H p (.dK [])) (ι.snoc p) (μ ++ [some (.dic [] [])]) := hs.newM hp ⟨[], rfl, upd_same, .nil⟩
    have hn : (ι.snoc p).l[μ.length]? = some (some p) := by show (ι.l ++ [some p])[μ.length]? = _; rw [← hs.len, List.getElem?_append_right (Nat.le_refl _), Nat.sub_self]; rfl
    refine pr_then (he.fut f0) s0 (Pst.later f0 h) fun ps H2 ι2 μ2 ts he2 hs2 f2 r2 h2 => ?_
    unfold mFin at h2
    split at h2
    · rename_i kvs hm hk
      split at h2
      · rename_i hle
        obtain ⟨p', hp', vs, hlen, hH, rr⟩ := hs2.obj _ _ hm
        have hpp : p' = p := by
          rcases f2.ids _ _ hn with z | z
          · rw [hp'] at z; cases z; rfl
          · rw [hp'] at z; cases z
        subst hpp
        obtain ⟨more, rfl, h1, h3⟩ := keysT_of hk r2
        cases rr
        refine ⟨hH, more, rfl, by have := congrArg List.length h1; simp at this; omega, ?_⟩
        have f := Fut.write (o := .dK (mergeK [] more)) (inL hp') (hs2.nlk hp') (H := H2)
        refine h2 (.ref p') _ ι2 f (hs2.put hm (fun k z => by cases z) hp' ⟨(mergeL more ([], [])).2, ?_, ?_, ?_⟩) (.obj hp')
        · rw [← (mergeL_reps (H := H2) (ι := ι2) h1 h3 rfl .nil (q := ([], [])) (p := ([], []))).1]
          exact mergeL_length more ([], []) rfl
        · rw [← (mergeL_reps (H := H2) (ι := ι2) h1 h3 rfl .nil (q := ([], [])) (p := ([], []))).1, ← mergeL_zip more ([], []) rfl]
          exact upd_same
        · exact (mergeL_reps h1 (h3.fut f) rfl .nil (q := ([], [])) (p := ([], []))).2
      · exact h2.elim
    · exact h2.elim
end
end Tw

/-! TwE: enumerate over a tuple -/
namespace Tw
open PySem L2 PyProof.Rows
set_option maxHeartbeats 4000000 in
theorem meets_enum1 {v : Value} {o : Obj} {H : Heap → Prop} (B : Begins v o H) :
    Meets (Builtin.«enumerate.__new__» ⟨[.type "enumerate", v], []⟩) (fun _ R s => H s.heap ∧
      R (.ok (.ret (.ref (s.heap.push o).objs.size))) { s with heap := (s.heap.push o).push { cls := .type "enumerate", data := .fields #[.none, .bool false, .ref s.heap.objs.size, rawInt 0, .none, .none] } }) :=
  .of_wp fun prog w A R s h => by
    obtain ⟨hp, g, d, tk, os⟩ := s; obtain ⟨h1, h⟩ := h
    have hsub := sub_enumerate
    have q1 : ∀ {A' : Around} {E : Value → Shared → Prop} {Q : Value → Shared → Prop}, Q (.ref hp.objs.size) ⟨hp.push o, g, d, tk, os⟩ → wpAny (model prog w) A' (pyIter v) Q E ⟨hp, g, d, tk, os⟩ :=
      fun q => B.iter prog w _ _ ⟨hp, g, d, tk, os⟩ _ h1 q
    wp_walk using q1
    refine wpAny_stack_any fun st => wpAny_pure ?_
    split
    · rename_i c _ _ _ _ _
      cases (c == Value.type "enumerate")
      · wp_walk using q1
        exact ⟨_, rfl, h⟩
      · wp_walk using q1
        exact ⟨_, rfl, h⟩
    · wp_walk using q1
      exact ⟨_, rfl, h⟩
section
variable {prog : Program} {w : World} {A : Around} {E : Value → Shared → Prop} {s : Shared}
theorem enum_begins1 {v : Value} {o : Obj} {H : Heap → Prop} {Q : Value → Shared → Prop} (B : Begins v o H) (h1 : H s.heap)
    (h : ∀ h', IsEnum h' (s.heap.objs.size + 1) s.heap.objs.size 0 .none → h'.get? s.heap.objs.size = some o → h'.objs.size = s.heap.objs.size + 2 →
      (∀ b o, s.heap.get? b = some o → h'.get? b = some o) → Q (.ref (s.heap.objs.size + 1)) { s with heap := h' }) :
    wpAny (model prog w) A (call (.type "enumerate") [v]) Q E s := by
  refine callType_new F.called_enumerate (by decide) (F.typeCall_enumerate_1 _) (F.newCall_enumerate_1 _) (fun obj => F.args_object_init_2 obj _) F.entry_enumerate_new
    (meets_enum1 B) ⟨h1, ?_⟩
  have hz : (s.heap.push o).objs.size = s.heap.objs.size + 1 := Heap.size_push ..
  show _ ∧ _
  rw [hz]
  have he : IsEnum ((s.heap.push o).push { cls := .type "enumerate", data := .fields #[.none, .bool false, .ref s.heap.objs.size, rawInt 0, .none, .none] }) (s.heap.objs.size + 1) s.heap.objs.size 0 .none := by
    have := Heap.get?_push_size (s.heap.push o) (o := { cls := .type "enumerate", data := .fields #[.none, .bool false, .ref s.heap.objs.size, rawInt 0, .none, .none] }) rfl
    rw [hz] at this; exact this
  refine ⟨⟨_, he, rfl⟩, h _ he (Heap.get?_push_of_some _ (Heap.get?_push_size _ B.free)) (by rw [Heap.size_push, hz]) fun b o x => Heap.get?_push_of_some _ (Heap.get?_push_of_some _ x)⟩
end
/-- the tuple at a, each item in a new pair -/
def IteT (K : PySem.W.Frag) (a : Addr) : It :=
  ⟨fun i H => ∃ (xs : List V) (x : V), SqT K H a xs ∧ xs[i]? = some x, fun i H v H' => ∃ T x, v = .ref T ∧ H T = none ∧ H' = upd H T (.tup [.int (i : Nat), x]) ∧ ∀ xs, SqT K H a xs → xs[i]? = some x, fun i H => ∃ xs : List V, SqT K H a xs ∧ xs.length = i⟩
theorem turn_enumT {P : Program} {w : World} {K : PySem.W.Frag} {elts : List Expr} {kk : Nat} {tpos : Pos} (a e it : Addr) (hae : a ≠ e) (hai : a ≠ it) :
    Turn P w K (.Tuple elts kk tpos) (IteT K a) [e, it] e (fun i h => (∃ old, IsEnum h e it ((i : Nat) : Int) old) ∧ h.IsTupleIter it a i ∧ e ≠ it) where
  mem := by simp
  obj := fun i h st b hb => by
    obtain ⟨⟨old, he⟩, ⟨o, ho, hc, hd⟩, _⟩ := st
    have e' : b = e ∨ b = it := by simpa using hb
    rcases e' with z | z
    · rw [z]; exact ⟨_, he, fun v q => nomatch q⟩
    · rw [z]; exact ⟨o, ho, fun v q => by rw [hd] at q; cases q⟩
  keep := fun i h h' st k => let ⟨⟨old, he⟩, hi, hne⟩ := st; ⟨⟨old, k e (by simp) _ he⟩, hi.at fun o q => k it (by simp) o q, hne⟩
  item := by
    intro X hP hw hK hc i pins s σ H E I hf st hg
    subst hP hw hK
    obtain ⟨⟨old, he⟩, hit, hne⟩ := st
    obtain ⟨xs, x, hq, hx⟩ := hg
    obtain ⟨its, rv, p, hz⟩ := I.tuple hq
    obtain ⟨u, hu, ru⟩ := rv.get hx
    have hel : e < s.heap.objs.size := Heap.lt_size he
    have hil : it < s.heap.objs.size := by obtain ⟨_, q, _⟩ := hit; exact Heap.lt_size q
    have D := Draws.tuple (prog := X.prog) (w := X.w) (A := X.A.in1) (I.ok.hd hc) it a hai its.toArray
    have hlt : i < its.toArray.size := by
      have := (List.getElem?_eq_some_iff.mp hu).1
      simpa using this
    refine wpAny_pyNext_enum_itemD D he ⟨hit, p⟩ hlt hne (by simp only [List.mem_cons, List.mem_nil_iff, or_false, not_or]; exact ⟨hne, Ne.symm hae⟩) fun x' h' tk hP ho hit' hT hsz hk => ?_
    have hxu : x' = u := by
      have h1 : its[i]? = some x' := by simpa using hP
      rw [hu] at h1
      exact (Option.some.inj h1).symm
    subst hxu
    refine ⟨_, rfl, wpAny_letOwnedTupleGo_enum (s := { s with heap := h', toks := tk + 1 }) ho fun h'' he' sb => ?_⟩
    have hT2 : h''.get? s.heap.objs.size = some { cls := .type "tuple", data := .seq #[.int i tk, x'] } := (sb.2 _ (Nat.ne_of_gt hel)).trans hT
    have new : ObjOk X.prog X.w (upd H s.heap.objs.size (.tup [.int (i : Nat), x])) h'' s.heap.objs.size (.tup [.int (i : Nat), x]) :=
      ⟨by show 2 ≤ sizeLine; decide, [.int i tk, x'], .cons ⟨_, rfl⟩ (.cons ru .nil), ⟨_, hT2, rfl, _, rfl⟩⟩
    have I1 : Inv X pins σ (upd H s.heap.objs.size (.tup [.int (i : Nat), x])) { s with heap := h'', toks := tk + 1 } :=
      I.turnedNew (ch := [e, it]) (fun b ob hb q => (sb.2 b (fun z => hb (by simp [z]))).trans (hk b ob (fun z => hb (by simp [z])) (fun z => hb (by simp [z])) q)) hf (Nat.le_refl _) new
    refine ⟨.ref s.heap.objs.size, _, I1, rfl, ⟨_, x, rfl, I.hok.fresh (Nat.le_refl _), rfl, fun ys hy => ?_⟩, ⟨⟨x', ?_⟩, hit'.1.at fun o q => (sb.2 it (Ne.symm hne)).trans q, hne⟩, fun b hb => ?_⟩
    · rw [I.tuple_inj hy hq]; exact hx
    · have e1 : ((i + 1 : Nat) : Int) = (i : Int) + 1 := by omega
      rw [e1]; exact he'
    · have hb' : b < s.heap.objs.size := by
        have e' : b = e ∨ b = it := by simpa using hb
        rcases e' with z | z
        · rw [z]; exact hel
        · rw [z]; exact hil
      rw [upd_ne (Nat.ne_of_lt hb')]
      exact (hf b hb).1
  done := by
    intro X hP hw hK hc i pins s σ H E I hf st hg
    subst hP hw hK
    obtain ⟨⟨old, he⟩, hit, hne⟩ := st
    obtain ⟨xs, hq, hx⟩ := hg
    obtain ⟨its, rv, p, hz⟩ := I.tuple hq
    obtain ⟨f0, f1, f2, f3, f4, f5⟩ := hf it (by simp)
    have hl := rv.length
    have D := Draws.tuple (prog := X.prog) (w := X.w) (A := X.A.in1) (I.ok.hd hc) it a hai its.toArray
    have en : its.toArray.size = i := by rw [List.size_toArray]; omega
    exact wpAny_pyNext_enum_endD D he ⟨by rw [en]; exact hit, p⟩ fun h' eb => ⟨rfl, I.turned (t' := s.toks) (fun b o hb q => eb b o hb q) f0 f1 f3 f4 f5⟩
  self := fun A i s Q E st h => let ⟨⟨_, he⟩, _⟩ := st; wpAny_pyIter_enum he h
def iEnumA (K : PySem.W.Frag) (ta : TA) : TI := fun σ H R => ta σ H fun vs H1 => ∃ a xs, vs = [.ref a] ∧ ((SqL K H1 a xs ∧ R (Ite K a) H1) ∨ (SqT K H1 a xs ∧ R (IteT K a) H1))
theorem pi_enumA {X : Cx} {e : Expr} {ta : TA} {p pos tpos : Pos} {elts : List Expr} {kk : Nat} (hg : Gl X "enumerate") (hm : X.mg "enumerate" = none) (ha : PA X [e] ta) (hs : starEach [e] X.env = [(false, eval e X.env)]) :
    PI X (.Tuple elts kk tpos) (.Call (.Name "enumerate" p) [e] [] pos) (iEnumA X.K ta) := by
  refine ⟨fun pins s σ H R I h => ?_⟩
  refine Call_ (ld_blt I hg hm boot_enumerate (PyProof.Rows.callWith_type1 (thn (ha.run pos pins s σ H _ I h) fun us s1 ⟨vs, H1, I1, r1, q1⟩ => ?_) hs rfl))
  obtain ⟨a, xs, ex, q⟩ := q1
  subst ex
  cases r1 with
  | cons r rr =>
    cases rr
    cases r
    have fpo : ∀ b, b ∈ [s1.heap.objs.size + 1, s1.heap.objs.size] → FpOk X pins H1 b := fun b hb => by
      have e' : b = s1.heap.objs.size + 1 ∨ b = s1.heap.objs.size := by simpa using hb
      have hle : s1.heap.objs.size ≤ b := by
        rcases e' with z | z
        · rw [z]; exact Nat.le_add_right _ _
        · rw [z]; exact Nat.le_refl _
      exact I1.fpOk hle (I1.hok.fresh hle)
    rcases q with ⟨hq, q⟩ | ⟨hq, q⟩
    · obtain ⟨its, rv, p', hz⟩ := I1.list hq
      refine call_enumerate_list p'.isList fun h' he hit hsz hk => wpAny_pyIter_enum he ?_
      have I2 : Inv X pins σ H1 { s1 with heap := h' } := I1.kept (t' := s1.toks) hk
      exact ⟨s1.heap.objs.size + 1, [s1.heap.objs.size + 1, s1.heap.objs.size], _, _, H1, rfl, I2, turn_enum a (s1.heap.objs.size + 1) s1.heap.objs.size, ⟨⟨.none, he⟩, hit, Nat.succ_ne_self _⟩, fpo, q⟩
    · obtain ⟨its, rv, p', hz⟩ := I1.tuple hq
      have hal : a < s1.heap.objs.size := by obtain ⟨_, q, _⟩ := p'; exact Heap.lt_size q
      refine enum_begins1 (begins_tuple a its.toArray) p' fun h' he hit hsz hk => wpAny_pyIter_enum he ?_
      have I2 : Inv X pins σ H1 { s1 with heap := h' } := I1.kept (t' := s1.toks) hk
      exact ⟨s1.heap.objs.size + 1, [s1.heap.objs.size + 1, s1.heap.objs.size], _, _, H1, rfl, I2, turn_enumT a (s1.heap.objs.size + 1) s1.heap.objs.size (Nat.ne_of_lt (Nat.lt_succ_of_lt hal)) (Nat.ne_of_lt hal), ⟨⟨.none, he⟩, ⟨_, hit, rfl, rfl⟩, Nat.succ_ne_self _⟩, fpo, q⟩
section
variable {S : Sta} {X : Cx} {W : WX} {pos : Pos}
theorem wlk_enumT {K : PySem.W.Frag} {a : Addr} {vs : List V} {ts : List T} {H : Hp} {ι : Ids} (hK : K = S.K) (hx : RT S.K H ι a vs) (q : Reps S H ι vs ts) : Wlk S (IteT K a) (enT ts) H ι := fun Hc ιc μc f s => by
  subst hK
  have hc := (hx.fut f).sq
  refine ⟨fun i t e => ?_, vs, hc, by rw [enT_length, q.length]⟩
  obtain ⟨b, e0, rfl⟩ := enT_get e
  obtain ⟨v, e1, r1⟩ := q.get e0
  exact ⟨⟨vs, v, hc, e1⟩, fun x H2 ⟨p, w, h1, hp, h2, h3⟩ => by
    subst h1; subst h2
    have := h3 vs hc
    rw [e1] at this
    cases this
    exact rep_pair s hp (.int _) (r1.fut0 f)⟩
def mEnu (ts : List T) : M (List T) := match ts with
  | [.lst a] => ret (enT a)
  | [.tup a] => ret (enT a)
  | _ => bad
def iEn (a : Env → M (List T)) : Env → M (List T) := fun ρ => bnd (a ρ) mEnu
theorem pvi_enum {e : Expr} {fa : Env → M (List T)} {p tpos : Pos} {elts : List Expr} {kk : Nat} (hK : X.K = S.K) (hg : Gl X "enumerate") (hm : X.mg "enumerate" = none) (ha : PVa X S W [e] fa) (hst : starEach [e] X.env = [(false, eval e X.env)]) :
    PVi X S W (.Tuple elts kk tpos) (.Call (.Name "enumerate" p) [e] [] pos) (iEn fa) :=
  PI.weak (pi_enumA hg hm ha hst) fun σ H R ⟨ρ, ι, μ, he, hs, h⟩ => av_then he hs h fun vs H1 ι1 μ1 ts he1 hs1 f1 r1 h1 => by
    rw [hK]
    unfold mEnu at h1
    split at h1
    · obtain ⟨x, rfl, rx⟩ := reps1 r1
      cases rx with
      | lst hx q => exact ⟨_, _, rfl, .inl ⟨hx.sq, h1 _ H1 ι1 (Fut.refl _ _) hs1 (wlk_enum rfl hx q)⟩⟩
    · obtain ⟨x, rfl, rx⟩ := reps1 r1
      cases rx with
      | tup hx q => exact ⟨_, _, rfl, .inr ⟨hx.sq, h1 _ H1 ι1 (Fut.refl _ _) hs1 (wlk_enumT rfl hx q)⟩⟩
    · exact h1.elim
end
end Tw

/-! Tw7: list comprehensions -/
namespace Tw
open PySem L2

def wipeE (ρ : Env) : List Nat → Env
  | [] => ρ
  | v :: vs => (wipeE ρ vs).set v none
theorem wipe_in {σ : L2.St} {i : Nat} : ∀ {vs : List Nat}, i ∈ vs → i < σ.length → (wipe σ vs)[i]? = some none
  | v :: vs, h, hl => by
    unfold wipe
    by_cases hi : v = i
    · subst hi
      exact List.getElem?_set_self (by rw [wipe_length]; exact hl)
    · rw [List.getElem?_set_ne hi]
      refine wipe_in ?_ hl
      rcases List.mem_cons.mp h with e | e
      · exact absurd e.symm hi
      · exact e
theorem wipe_get {σ : L2.St} {i : Nat} (vs : List Nat) : (wipe σ vs)[i]? = if i ∈ vs then (if i < σ.length then some none else none) else σ[i]? := by
  by_cases h : i ∈ vs
  · rw [if_pos h]
    by_cases hl : i < σ.length
    · rw [if_pos hl, wipe_in h hl]
    · rw [if_neg hl]
      exact List.getElem?_eq_none (by rw [wipe_length]; omega)
  · rw [if_neg h, wipe_out h]
theorem wipe_ext {σ σ' : L2.St} {vs : List Nat} (hl : σ'.length = σ.length) (h : ∀ j, j ∉ vs → σ'[j]? = σ[j]?) : wipe σ' vs = wipe σ vs := by
  apply List.ext_getElem?
  intro i
  rw [wipe_get, wipe_get, hl]
  split
  · rfl
  · rename_i hi
    exact h i hi
theorem wipe_wipe {σ : L2.St} {vs : List Nat} : wipe (wipe σ vs) vs = wipe σ vs := wipe_ext (wipe_length σ vs) fun j hj => wipe_out hj
theorem wipeE_length (ρ : Env) : ∀ vs : List Nat, (wipeE ρ vs).length = ρ.length
  | [] => rfl
  | v :: vs => by unfold wipeE; rw [List.length_set, wipeE_length ρ vs]
theorem wipeE_some {ρ : Env} {i : Nat} {x : T} : ∀ {vs : List Nat}, (wipeE ρ vs)[i]? = some (some x) → ρ[i]? = some (some x) ∧ i ∉ vs
  | [], h => ⟨h, by simp⟩
  | v :: vs, h => by
    unfold wipeE at h
    by_cases hi : v = i
    · subst hi
      by_cases hv : v < (wipeE ρ vs).length
      · rw [List.getElem?_set_self hv] at h; cases h
      · rw [List.getElem?_eq_none (by simpa using hv)] at h; cases h
    · rw [List.getElem?_set_ne hi] at h
      obtain ⟨h1, h2⟩ := wipeE_some h
      exact ⟨h1, by simp only [List.mem_cons, not_or]; exact ⟨fun e => hi e.symm, h2⟩⟩
theorem RepE.wipe {S : Sta} {H : Hp} {ι : Ids} {σ : L2.St} {ρ : Env} (h : RepE S H ι σ ρ) (vs : List Nat) : RepE S H ι (wipe σ vs) (wipeE ρ vs) :=
  ⟨by rw [wipe_length, wipeE_length]; exact h.1, fun i t e => by
    obtain ⟨e1, e2⟩ := wipeE_some e
    obtain ⟨v, h1, h2⟩ := h.2 i t e1
    exact ⟨v, by rw [wipe_out e2]; exact h1, h2⟩⟩

/-- the list in the making is locked -/
abbrev Ids.lock (ι : Ids) (p : Addr) : Ids := ⟨ι.l, p :: ι.lk⟩
abbrev Ids.unlock (ι : Ids) (p : Addr) : Ids := ⟨ι.l, ι.lk.filter fun a => decide (a ≠ p)⟩
section
variable {S : Sta} {H : Hp} {ι : Ids} {μ : Store} {p : Addr}
theorem Fut.lock {o : HO} (s : StRep S H ι μ) (h : H p = none) : Fut H ι (upd H p o) (ι.lock p) := by
  refine ⟨⟨fun n o h => .inl h, fun b u e n => ⟨by rw [upd_ne (ne_of_none e h)]; exact e, fun z => ?_⟩⟩, fun a ha => ⟨List.mem_cons_of_mem _ ha, ?_⟩⟩
  · rcases z with z | z
    · exact n (.inl z)
    · rcases List.mem_cons.mp z with z | z
      · rw [z, h] at e; cases e
      · exact n (.inr z)
  · obtain ⟨u, q⟩ := s.tk a ha
    exact upd_ne (ne_of_none q h)
theorem StRep.lock {o : HO} (s : StRep S H ι μ) (h : H p = none) : StRep S (upd H p o) (ι.lock p) μ where
  len := s.len
  nd := s.nd
  obj := fun n m q => let ⟨a, ha, r⟩ := s.obj n m q; ⟨a, ha, r.fut (Fut.lock s h).toFu0 (fun u e => by rw [upd_ne (ne_of_none e h)]; exact e) fun k dx h1 h2 => ⟨h1, h2, fun u e => by rw [upd_ne (ne_of_none e h)]; exact e⟩⟩
  gone := s.gone
  lks := fun a ha => by
    rcases List.mem_cons.mp ha with e | e
    · subst e
      exact ⟨⟨o, upd_same⟩, fun z => s.fresh h (.inl z)⟩
    · obtain ⟨⟨u, q⟩, n⟩ := s.lks a e
      exact ⟨⟨u, by rw [upd_ne (ne_of_none q h)]; exact q⟩, n⟩
/-- the locked list grows -/
theorem Fu0.grown {o : HO} (h : p ∈ ι.lk) : Fu0 H ι (upd H p o) ι := ⟨fun _ _ h => .inl h, fun b u e n => ⟨by
  have : b ≠ p := fun z => n (.inr (z ▸ h))
  rw [upd_ne this]; exact e, n⟩⟩
theorem StRep.grown {o : HO} (s : StRep S H ι μ) (h : p ∈ ι.lk) : StRep S (upd H p o) ι μ where
  len := s.len
  nd := s.nd
  obj := fun n m q => by
    obtain ⟨a, ha, r⟩ := s.obj n m q
    have ne : ∀ (k : Nat) b, ι.l[k]? = some (some b) → b ≠ p := fun k b hb z => (s.lks p h).2 (inL (z ▸ hb))
    exact ⟨a, ha, r.fut (Fu0.grown h) (fun u e => by rw [upd_ne (ne n a ha)]; exact e) fun k dx h1 h2 => ⟨h1, h2, fun u e => by rw [upd_ne (ne k dx h1)]; exact e⟩⟩
  gone := s.gone
  lks := fun a ha => by
    obtain ⟨⟨u, q⟩, n⟩ := s.lks a ha
    by_cases e : a = p
    · subst e
      exact ⟨⟨o, upd_same⟩, n⟩
    · exact ⟨⟨u, by rw [upd_ne e]; exact q⟩, n⟩
theorem Fu0.unlock : Fu0 H ι H (ι.unlock p) := ⟨fun _ _ h => .inl h, fun b u e n => ⟨e, fun z => n (z.imp id fun z => (List.mem_filter.mp z).1)⟩⟩
theorem StRep.unlock (s : StRep S H ι μ) : StRep S H (ι.unlock p) μ where
  len := s.len
  nd := s.nd
  obj := fun n m q => let ⟨a, ha, r⟩ := s.obj n m q; ⟨a, ha, r.fut Fu0.unlock (fun u e => e) fun k dx h1 h2 => ⟨h1, h2, fun u e => e⟩⟩
  gone := s.gone
  lks := fun a ha => s.lks a (List.mem_filter.mp ha).1
end

/-- what raises within does not go on -/
def noX {α : Type} (m : M α) : M α := fun μ => match m μ with
  | .ok a μ' => .ok a μ'
  | _ => .bad
def lcL : List T → (T → M (Option T)) → List T → M (List T)
  | [], _, acc => ret acc
  | t :: ts, b, acc => bnd (b t) fun o => match o with
    | some y => if acc.length < lim then lcL ts b (acc ++ [y]) else bad
    | none => lcL ts b acc
/-- a turn: the target, the tests, the element -/
def lcB (f : T → Env → Option Env) (c : Env → M Bool) (a : Env → M T) (ρ : Env) (t : T) : M (Option T) := match f t ρ with
  | some ρ' => bnd (c ρ') fun k => if k then bnd (a ρ') fun y => ret (some y) else ret none
  | none => bad
def lcT (f : T → Env → Option Env) (c : Env → M Bool) (a : Env → M T) (ρ : Env) (t : T) : M (Option T) := noX (lcB f c a ρ t)
def cLc (it : Env → M (List T)) (f : T → Env → Option Env) (c : Env → M Bool) (a : Env → M T) (vs : List Nat) : Env → M T := fun ρ => bnd (it ρ) fun ts => bnd (lcL ts (lcT f c a (wipeE ρ vs)) []) fun us => ret (.lst us)
def cYes : Env → M Bool := fun _ => ret true
abbrev W0 : WX := fun _ _ _ _ => False
theorem PTs.weak {X : Cx} {ifs : List Expr} {t t' : TT} (h : PTs X ifs t) (w : ∀ σ H Q, t' σ H Q → t σ H Q) : PTs X ifs t' := ⟨fun pins s σ H Q I q => h.run pins s σ H Q I (w σ H Q q)⟩
theorem pts_of_nil {X : Cx} {S : Sta} {W : WX} : PTs X [] (tTv S W cYes) := PTs.weak pts_nil fun σ H Q ⟨ρ, ι, μ, he, hs, h⟩ => Pst.now h hs rfl
theorem noX_ok {α : Type} {m : M α} {μ μ' : Store} {a : α} (h : noX m μ = .ok a μ') : m μ = .ok a μ' := by
  unfold noX at h
  split at h
  · rename_i e
    cases h
    exact e
  · cases h
theorem bnd_congr {α β : Type} {m m' : M α} {k : α → M β} {μ μ' : Store} (h : m μ = m' μ') : bnd m k μ = bnd m' k μ' := by unfold bnd; rw [h]
theorem bnd_inv {α β : Type} {m : M α} {k : α → M β} {μ μ' : Store} {b : β} (h : bnd m k μ = .ok b μ') : ∃ a μ1, m μ = .ok a μ1 ∧ k a μ1 = .ok b μ' := by
  unfold bnd at h
  cases e : m μ with
  | ok a μ1 => rw [e] at h; exact ⟨a, μ1, rfl, h⟩
  | ex x μ1 => rw [e] at h; cases h
  | bad => rw [e] at h; cases h
theorem lc_then {S : Sta} {W : WX} {σ : L2.St} {fi : Env → M (List T)} {f : T → Env → Option Env} {is vs : List Nat} {fc : Env → M Bool} {fa : Env → M T} (hv : ∀ i ∈ is, i ∈ vs) {H : Hp} {Q : VK} (h : tEv S W (cLc fi f fc fa vs) σ H Q) :
    tLc (tIv S W fi) (tGv S is f) (tTv S W0 fc) (tEv S W0 fa) vs σ H Q := by
  obtain ⟨ρ, ι, μ, he, hs, h⟩ := h
  refine ⟨ρ, ι, μ, he, hs, (Pst.seq (rel := fun H' ι' J ts => Wlk S J ts H' ι') h).mono fun J H1 ⟨ι1, μ1, ts, f1, hs1, w, h1⟩ D hD => ?_⟩
  have he1 := he.fut f1
  have inv0 : ∃ ι μ accV accT, Fut H1 ι1 (upd H1 D (.lst [])) ι ∧ StRep S (upd H1 D (.lst [])) ι μ ∧ D ∈ ι.lk ∧ upd H1 D (.lst []) D = some (.lst accV) ∧ Reps S (upd H1 D (.lst [])) ι accV accT ∧
      Pst S W σ H1 ι1 (Rep S) (bnd (lcL (ts.drop 0) (lcT f fc fa (wipeE ρ vs)) accT) (fun us => ret (.lst us)) μ) Q :=
    ⟨ι1.lock D, μ1, [], [], Fut.lock hs1 hD, hs1.lock hD, List.mem_cons_self, upd_same, .nil, by rw [List.drop_zero]; exact h1⟩
  refine ⟨fun i m H => m = ts.length - i ∧ i ≤ ts.length ∧ ∃ ι μ accV accT, Fut H1 ι1 H ι ∧ StRep S H ι μ ∧ D ∈ ι.lk ∧ H D = some (.lst accV) ∧ Reps S H ι accV accT ∧
      Pst S W σ H1 ι1 (Rep S) (bnd (lcL (ts.drop i) (lcT f fc fa (wipeE ρ vs)) accT) (fun us => ret (.lst us)) μ) Q, ⟨ts.length, by simp, Nat.zero_le _, inv0⟩, ?_⟩
  rintro i m H2 ⟨rfl, hi, ι2, μ2, accV, accT, f2, hs2, lk2, d2, r2, h2⟩
  obtain ⟨go, stop⟩ := w H2 ι2 μ2 f2.toFu0 hs2
  by_cases hlt : i < ts.length
  · refine .inr ?_
    have et : ts[i]? = some ts[i] := List.getElem?_eq_getElem hlt
    obtain ⟨g1, g2⟩ := go i _ et
    rw [List.drop_eq_getElem_cons hlt] at h2
    refine ⟨g1, fun H' => ∃ ι μ accV accT, Fut H1 ι1 H' ι ∧ StRep S H' ι μ ∧ D ∈ ι.lk ∧ H' D = some (.lst accV) ∧ Reps S H' ι accV accT ∧
      Pst S W σ H1 ι1 (Rep S) (bnd (lcL (ts.drop (i + 1)) (lcT f fc fa (wipeE ρ vs)) accT) (fun us => ret (.lst us)) μ) Q, fun H' n => ⟨ts.length - (i + 1), by omega, rfl, hlt, n⟩, fun x H3 y => ?_⟩
    obtain ⟨k3, r3⟩ := g2 x H3 y
    have f3 : Fut H2 ι2 H3 ι2 := Fut.grow hs2.tk k3
    have hs3 : StRep S H3 ι2 μ2 := hs2.same k3
    have he3 : RepE S H3 ι2 (wipe σ vs) (wipeE ρ vs) := (((he1.fut f2).fut f3).wipe vs)
    unfold lcL at h2
    cases eb : lcT f fc fa (wipeE ρ vs) ts[i] μ2 with
    | bad => rw [bnd_bad (bnd_bad eb)] at h2; exact h2.elim
    | ex e2 μ4 =>
      unfold lcT noX at eb
      split at eb <;> cases eb
    | ok o μ4 =>
      rw [bnd_congr (bnd_ok eb)] at h2
      have eb' := noX_ok eb
      unfold lcB at eb'
      cases ef : f ts[i] (wipeE ρ vs) with
      | none => rw [ef] at eb'; cases eb'
      | some ρ3 =>
        rw [ef] at eb'
        refine ⟨wipeE ρ vs, ι2, μ2, ts[i], ρ3, he3, hs3, r3, ef, fun σ4 he4 k4 l4 => ⟨?_, ?_⟩⟩
        · rw [wipe_ext (σ := wipe σ vs) l4 (fun j hj => k4 j fun z => hj (hv j z)), wipe_wipe]
        · obtain ⟨k, μ3, ec, eb2⟩ := bnd_inv eb'
          refine ⟨ρ3, ι2, μ2, he4, hs3, ?_⟩
          rw [ec]
          intro b H4 ι4 f4 hs4 eb3
          subst eb3
          obtain ⟨l3, e3⟩ := f3.lk D lk2
          obtain ⟨l4, e4⟩ := f4.lk D l3
          cases b with
          | false =>
            cases eb2
            refine iteF ⟨ι4, _, accV, accT, (f2.trans f3).trans f4, hs4, l4, ?_, (r2.fut f3).fut f4, h2⟩
            rw [e4, e3]
            exact d2
          | true =>
            obtain ⟨y, μ5, ea, eb4⟩ := bnd_inv eb2
            cases eb4
            refine iteT ⟨ρ3, ι4, μ3, he4.fut f4, hs4, ?_⟩
            rw [ea]
            intro yv H5 ι5 f5 hs5 ry
            obtain ⟨l5, e5⟩ := f5.lk D l4
            dsimp only at h2
            split at h2
            · rename_i hl
              refine ⟨accV, by rw [e5, e4, e3]; exact d2, by rw [r2.length, lim_eq]; exact hl, ι5, μ4, accV ++ [yv], accT ++ [y], ⟨(((f2.trans f3).trans f4).trans f5).toFu0.trans (Fu0.grown l5), fun a ha => ?_⟩, hs5.grown l5, l5, upd_same, ?_, h2⟩
              · obtain ⟨q1, q2⟩ := (((f2.trans f3).trans f4).trans f5).lk a ha
                have : a ≠ D := fun z => by
                  obtain ⟨u, q⟩ := hs1.tk a ha
                  rw [z, hD] at q
                  cases q
                exact ⟨q1, by rw [upd_ne this]; exact q2⟩
              · exact ((((r2.fut f3).fut f4).fut f5).fut0 (Fu0.grown l5)).snoc (ry.fut0 (Fu0.grown l5))
            · exact h2.elim
  · have e : i = ts.length := by omega
    subst e
    rw [List.drop_length] at h2
    refine .inl ⟨stop, ?_⟩
    have h3 : Pst S W σ H1 ι1 (Rep S) (.ok (.lst accT) μ2) Q := h2
    refine h3 (.ref D) H2 (ι2.unlock D) ⟨f2.toFu0.trans Fu0.unlock, fun a ha => ?_⟩ hs2.unlock (.lst ⟨fun z => ?_, .inl d2⟩ (r2.fut0 Fu0.unlock))
    · obtain ⟨q1, q2⟩ := f2.lk a ha
      refine ⟨List.mem_filter.mpr ⟨q1, decide_eq_true fun z => ?_⟩, q2⟩
      obtain ⟨u, q⟩ := hs1.tk a ha
      rw [z, hD] at q
      cases q
    · rcases z with z | z
      · exact (hs2.lks D lk2).2 z
      · have := (List.mem_filter.mp z).2
        simp at this
section
variable {X : Cx} {S : Sta} {W : WX} {elt tg iter : Expr} {ifs : List Expr} {scope : Scope} {own : List (Str × Nat)} {pos : Pos} {fi : Env → M (List T)} {f : T → Env → Option Env} {is : List Nat} {fc : Env → M Bool} {fa : Env → M T}
theorem pv_lc (hc : X.calm = true) (hN : X.N.Nodup) (hi : PVi X S W tg iter fi) (ok : BlkOk X.N X.env.scope scope own) (hv : ∀ i ∈ is, i ∈ own.map (·.2))
    (hg : ∀ (s : Shared) (H : Hp) (C : Addr) (cl : List (Str × Addr)) (fp : List Addr), PG (X.blk s H scope (compEnvC scope cl C X.env) fp) tg (tGv S is f)) (ht : ∀ (s : Shared) (H : Hp) (C : Addr) (cl : List (Str × Addr)) (fp : List Addr), PTs (X.blk s H scope (compEnvC scope cl C X.env) fp) ifs (tTv S W0 fc))
    (he : ∀ (s : Shared) (H : Hp) (C : Addr) (cl : List (Str × Addr)) (fp : List Addr), PV (X.blk s H scope (compEnvC scope cl C X.env) fp) S W0 elt fa) (hs : ∀ x, foldedSetIterable iter X.env x = pure x) :
    PV X S W (.ListComp elt [⟨tg, iter, ifs, 0⟩] scope pos) (cLc fi f fc fa (own.map (·.2))) := PE.weak (pe_lc hc hN hi ok hg ht he hs) fun σ H Q h => lc_then hv h
theorem ps_of_setLc {i : Nat} {y : Str} {py spos : Pos} (hc : X.calm = true) (hN : X.N.Nodup) (hy : X.N[i]? = some y) (hyl : X.env.scope.names.lookup y = some .local)
    (hsw : swapsWith (.ListComp elt [⟨tg, iter, ifs, 0⟩] scope pos) (some (.Name y py)) spos.line X.env = pure true) (hi : PVi X S W tg iter fi) (ok : BlkOk X.N X.env.scope scope own) (hv : ∀ i ∈ is, i ∈ own.map (·.2))
    (hg : ∀ (s : Shared) (H : Hp) (C : Addr) (cl : List (Str × Addr)) (fp : List Addr), PG (X.blk s H scope (compEnvC scope cl C X.env) fp) tg (tGv S is f)) (ht : ∀ (s : Shared) (H : Hp) (C : Addr) (cl : List (Str × Addr)) (fp : List Addr), PTs (X.blk s H scope (compEnvC scope cl C X.env) fp) ifs (tTv S W0 fc))
    (he : ∀ (s : Shared) (H : Hp) (C : Addr) (cl : List (Str × Addr)) (fp : List Addr), PV (X.blk s H scope (compEnvC scope cl C X.env) fp) S W0 elt fa) (hs : ∀ x, foldedSetIterable iter X.env x = pure x) :
    PVs X S W (.Assign [.Name y py] (.ListComp elt [⟨tg, iter, ifs, 0⟩] scope pos) spos) (sSet i (cLc fi f fc fa (own.map (·.2)))) := PS.weak (ps_setLc hc hN hy hyl hsw hi ok hg ht he hs) fun D σ H ⟨ρ, ι, μ, he, hs, h⟩ =>
      lc_then hv (es_then he hs h fun x H1 ι1 μ1 t he1 hs1 f1 r1 h1 => h1 _ H1 ι1 (Fut.refl _ _) hs1 (he1.set r1))
end
end Tw

/-! TwC: comprehensions of two fors; list(range(..)) -/
namespace Tw
open PySem L2
theorem bnd_assoc {α β γ : Type} (m : M α) (f : α → M β) (g : β → M γ) (μ : Store) : bnd (bnd m f) g μ = bnd m (fun a => bnd (f a) g) μ := by
  unfold bnd
  cases m μ <;> rfl
def lcO : List T → (T → List T → M (List T)) → List T → M (List T)
  | [], _, acc => ret acc
  | t :: ts, b, acc => bnd (b t acc) fun acc' => lcO ts b acc'
def lcB2 (f : T → Env → Option Env) (c : Env → M Bool) (it1 : Env → M (List T)) (f1 : T → Env → Option Env) (c1 : Env → M Bool) (a : Env → M T) (vs1 : List Nat) (ρ : Env) (t : T) (acc : List T) : M (List T) := match f t ρ with
  | some ρ2 => bnd (noX (c ρ2)) fun k => if k then bnd (noX (it1 ρ2)) fun ts1 => lcL ts1 (lcT f1 c1 a (wipeE ρ2 vs1)) acc else ret acc
  | none => bad
def cLc2 (it : Env → M (List T)) (f : T → Env → Option Env) (c : Env → M Bool) (it1 : Env → M (List T)) (f1 : T → Env → Option Env) (c1 : Env → M Bool) (a : Env → M T) (vs vs1 : List Nat) : Env → M T := fun ρ => bnd (it ρ) fun ts => bnd (lcO ts (lcB2 f c it1 f1 c1 a vs1 (wipeE ρ vs)) []) fun us => ret (.lst us)
theorem noX_cases {α : Type} {m : M α} {μ : Store} : (∃ a μ', m μ = .ok a μ' ∧ noX m μ = .ok a μ') ∨ noX m μ = .bad := by
  unfold noX
  cases e : m μ with
  | ok a μ' => exact .inl ⟨a, μ', rfl, rfl⟩
  | ex x μ' => exact .inr rfl
  | bad => exact .inr rfl
theorem lc2_then {S : Sta} {W : WX} {σ : L2.St} {fi fi1 : Env → M (List T)} {f f1 : T → Env → Option Env} {is is1 vs vs1 : List Nat} {fc fc1 : Env → M Bool} {fa : Env → M T} (hv : ∀ i ∈ is, i ∈ vs) (hv1 : ∀ i ∈ is1, i ∈ vs1) {H : Hp} {Q : VK} (h : tEv S W (cLc2 fi f fc fi1 f1 fc1 fa vs vs1) σ H Q) :
    tLc2 (tIv S W fi) (tGv S is f) (tTv S W0 fc) (tIv S W0 fi1) (tGv S is1 f1) (tTv S W0 fc1) (tEv S W0 fa) vs vs1 σ H Q := by
  obtain ⟨ρ, ι, μ, he, hs, h⟩ := h
  refine ⟨ρ, ι, μ, he, hs, (Pst.seq (rel := fun H' ι' J ts => Wlk S J ts H' ι') h).mono fun J H1 ⟨ι1, μ1, ts, f1', hs1, w, h1⟩ D hD => ?_⟩
  have he1 := he.fut f1'
  let st : Hp → Ids → Store → List V → List T → Prop := fun H ι μ accV accT => Fut H1 ι1 H ι ∧ StRep S H ι μ ∧ D ∈ ι.lk ∧ H D = some (.lst accV) ∧ Reps S H ι accV accT
  let b := lcB2 f fc fi1 f1 fc1 fa vs1 (wipeE ρ vs)
  have inv0 : ∃ ι μ accV accT, st (upd H1 D (.lst [])) ι μ accV accT ∧ Pst S W σ H1 ι1 (Rep S) (bnd (lcO (ts.drop 0) b accT) (fun us => ret (.lst us)) μ) Q :=
    ⟨ι1.lock D, μ1, [], [], ⟨Fut.lock hs1 hD, hs1.lock hD, List.mem_cons_self, upd_same, .nil⟩, by rw [List.drop_zero]; exact h1⟩
  refine ⟨fun i m H => m = ts.length - i ∧ i ≤ ts.length ∧ ∃ ι μ accV accT, st H ι μ accV accT ∧ Pst S W σ H1 ι1 (Rep S) (bnd (lcO (ts.drop i) b accT) (fun us => ret (.lst us)) μ) Q, ⟨ts.length, by simp, Nat.zero_le _, inv0⟩, ?_⟩
  rintro i m H2 ⟨rfl, hi, ι2, μ2, accV, accT, ⟨f2, hs2, lk2, d2, r2⟩, h2⟩
  obtain ⟨go, stop⟩ := w H2 ι2 μ2 f2.toFu0 hs2
  by_cases hlt : i < ts.length
  case neg =>
    have e : i = ts.length := by omega
    subst e
    rw [List.drop_length] at h2
    refine .inl ⟨stop, ?_⟩
    have h3 : Pst S W σ H1 ι1 (Rep S) (.ok (.lst accT) μ2) Q := h2
    refine h3 (.ref D) H2 (ι2.unlock D) ⟨f2.toFu0.trans Fu0.unlock, fun a ha => ?_⟩ hs2.unlock (.lst ⟨fun z => ?_, .inl d2⟩ (r2.fut0 Fu0.unlock))
    · obtain ⟨q1, q2⟩ := f2.lk a ha
      refine ⟨List.mem_filter.mpr ⟨q1, decide_eq_true fun z => ?_⟩, q2⟩
      obtain ⟨u, q⟩ := hs1.tk a ha
      rw [z, hD] at q
      cases q
    · rcases z with z | z
      · exact (hs2.lks D lk2).2 z
      · have := (List.mem_filter.mp z).2
        simp at this
  case pos =>
    refine .inr ?_
    have et : ts[i]? = some ts[i] := List.getElem?_eq_getElem hlt
    obtain ⟨g1, g2⟩ := go i _ et
    rw [List.drop_eq_getElem_cons hlt] at h2
    refine ⟨g1, fun H' => ∃ ι μ accV accT, st H' ι μ accV accT ∧ Pst S W σ H1 ι1 (Rep S) (bnd (lcO (ts.drop (i + 1)) b accT) (fun us => ret (.lst us)) μ) Q, fun H' n => ⟨ts.length - (i + 1), by omega, rfl, hlt, n⟩, fun x H3 y => ?_⟩
    obtain ⟨k3, r3⟩ := g2 x H3 y
    have f3 : Fut H2 ι2 H3 ι2 := Fut.grow hs2.tk k3
    have hs3 : StRep S H3 ι2 μ2 := hs2.same k3
    have he3 : RepE S H3 ι2 (wipe σ vs) (wipeE ρ vs) := (((he1.fut f2).fut f3).wipe vs)
    have h2' : Pst S W σ H1 ι1 (Rep S) (bnd (b ts[i] accT) (fun acc' => bnd (lcO (ts.drop (i + 1)) b acc') (fun us => ret (.lst us))) μ2) Q := by
      rw [← bnd_assoc]; exact h2
    cases ef : f ts[i] (wipeE ρ vs) with
    | none =>
      have : b ts[i] accT μ2 = .bad := by show lcB2 f fc fi1 f1 fc1 fa vs1 (wipeE ρ vs) ts[i] accT μ2 = _; unfold lcB2; rw [ef]
      rw [bnd_bad this] at h2'
      exact h2'.elim
    | some ρ3 =>
      have eb : b ts[i] accT = bnd (noX (fc ρ3)) fun k => if k then bnd (noX (fi1 ρ3)) fun ts1 => lcL ts1 (lcT f1 fc1 fa (wipeE ρ3 vs1)) accT else ret accT := by
        show lcB2 f fc fi1 f1 fc1 fa vs1 (wipeE ρ vs) ts[i] accT = _; unfold lcB2; rw [ef]
      rw [eb, bnd_assoc] at h2'
      refine ⟨wipeE ρ vs, ι2, μ2, ts[i], ρ3, he3, hs3, r3, ef, fun σ4 he4 k4 l4 => ⟨?_, ?_⟩⟩
      · rw [wipe_ext (σ := wipe σ vs) l4 (fun j hj => k4 j fun z => hj (hv j z)), wipe_wipe]
      · rcases noX_cases (m := fc ρ3) (μ := μ2) with ⟨k, μ3, ec, en⟩ | en
        case inr => rw [bnd_bad en] at h2'; exact h2'.elim
        rw [bnd_ok en] at h2'
        refine ⟨ρ3, ι2, μ2, he4, hs3, ?_⟩
        rw [ec]
        intro b' H4 ι4 f4 hs4 eb3
        subst eb3
        obtain ⟨l3, e3⟩ := f3.lk D lk2
        obtain ⟨l4', e4⟩ := f4.lk D l3
        cases b' with
        | false => exact iteF ⟨ι4, μ3, accV, accT, ⟨(f2.trans f3).trans f4, hs4, l4', by rw [e4, e3]; exact d2, (r2.fut f3).fut f4⟩, h2'⟩
        | true =>
          refine iteT ?_
          have h3 : Pst S W σ H1 ι1 (Rep S) (bnd (noX (fi1 ρ3)) (fun ts1 => bnd (lcL ts1 (lcT f1 fc1 fa (wipeE ρ3 vs1)) accT) fun acc' => bnd (lcO (ts.drop (i + 1)) b acc') fun us => ret (.lst us)) μ3) Q := by
            rw [← bnd_assoc]; exact h2'
          rcases noX_cases (m := fi1 ρ3) (μ := μ3) with ⟨ts1, μ5, ei, en⟩ | en
          case inr => rw [bnd_bad en] at h3; exact h3.elim
          rw [bnd_ok en] at h3
          refine ⟨ρ3, ι4, μ3, he4.fut f4, hs4, ?_⟩
          rw [ei]
          intro J1 H5 ι5 f5 hs5 w1
          obtain ⟨l5, e5⟩ := f5.lk D l4'
          have he5 : RepE S H5 ι5 σ4 ρ3 := (he4.fut f4).fut f5
          let K1 : List T → M T := fun acc' => bnd (lcO (ts.drop (i + 1)) b acc') fun us => ret (.lst us)
          have inv1 : ∃ ι μ accV accT, Fu0 H5 ι5 H5 ι ∧ st H5 ι μ accV accT ∧ Pst S W σ H1 ι1 (Rep S) (bnd (lcL (ts1.drop 0) (lcT f1 fc1 fa (wipeE ρ3 vs1)) accT) K1 μ) Q :=
            ⟨ι5, μ5, accV, accT, (Fut.refl H5 ι5).toFu0, ⟨((f2.trans f3).trans f4).trans f5, hs5, l5, by rw [e5, e4, e3]; exact d2, ((r2.fut f3).fut f4).fut f5⟩, by rw [List.drop_zero]; exact h3⟩
          refine ⟨fun j k H => k = ts1.length - j ∧ j ≤ ts1.length ∧ ∃ ι μ accV accT, Fu0 H5 ι5 H ι ∧ st H ι μ accV accT ∧ Pst S W σ H1 ι1 (Rep S) (bnd (lcL (ts1.drop j) (lcT f1 fc1 fa (wipeE ρ3 vs1)) accT) K1 μ) Q, ⟨ts1.length, by simp, Nat.zero_le _, inv1⟩, ?_⟩
          rintro j k H6 ⟨rfl, hj, ι6, μ6, accV6, accT6, g6, ⟨f6, hs6, lk6, d6, r6⟩, h6⟩
          obtain ⟨go1, stop1⟩ := w1 H6 ι6 μ6 g6 hs6
          by_cases hlt1 : j < ts1.length
          case neg =>
            have e : j = ts1.length := by omega
            subst e
            rw [List.drop_length] at h6
            exact .inl ⟨stop1, ι6, μ6, accV6, accT6, ⟨f6, hs6, lk6, d6, r6⟩, h6⟩
          case pos =>
            refine .inr ?_
            have et1 : ts1[j]? = some ts1[j] := List.getElem?_eq_getElem hlt1
            obtain ⟨g1', g2'⟩ := go1 j _ et1
            rw [List.drop_eq_getElem_cons hlt1] at h6
            refine ⟨g1', fun H' => ∃ ι μ accV accT, Fu0 H5 ι5 H' ι ∧ st H' ι μ accV accT ∧ Pst S W σ H1 ι1 (Rep S) (bnd (lcL (ts1.drop (j + 1)) (lcT f1 fc1 fa (wipeE ρ3 vs1)) accT) K1 μ) Q, fun H' n => ⟨ts1.length - (j + 1), by omega, rfl, hlt1, n⟩, fun x7 H7 y7 => ?_⟩
            obtain ⟨k7, r7⟩ := g2' x7 H7 y7
            have f7 : Fut H6 ι6 H7 ι6 := Fut.grow hs6.tk k7
            have hs7 : StRep S H7 ι6 μ6 := hs6.same k7
            have he7 : RepE S H7 ι6 (wipe σ4 vs1) (wipeE ρ3 vs1) := RepE.wipe ⟨he5.1, fun q t e => let ⟨v, z1, z2⟩ := he5.2 q t e; ⟨v, z1, (z2.fut0 g6).fut f7⟩⟩ vs1
            unfold lcL at h6
            cases eb1 : lcT f1 fc1 fa (wipeE ρ3 vs1) ts1[j] μ6 with
            | bad => rw [bnd_bad (bnd_bad eb1)] at h6; exact h6.elim
            | ex e2 μ4 =>
              unfold lcT noX at eb1
              split at eb1 <;> cases eb1
            | ok o μ8 =>
              rw [bnd_congr (bnd_ok eb1)] at h6
              have eb' := noX_ok eb1
              unfold lcB at eb'
              cases ef1 : f1 ts1[j] (wipeE ρ3 vs1) with
              | none => rw [ef1] at eb'; cases eb'
              | some ρ8 =>
                rw [ef1] at eb'
                refine ⟨wipeE ρ3 vs1, ι6, μ6, ts1[j], ρ8, he7, hs7, r7, ef1, fun σ8 he8 k8 l8 => ⟨?_, ?_⟩⟩
                · rw [wipe_ext (σ := wipe σ4 vs1) l8 (fun q hq => k8 q fun z => hq (hv1 q z)), wipe_wipe]
                · obtain ⟨k, μ9, ec9, eb2⟩ := bnd_inv eb'
                  refine ⟨ρ8, ι6, μ6, he8, hs7, ?_⟩
                  rw [ec9]
                  intro b9 H9 ι9 f9 hs9 eb9
                  subst eb9
                  obtain ⟨l7, e7⟩ := f7.lk D lk6
                  obtain ⟨l9, e9⟩ := f9.lk D l7
                  cases b9 with
                  | false =>
                    cases eb2
                    exact iteF ⟨ι9, _, accV6, accT6, g6.trans (f7.trans f9).toFu0, ⟨(f6.trans f7).trans f9, hs9, l9, by rw [e9, e7]; exact d6, (r6.fut f7).fut f9⟩, h6⟩
                  | true =>
                    obtain ⟨y, μA, ea, eb4⟩ := bnd_inv eb2
                    cases eb4
                    refine iteT ⟨ρ8, ι9, μ9, he8.fut f9, hs9, ?_⟩
                    rw [ea]
                    intro yv HA ιA fA hsA ry
                    obtain ⟨lA, eA⟩ := fA.lk D l9
                    dsimp only at h6
                    split at h6
                    · rename_i hl
                      refine ⟨accV6, by rw [eA, e9, e7]; exact d6, by rw [r6.length, lim_eq]; exact hl, ιA, _, accV6 ++ [yv], accT6 ++ [y], g6.trans (((f7.trans f9).trans fA).toFu0.trans (Fu0.grown lA)), ⟨⟨(((f6.trans f7).trans f9).trans fA).toFu0.trans (Fu0.grown lA), fun a ha => ?_⟩, hsA.grown lA, lA, upd_same, ?_⟩, h6⟩
                      · obtain ⟨q1, q2⟩ := (((f6.trans f7).trans f9).trans fA).lk a ha
                        have : a ≠ D := fun z => by
                          obtain ⟨u, q⟩ := hs1.tk a ha
                          rw [z, hD] at q
                          cases q
                        exact ⟨q1, by rw [upd_ne this]; exact q2⟩
                      · exact ((((r6.fut f7).fut f9).fut fA).fut0 (Fu0.grown lA)).snoc (ry.fut0 (Fu0.grown lA))
                    · exact h6.elim
section
variable {X : Cx} {S : Sta} {W : WX} {pos spos : Pos} {elt tg iter tg1 iter1 : Expr} {ifs ifs1 : List Expr} {scope : Scope} {own : List (Str × Nat)} {fi fi1 : Env → M (List T)} {f f1 : T → Env → Option Env} {is is1 : List Nat} {fc fc1 : Env → M Bool} {fa : Env → M T}
theorem pv_lc2 (hc : X.calm = true) (hN : X.N.Nodup) (hi : PVi X S W tg iter fi) (ok : BlkOk X.N X.env.scope scope own) (hv : ∀ i ∈ is, i ∈ own.map (·.2)) (hv1 : ∀ i ∈ is1, i ∈ own.map (·.2))
    (hg : ∀ (s : Shared) (H : Hp) (C : Addr) (cl : List (Str × Addr)) (fp : List Addr), PG (X.blk s H scope (compEnvC scope cl C X.env) fp) tg (tGv S is f)) (ht : ∀ (s : Shared) (H : Hp) (C : Addr) (cl : List (Str × Addr)) (fp : List Addr), PTs (X.blk s H scope (compEnvC scope cl C X.env) fp) ifs (tTv S W0 fc))
    (hi1 : ∀ (s : Shared) (H : Hp) (C : Addr) (cl : List (Str × Addr)) (fp : List Addr), PVi (X.blk s H scope (compEnvC scope cl C X.env) fp) S W0 tg1 iter1 fi1)
    (hg1 : ∀ (s : Shared) (H : Hp) (C : Addr) (cl : List (Str × Addr)) (fp : List Addr), PG (X.blk s H scope (compEnvC scope cl C X.env) fp) tg1 (tGv S is1 f1)) (ht1 : ∀ (s : Shared) (H : Hp) (C : Addr) (cl : List (Str × Addr)) (fp : List Addr), PTs (X.blk s H scope (compEnvC scope cl C X.env) fp) ifs1 (tTv S W0 fc1))
    (he : ∀ (s : Shared) (H : Hp) (C : Addr) (cl : List (Str × Addr)) (fp : List Addr), PV (X.blk s H scope (compEnvC scope cl C X.env) fp) S W0 elt fa) (hs : ∀ x, foldedSetIterable iter X.env x = pure x) (hs1 : ∀ env x, foldedSetIterable iter1 env x = pure x) :
    PV X S W (.ListComp elt [⟨tg, iter, ifs, 0⟩, ⟨tg1, iter1, ifs1, 0⟩] scope pos) (cLc2 fi f fc fi1 f1 fc1 fa (own.map (·.2)) is1) :=
  PE.weak (pe_lc2 hc hN hi ok hv1 hg ht hi1 hg1 ht1 he hs hs1) fun σ H Q h => lc2_then hv (fun _ h => h) h
theorem ps_of_setLc2 {i : Nat} {y : Str} {py : Pos} (hc : X.calm = true) (hN : X.N.Nodup) (hy : X.N[i]? = some y) (hyl : X.env.scope.names.lookup y = some .local)
    (hsw : swapsWith (.ListComp elt [⟨tg, iter, ifs, 0⟩, ⟨tg1, iter1, ifs1, 0⟩] scope pos) (some (.Name y py)) spos.line X.env = pure true) (hi : PVi X S W tg iter fi) (ok : BlkOk X.N X.env.scope scope own) (hv : ∀ i ∈ is, i ∈ own.map (·.2)) (hv1 : ∀ i ∈ is1, i ∈ own.map (·.2))
    (hg : ∀ (s : Shared) (H : Hp) (C : Addr) (cl : List (Str × Addr)) (fp : List Addr), PG (X.blk s H scope (compEnvC scope cl C X.env) fp) tg (tGv S is f)) (ht : ∀ (s : Shared) (H : Hp) (C : Addr) (cl : List (Str × Addr)) (fp : List Addr), PTs (X.blk s H scope (compEnvC scope cl C X.env) fp) ifs (tTv S W0 fc))
    (hi1 : ∀ (s : Shared) (H : Hp) (C : Addr) (cl : List (Str × Addr)) (fp : List Addr), PVi (X.blk s H scope (compEnvC scope cl C X.env) fp) S W0 tg1 iter1 fi1)
    (hg1 : ∀ (s : Shared) (H : Hp) (C : Addr) (cl : List (Str × Addr)) (fp : List Addr), PG (X.blk s H scope (compEnvC scope cl C X.env) fp) tg1 (tGv S is1 f1)) (ht1 : ∀ (s : Shared) (H : Hp) (C : Addr) (cl : List (Str × Addr)) (fp : List Addr), PTs (X.blk s H scope (compEnvC scope cl C X.env) fp) ifs1 (tTv S W0 fc1))
    (he : ∀ (s : Shared) (H : Hp) (C : Addr) (cl : List (Str × Addr)) (fp : List Addr), PV (X.blk s H scope (compEnvC scope cl C X.env) fp) S W0 elt fa) (hs : ∀ x, foldedSetIterable iter X.env x = pure x) (hs1 : ∀ env x, foldedSetIterable iter1 env x = pure x) :
    PVs X S W (.Assign [.Name y py] (.ListComp elt [⟨tg, iter, ifs, 0⟩, ⟨tg1, iter1, ifs1, 0⟩] scope pos) spos) (sSet i (cLc2 fi f fc fi1 f1 fc1 fa (own.map (·.2)) is1)) :=
  PS.weak (ps_setLc2 hc hN hy hyl hsw hi ok hv1 hg ht hi1 hg1 ht1 he hs hs1) fun D σ H ⟨ρ, ι, μ, he, hs, h⟩ =>
    lc2_then hv (fun _ h => h) (es_then he hs h fun x H1 ι1 μ1 t he1 hs1 f1 r1 h1 => h1 _ H1 ι1 (Fut.refl _ _) hs1 (he1.set r1))
/-! ### list(range(..)), tuple(range(..)) -/
@[irreducible] def rgOk (a b : Int) : Bool := inR a && inR b && decide ((b - a).toNat ≤ 2 ^ 24)
theorem rgOk_of {a b : Int} (h : rgOk a b = true) : RgOk a b := by
  unfold rgOk at h
  rw [Bool.and_eq_true, Bool.and_eq_true, decide_eq_true_eq] at h
  exact ⟨(inR_iff h.1.1).1, (inR_iff h.1.1).2, (inR_iff h.1.2).1, (inR_iff h.1.2).2, h.2⟩
def mRgL (mk : List T → T) (i j : T) : M T := match i, j with
  | .int i, .int j => if rgOk i j then ret (mk (rgT i j)) else bad
  | _, _ => bad
theorem rg_reps {H : Hp} {ι : Ids} (a b : Int) : Reps S H ι (rgV a b) (rgT a b) := by
  unfold rgV rgT
  induction (List.range (b - a).toNat) with
  | nil => exact .nil
  | cons k r ih => exact .cons (.int _) ih
def cRgL1 (mk : List T → T) (a : Env → M T) : Env → M T := fun ρ => bnd (a ρ) fun x => mRgL mk (.int 0) x
def cRgL2 (mk : List T → T) (a b : Env → M T) : Env → M T := fun ρ => bnd (a ρ) fun x => bnd (b ρ) fun y => mRgL mk x y
variable {a b : Expr} {ga gb : Env → M T} {p q : Pos}
theorem pv_lstRg1 (hc : X.calm = true) (hg : Gl X "list") (hm : X.mg "list" = none) (hg2 : Gl X "range") (hm2 : X.mg "range" = none) (ha : PV X S W a ga) (na : starEach [a] X.env = (false, eval a X.env) :: starEach [] X.env) :
    PV X S W (.Call (.Name "list" p) [.Call (.Name "range" q) [a] [] spos] [] pos) (cRgL1 .lst ga) :=
  PE.weak (pe_listRg hc hg hm (prg_1 hg2 hm2 ha na) rfl) fun σ H Q ⟨ρ, ι, μ, he, hs, h⟩ => ev_then he hs h fun x H1 ι1 μ1 t he1 hs1 f1 r1 h1 => by
    cases r1 <;> first | exact h1.elim | skip
    rename_i j
    unfold mRgL at h1
    dsimp only at h1
    split at h1
    · rename_i hj
      exact ⟨j, rfl, rgOk_of hj, fun l hl => Pst.new h1 hs1 hl (Rep.newL hs1 hl (rg_reps 0 j))⟩
    · exact h1.elim
theorem pv_tupRg1 (hc : X.calm = true) (hg : Gl X "tuple") (hm : X.mg "tuple" = none) (hg2 : Gl X "range") (hm2 : X.mg "range" = none) (ha : PV X S W a ga) (na : starEach [a] X.env = (false, eval a X.env) :: starEach [] X.env) :
    PV X S W (.Call (.Name "tuple" p) [.Call (.Name "range" q) [a] [] spos] [] pos) (cRgL1 .tup ga) :=
  PE.weak (pe_tupRg hc hg hm (prg_1 hg2 hm2 ha na) rfl) fun σ H Q ⟨ρ, ι, μ, he, hs, h⟩ => ev_then he hs h fun x H1 ι1 μ1 t he1 hs1 f1 r1 h1 => by
    cases r1 <;> first | exact h1.elim | skip
    rename_i j
    unfold mRgL at h1
    dsimp only at h1
    split at h1
    · rename_i hj
      exact ⟨j, rfl, rgOk_of hj, fun l hl => Pst.new h1 hs1 hl (Rep.newT hs1 hl (rg_reps 0 j))⟩
    · exact h1.elim
theorem pv_lstRg2 (hc : X.calm = true) (hg : Gl X "list") (hm : X.mg "list" = none) (hg2 : Gl X "range") (hm2 : X.mg "range" = none) (ha : PV X S W a ga) (hb : PV X S W b gb) (na : starEach [a, b] X.env = (false, eval a X.env) :: starEach [b] X.env) (nb : starEach [b] X.env = (false, eval b X.env) :: starEach [] X.env) :
    PV X S W (.Call (.Name "list" p) [.Call (.Name "range" q) [a, b] [] spos] [] pos) (cRgL2 .lst ga gb) :=
  PE.weak (pe_listRg hc hg hm (prg_2 hg2 hm2 ha hb na nb (by rw [nb]; rfl)) rfl) fun σ H Q ⟨ρ, ι, μ, he, hs, h⟩ => ev_then he hs h fun x H1 ι1 μ1 t he1 hs1 f1 r1 h1 => ev_then he1 hs1 h1 fun y H2 ι2 μ2 u he2 hs2 f2 r2 h2 => by
    unfold mRgL at h2
    split at h2
    · split at h2
      · rename_i i j hj
        cases r1
        cases r2
        exact ⟨i, j, rfl, rfl, rgOk_of hj, fun l hl => Pst.new h2 hs2 hl (Rep.newL hs2 hl (rg_reps i j))⟩
      · exact h2.elim
    · exact h2.elim
end
end Tw

/-! TwP: a, b = x, y -/
namespace Tw
open PySem L2
def starE : Expr → Bool
  | .Starred .. => true
  | _ => false
def swNames (sc : Scope) (ts : List Expr) : List Str := ts.filterMap fun
  | .Name id pos => if sc.names.lookup id == some .local && pos.line == (ts.head?.map (·.pos.line)).getD 0 then some id else none
  | _ => none
def bkK (sc : Scope) : ScopeKind := if sc.kind.isAnnotationScope then ScopeKind.function else sc.kind
def swK (sc : Scope) (ts vs : List Expr) : Option (Option (List Str)) :=
  if (!(ts.length == 2 || ts.length == 3) || vs.length != ts.length || bkK sc != .function) = true then some none
  else if (vs.any fun | .Starred .. => true | _ => false) = true then some none
  else if ((swNames sc ts).length != ts.length || (swNames sc ts).eraseDups.length != (swNames sc ts).length) = true then some none
  else if vs.all (foldedForSure 8) = true then some none
  else if vs.all (constantsAlone 8) = true then none
  else some (some (swNames sc ts))
theorem swK_ok {sc : Scope} {ts vs : List Expr} {r : Option (List Str)} {env : PySem.Env} {k k2 : Nat} {p p2 : Pos} (he : env.scope = sc) (h : swK sc ts vs = some r) : swappedStores [.Tuple ts k p] (.Tuple vs k2 p2) env = pure r := by
  subst he
  have hb : env.blockKind = bkK env.scope := rfl
  have hk : ∀ x, env.kindOf x = env.scope.names.lookup x := fun _ => rfl
  unfold swK at h
  unfold swappedStores
  dsimp only
  rw [hb]
  have hn : (ts.filterMap fun
    | .Name id pos => if env.kindOf id == some .local && pos.line == (ts.head?.map (·.pos.line)).getD 0 then some id else none
    | _ => none) = swNames env.scope ts := rfl
  split at h
  · rename_i c
    cases h
    exact if_pos c
  · rename_i c
    refine (if_neg c).trans ?_
    split at h
    · rename_i c2
      cases h
      exact if_pos c2
    · rename_i c2
      refine (if_neg c2).trans ?_
      split at h
      · rename_i c3
        cases h
        exact if_pos c3
      · rename_i c3
        refine (if_neg c3).trans ?_
        split at h
        · rename_i c4
          cases h
          exact if_pos c4
        · rename_i c4
          refine (if_neg c4).trans ?_
          split at h
          · cases h
          · rename_i c5
            cases h
            exact if_neg c5
/-- a, b, c = x, y, z -/
def sPar3 (i j l : Nat) (a b c : Env → M T) : Env → M Out := fun ρ => bndS (aCons a (aCons b (aCons c aNil)) ρ) ρ fun ts => match ts with
  | [t, u, v] => ret (.nx (((ρ.set i (some t)).set j (some u)).set l (some v)))
  | _ => bad
theorem reps3 {S : Sta} {H : Hp} {ι : Ids} {xs : List V} {t u v : T} (r : Reps S H ι xs [t, u, v]) : ∃ x y z, xs = [x, y, z] ∧ Rep S H ι x t ∧ Rep S H ι y u ∧ Rep S H ι z v := by
  cases r with
  | cons h q =>
    obtain ⟨y, z, rfl, hy, hz⟩ := reps2 q
    exact ⟨_, _, _, rfl, h, hy, hz⟩
section
variable {X : Cx} {S : Sta} {W : WX} {pos : Pos}
theorem ps_of_par3 {i j l : Nat} {x y z : Str} {a b c : Expr} {fa fb fc : Env → M T} {px py pz pt : Pos} {kt k2 : Nat} {pt2 : Pos} (hc : X.calm = true) (hN : X.N.Nodup) (hi : X.N[i]? = some x) (hj : X.N[j]? = some y) (hl : X.N[l]? = some z) (hij : i ≠ j) (hil : i ≠ l) (hjl : j ≠ l)
    (hx : X.env.scope.names.lookup x = some .local) (hy : X.env.scope.names.lookup y = some .local) (hz : X.env.scope.names.lookup z = some .local) (ha : PVa X S W [a, b, c] (aCons fa (aCons fb (aCons fc aNil))))
    (hw : swappedStores [.Tuple [.Name x px, .Name y py, .Name z pz] kt pt] (.Tuple [a, b, c] k2 pt2) X.env = pure (some [x, y, z]))
    (hs : swapsWithSole [.Tuple [.Name x px, .Name y py, .Name z pz] kt pt] (.Tuple [a, b, c] k2 pt2) pos.line X.env = pure false) :
    PVs X S W (.Assign [.Tuple [.Name x px, .Name y py, .Name z pz] kt pt] (.Tuple [a, b, c] k2 pt2) pos) (sPar3 i j l fa fb fc) :=
  PS.weak (ps_par3 hc hN hi hj hl hij hil hjl hx hy hz ha hw hs) fun D σ H ⟨ρ, ι, μ, he, hs, h⟩ =>
    ⟨ρ, ι, μ, he, hs, (PstS.seq (rel := Reps S) he h).mono fun vs H1 ⟨ι1, μ1, ts, f, s, r, q⟩ => by
      split at q
      · obtain ⟨v, w, z, rfl, rv, rw', rz⟩ := reps3 r
        exact ⟨v, w, z, rfl, q _ H1 ι1 (Fut.refl _ _) s ((((he.fut f).set rv).set rw').set rz)⟩
      · exact q.elim⟩
end
end Tw

/-! Tw8: defs and their calls -/
namespace Tw
open PySem L2

def spT (S : Sta) (n : Nat) (g : List T → M T) : Sp := fun vs H Q E => vs.length = n ∧ ∃ ts ι μ, Reps S H ι vs ts ∧ StRep S H ι μ ∧ Pst S (fun cls d _ H => E cls d H) [] H ι (Rep S) (g ts μ) Q
/-- a def, by its body: N slots -/
def fnD (N : Nat) (b : Env → M Out) (ts : List T) : M T := fun μ => match b (ts.map some ++ List.replicate (N - ts.length) none) μ with
  | .ok (.nx _) μ' => .ok .non μ'
  | .ok (.rt t) μ' => .ok t μ'
  | .ok (.xx _ e) μ' => .ex e μ'
  | _ => .bad
theorem start_rep {S : Sta} {H : Hp} {ι : Ids} {N : List Str} : ∀ {vs : List V} {ts : List T}, Reps S H ι vs ts → RepE S H ι (L2.start N vs) (ts.map some ++ List.replicate (N.length - ts.length) none) := by
  intro vs ts r
  have hl := r.length
  refine ⟨by unfold L2.start; simp [hl], fun i t e => ?_⟩
  unfold L2.start
  by_cases hi : i < ts.length
  · rw [List.getElem?_append_left (by simpa using hi), List.getElem?_map] at e
    obtain ⟨u, e1, e2⟩ := Option.map_eq_some_iff.mp e
    cases e2
    obtain ⟨v, h1, h2⟩ := r.get e1
    refine ⟨v, ?_, h2⟩
    rw [List.getElem?_append_left (by rw [List.length_map, hl]; exact hi), List.getElem?_map, h1]
    rfl
  · rw [List.getElem?_append_right (by simpa using hi), List.getElem?_replicate] at e
    split at e <;> cases e
section
variable {S : Sta} {P : Program} {w : World} {mg : Str → Option Value} {base : Heap}
/-- THE RULE for a def -/
theorem fn_okT {x qual : Str} {st : Stmt} {f : Addr} {fd : FuncData} {N ps : List Str} {k : Nat} {b : Env → M Out} (F : Fun S.K x qual st f fd) (Sc : FnScope N ps (defScope st))
    (body : ∀ (cdv : Value) (A : Around) (outer : List PySem.Env) (s : Shared) (H : Hp) (E : XK), Room k (A.deeper (PyProof.Rows.envOfC qual (defScope st) s.heap.objs.size f cdv)) →
      PVss (cxOf (L2.CX P w) P w S.K mg base N qual (defScope st) f cdv A outer s H E) S (fun cls d _ H => E cls d H) (defBody st) b) :
    FnOk P w S.K mg base (L2.CX P w) (k + 1) f fd ps (spT S ps.length (fnD N.length b)) := by
  refine F.okX Sc (fun vs H Q E h => h.1) (fun cdv A outer s H vs Q E hr h => ?_)
  obtain ⟨hl, ts, ι, μ, r, hs, h⟩ := h
  refine ⟨_, body cdv A outer s H E hr, _, ι, μ, start_rep r, hs, ?_⟩
  unfold fnD at h
  cases e : b (ts.map some ++ List.replicate (N.length - ts.length) none) μ with
  | bad => rw [e] at h; exact h.elim
  | ex x μ1 =>
    rw [e] at h
    exact h.elim
  | ok o μ1 =>
    rw [e] at h
    cases o with
    | nx ρ => exact fun σ' H' ι' f' s' r' => h .non H' ι' f' s' .non
    | rt t => exact h
    | xx ρ x => exact fun σ' cls d H' ι' f' s' r' rx => h cls d H' ι' f' s' rx
    | bk ρ => exact h.elim
    | ct ρ => exact h.elim
end
section
variable {X : Cx} {S : Sta} {W : WX} {k n : Nat} {f : Addr} {fd : FuncData} {ps : List Str} {g : List T → M T} {x : Str} {p pos : Pos} {e : Expr} {es : List Expr} {fa : Env → M (List T)}
def cCall (n : Nat) (g : List T → M T) (a : Env → M (List T)) : Env → M T := fun ρ => bnd (a ρ) fun ts => if ts.length = n then g ts else bad
theorem pv_call (hK : X.K = S.K) (tk : Takes X W) (F : FnOk X.prog X.w X.K X.mg X.base (L2.CX X.prog X.w) k f fd ps (spT S n g)) (hr : Room k X.A) (hg : Gl X x) (hm : X.mg x = some (.ref f)) (hk : PySem.W.keepIn X.K (.ref f) = true) (hb : Binds X.K fd ps []) (ha : PVa X S W (e :: es) fa)
    (hdb : (x == ("__debug__" : Str)) = false) (he : starEach (e :: es) X.env = (false, eval e X.env) :: starEach es X.env) (hpl : (backTo pos (starEach es X.env)).any (·.1) = false) : PV X S W (.Call (.Name x p) (e :: es) [] pos) (cCall n g fa) :=
  PE.weak (pe_callSD (E := fun σ => WE W σ) F hr hg hm hk hb .nil (fun σ => passAt tk σ) ha hdb he hpl) fun σ H Q ⟨ρ, ι, μ, he, hs, h⟩ => av_then he hs h fun vs H1 ι1 μ1 ts he1 hs1 f1 r1 h1 => by
    split at h1
    · rename_i hl
      refine ⟨by rw [List.append_nil, r1.length]; exact hl, ts, ι1, μ1, by rw [List.append_nil]; exact r1, hs1, ?_⟩
      cases eg : g ts μ1 with
      | ok t μ2 => rw [eg] at h1; exact h1
      | ex x μ2 => rw [eg] at h1; exact h1
      | bad => rw [eg] at h1; exact h1.elim
    · exact h1.elim
end
end Tw

/-! TwQ: a call whose arguments hold nothing that changes does not hang on the store -/
namespace Tw
open PySem L2
mutual
def clean : T → Bool
  | .obj _ => false
  | .tup ts => cleans ts
  | .lst ts => cleans ts
  | .dic _ ts => cleans ts
  | .ins _ ts => cleans ts
  | .scr ts => cleans ts
  | _ => true
def cleans : List T → Bool
  | [] => true
  | t :: ts => clean t && cleans ts
end
/-- run on an empty store -/
def pureC (g : List T → M T) : List T → M T := fun ts μ => if cleans ts then (match g ts [] with
    | .ok t _ => if clean t then .ok t μ else g ts μ
    | .ex e _ => if cleans e.ts then .ex e μ else g ts μ
    | .bad => g ts μ) else g ts μ
section
variable {S : Sta} {H H' : Hp} {ι ι' : Ids}
theorem RT.to {K : PySem.W.Frag} {a : Addr} {vs : List V} (n : ∀ a, InI ι' a → InI ι a) (h : RT K H ι a vs) : RT K H ι' a vs := h.imp (fun h => ⟨fun z => h.1 (n _ z), h.2⟩) id
theorem RL.to {K : PySem.W.Frag} {a : Addr} {vs : List V} (n : ∀ a, InI ι' a → InI ι a) (h : RL K H ι a vs) : RL K H ι' a vs := ⟨fun z => h.1 (n _ z), h.2⟩
theorem RS.to {K : PySem.W.Frag} {a : Addr} {vs : List V} (n : ∀ a, InI ι' a → InI ι a) (h : RS K H ι a vs) : RS K H ι' a vs := h.imp (fun h => ⟨fun z => h.1 (n _ z), h.2⟩) id
mutual
theorem Rep.to (n : ∀ a, InI ι' a → InI ι a) : ∀ {v : V} {t : T}, clean t = true → Rep S H ι v t → Rep S H ι' v t
  | _, _, _, .non => .non
  | _, _, _, .bl b => .bl b
  | _, _, _, .int i => .int i
  | _, _, _, .str x => .str x
  | _, _, _, .ty x => .ty x
  | _, _, _, .cls h => .cls h
  | _, _, _, .fn h => .fn h
  | _, _, c, .tup h r => .tup (h.to n) (Reps.to n (by unfold clean at c; exact c) r)
  | _, _, c, .lst h r => .lst (h.to n) (Reps.to n (by unfold clean at c; exact c) r)
  | _, _, c, .dic h d l r => .dic (fun z => h (n _ z)) d l (Reps.to n (by unfold clean at c; exact c) r)
  | _, _, c, .ins hc na nd h r => .ins hc (fun z => na (n _ z)) (fun z => nd (n _ z)) h (Reps.to n (by unfold clean at c; exact c) r)
  | _, _, c, .obj _ => by unfold clean at c; cases c
  | _, _, c, .gone _ => by unfold clean at c; cases c
  | _, _, c, .scr h r => .scr (h.to n) (Reps.to n (by unfold clean at c; exact c) r)
theorem Reps.to (n : ∀ a, InI ι' a → InI ι a) : ∀ {vs : List V} {ts : List T}, cleans ts = true → Reps S H ι vs ts → Reps S H ι' vs ts
  | _, _, _, .nil => .nil
  | _, _, c, .cons h r => by
    unfold cleans at c
    rw [Bool.and_eq_true] at c
    exact .cons (Rep.to n c.1 h) (Reps.to n c.2 r)
end
/-- all that is tracked is locked -/
def Ids.lockA (ι : Ids) : Ids := ⟨[], ι.l.filterMap id ++ ι.lk⟩
theorem lock_in {a : Addr} : InI ι.lockA a ↔ InI ι a := by
  unfold InI Ids.lockA
  simp only [List.not_mem_nil, false_or, List.mem_append, List.mem_filterMap, id_eq, exists_eq_right]
theorem Fut.unlock {ι2 : Ids} (f : Fut H ι.lockA H' ι2) : Fut H ι H' ι ∧ (∀ b o, H b = some o → H' b = some o) ∧ ∀ a, InI ι a → InI ι2 a := by
  have k : ∀ b o, H b = some o → H' b = some o := fun b o h => by
    by_cases hb : InI ι b
    · rcases lock_in.mpr hb with z | z
      · simp [Ids.lockA] at z
      · rw [(f.lk b z).2]; exact h
    · exact (f.keep b o h fun z => hb (lock_in.mp z)).1
  refine ⟨⟨⟨fun n o h => .inl h, fun b o h n => ⟨k b o h, n⟩⟩, fun a h => ⟨h, (f.lk a ?_).2⟩⟩, k, fun a h => ?_⟩
  · unfold Ids.lockA; exact List.mem_append_right _ h
  · rcases lock_in.mpr h with z | z
    · simp [Ids.lockA] at z
    · exact .inr (f.lk a z).1
theorem StRep.locked {μ : Store} (s : StRep S H ι μ) : StRep S H ι.lockA [] :=
  ⟨rfl, fun m n a h => by simp [Ids.lockA] at h, fun n o h => by simp at h, fun n h => by simp at h, fun a h => ⟨s.tracked (lock_in.mp (.inr h)), by simp [Ids.lockA]⟩⟩
theorem RepX.to {cls : Value} {d : Option Addr} {e : Exc} (n : ∀ a, InI ι' a → InI ι a) (c : cleans e.ts = true) (h : RepX S H ι cls d e) : RepX S H ι' cls d e := by
  obtain ⟨C, h1, h2, h3⟩ := h
  refine ⟨C, h1, h2, h3.imp id ?_⟩
  rintro ⟨dx, vs, g1, g2, g3, g4, g5⟩
  exact ⟨dx, vs, g1, fun z => g2 (n _ z), g3, g4, g5.to n c⟩
theorem pst_pure {g : List T → M T} {W : WX} {σ : L2.St} {vs : List V} {ts : List T} {μ : Store} {Q : VK} (r : Reps S H ι vs ts) (s : StRep S H ι μ) (h : Pst S W σ H ι (Rep S) (pureC g ts μ) Q) : ∃ ι' μ', Reps S H ι' vs ts ∧ StRep S H ι' μ' ∧ Pst S W σ H ι' (Rep S) (g ts μ') Q := by
  unfold pureC at h
  by_cases c : cleans ts = true
  case neg => rw [if_neg c] at h; exact ⟨ι, μ, r, s, h⟩
  rw [if_pos c] at h
  cases e : g ts [] with
  | bad => rw [e] at h; exact ⟨ι, μ, r, s, h⟩
  | ok t μ1 =>
    rw [e] at h
    dsimp only at h
    by_cases ct : clean t = true
    case neg => rw [if_neg ct] at h; exact ⟨ι, μ, r, s, h⟩
    rw [if_pos ct] at h
    refine ⟨ι.lockA, [], r.to (fun a z => lock_in.mp z) c, s.locked, ?_⟩
    rw [e]
    intro b H' ι2 f s2 rb
    obtain ⟨f1, k, i2⟩ := f.unlock
    exact h b H' ι f1 (s.same k) (rb.to i2 ct)
  | ex x μ1 =>
    rw [e] at h
    dsimp only at h
    by_cases ct : cleans x.ts = true
    case neg => rw [if_neg ct] at h; exact ⟨ι, μ, r, s, h⟩
    rw [if_pos ct] at h
    refine ⟨ι.lockA, [], r.to (fun a z => lock_in.mp z) c, s.locked, ?_⟩
    rw [e]
    intro cls d H' ι2 f s2 rx
    obtain ⟨f1, k, i2⟩ := f.unlock
    exact h cls d H' ι f1 (s.same k) (rx.to i2 ct)
theorem spT_pure {n : Nat} {g : List T → M T} (vs : List V) (H : Hp) (Q : VK) (E : XK) (h : spT S n (pureC g) vs H Q E) : spT S n g vs H Q E := by
  obtain ⟨hl, ts, ι, μ, r, s, h⟩ := h
  obtain ⟨ι', μ', r', s', h'⟩ := pst_pure r s h
  exact ⟨hl, ts, ι', μ', r', s', h'⟩
end
/-- the rule: a clean call -/
theorem pureC_ok {g : List T → M T} {ts : List T} {t : T} {μ1 μ : Store} (c : cleans ts = true) (ct : clean t = true) (h : g ts [] = .ok t μ1) : pureC g ts μ = .ok t μ := by
  unfold pureC
  rw [if_pos c, h]
  dsimp only
  rw [if_pos ct]
theorem pureC_ex {g : List T → M T} {ts : List T} {x : Exc} {μ1 μ : Store} (c : cleans ts = true) (ct : cleans x.ts = true) (h : g ts [] = .ex x μ1) : pureC g ts μ = .ex x μ := by
  unfold pureC
  rw [if_pos c, h]
  dsimp only
  rw [if_pos ct]
theorem pureC_st {g : List T → M T} {ts : List T} {μ : Store} (c : cleans ts = false) : pureC g ts μ = g ts μ := by
  unfold pureC
  rw [if_neg (by rw [c]; simp)]
end Tw

/-! TwO: classes of the text: instances made, read, stored; methods, properties, len -/
namespace Tw
open PySem L2

/-- a class of the text: its slots or fields; methods and properties by the defs' numbers; __init__: def, parameters, the last one's name if it has None as its default -/
structure CE where
  x : Str
  sl : Option (List Str)
  fl : List Str
  ms : List (Str × Nat × Nat)
  pr : List (Str × Nat)
  ini : Option (Nat × Nat × Option Str)
  frz : Bool
def ixS (N : List Str) (x : Str) : Option Nat := N.findIdx? fun y => y == x
theorem ixS_some {N : List Str} {x : Str} {i : Nat} (h : ixS N x = some i) : N[i]? = some x := by
  unfold ixS at h
  rw [List.findIdx?_eq_some_iff_getElem] at h
  obtain ⟨h1, h2, _⟩ := h
  rw [List.getElem?_eq_getElem h1]
  exact congrArg some (beq_iff_eq.mp h2)
theorem lookup_memS {β : Type} {l : List (Str × β)} {a : Str} {b : β} (h : l.lookup a = some b) : (a, b) ∈ l := by
  induction l with
  | nil => cases h
  | cons p l ih =>
    obtain ⟨a', b'⟩ := p
    unfold List.lookup at h
    split at h
    · rename_i e
      cases h
      rw [beq_iff_eq.mp e]
      exact List.mem_cons_self
    · exact List.mem_cons_of_mem _ (ih h)
/-- the text's facts of a class -/
structure CEok (S : Sta) (e : CE) (C : Addr) : Prop where
  sc : ∀ ns, e.sl = some ns → SlX.SCls S.K C ∧ SlX.SIsi S.K C ∧ ∀ (i : Nat) f, ns[i]? = some f → ∃ p, SlX.Slot1 S.K C f p i
  dc : e.sl = none → L2.Cls S.K C ∧ ∀ f ∈ e.fl, NoAttr S.K C f
  ms : ∀ m j n, (m, j, n) ∈ e.ms → ∃ g, S.fa j = some g ∧ Meth S.K C m g
  pr : ∀ f j, (f, j) ∈ e.pr → ∃ p g, S.fa j = some g ∧ PropOf S.K C f p g
  mki : ∀ j n kw, e.ini = some (j, n, kw) → ∃ g, S.fa j = some g ∧ Mk S.K C g
/-- a def, ready to be called -/
structure FnAt (S : Sta) (Φ : Nat → List T → M T) (k : Nat) (X : Cx) (j n : Nat) (f : Addr) : Prop where
  fa : S.fa j = some f
  kp : PySem.W.keepIn X.K (.ref f) = true
  ok : ∃ fd ps, FnOk X.prog X.w X.K X.mg X.base (L2.CX X.prog X.w) k f fd ps (spT S n (Φ j)) ∧ Binds X.K fd ps []
/-- .. an __init__ -/
structure IniAt (S : Sta) (Φ : Nat → List T → M T) (k : Nat) (X : Cx) (j n : Nat) (kw : Option Str) (f : Addr) : Prop where
  fa : S.fa j = some f
  ok : ∃ fd ps, FnOk X.prog X.w X.K X.mg X.base (L2.CX X.prog X.w) k f fd ps (spT S n (Φ j)) ∧ Binds X.K fd ps [] ∧ ∀ x, kw = some x → Binds X.K fd ps [Value.none] ∧ ∀ m, n = m + 1 → KBn X.K fd ps m [x] (fun us ws => us ++ ws) (fun vs zs => vs ++ zs)
structure ClsOk (S : Sta) (Φ : Nat → List T → M T) (k : Nat) (X : Cx) (e : CE) (C : Addr) : Prop extends CEok S e C where
  mF : ∀ m j n, (m, j, n) ∈ e.ms → ∃ f, FnAt S Φ k X j n f
  pF : ∀ p j, (p, j) ∈ e.pr → ∃ f, FnAt S Φ k X j 1 f
  iF : ∀ j n kw, e.ini = some (j, n, kw) → ∃ f, IniAt S Φ k X j n kw f
def CsOk (S : Sta) (Φ : Nat → List T → M T) (k : Nat) (X : Cx) (Cs : List CE) : Prop := ∀ (i : Nat) e, Cs[i]? = some e → ∃ C, S.ca i = some C ∧ ClsOk S Φ k X e C

/-! ### instances in the store -/
section
variable {S : Sta} {H : Hp} {ι : Ids} {μ : Store}
theorem SlF.slt {a C dx : Addr} {vs : List V} (h : SlF H a C dx vs) : SlX.Slt H a C dx (vs.map some) := .inr h.2
theorem lookup_zip {α : Type} {f : Str} : ∀ {ns : List Str} {vs : List α} {i : Nat} {v : α}, ixS ns f = some i → vs[i]? = some v → (ns.zip vs).lookup f = some v
  | [], _, _, _, h, _ => by cases h
  | n :: ns, [], _, _, _, h => by simp at h
  | n :: ns, w :: vs, i, v, h, hv => by
    unfold ixS at h
    rw [List.findIdx?_cons] at h
    rw [List.zip_cons_cons]
    unfold List.lookup
    by_cases e : n = f
    · subst e
      rw [if_pos (by simp)] at h
      cases h
      simp at hv
      rw [show (n == n) = true from by simp]
      exact congrArg some hv
    · rw [if_neg (by simpa using e)] at h
      obtain ⟨j, hj, rfl⟩ := Option.map_eq_some_iff.mp h
      rw [show (f == n) = false from by simpa using Ne.symm e]
      exact lookup_zip (ns := ns) hj (by simpa using hv)
theorem lookup_zip_none {α : Type} {f : Str} : ∀ {ns : List Str} {vs : List α}, ixS ns f = none → (ns.zip vs).lookup f = none
  | [], _, _ => by simp
  | n :: ns, [], _ => by simp
  | n :: ns, w :: vs, h => by
    unfold ixS at h
    rw [List.findIdx?_cons] at h
    rw [List.zip_cons_cons]
    unfold List.lookup
    by_cases e : n = f
    · subst e
      rw [if_pos (by simp)] at h
      cases h
    · rw [if_neg (by simpa using e)] at h
      rw [show (f == n) = false from by simpa using Ne.symm e]
      exact lookup_zip_none (ns := ns) (Option.map_eq_none_iff.mp h)
theorem putF_set {f : Str} {v : V} : ∀ {ns : List Str} {vs : List V} {i : Nat}, ns.length = vs.length → ixS ns f = some i → putF f v (ns.zip vs) = ns.zip (vs.set i v)
  | [], _, _, _, h => by cases h
  | n :: ns, [], _, hl, _ => by simp at hl
  | n :: ns, w :: vs, i, hl, h => by
    unfold ixS at h
    rw [List.findIdx?_cons] at h
    rw [List.zip_cons_cons]
    unfold putF
    by_cases e : n = f
    · rw [if_pos (by simpa using e)] at h
      cases h
      rw [if_pos e]
      rfl
    · rw [if_neg (by simpa using e)] at h
      obtain ⟨j, hj, rfl⟩ := Option.map_eq_some_iff.mp h
      rw [if_neg e, putF_set (ns := ns) (by simpa using hl) hj]
      rfl
theorem putF_new {f : Str} {v : V} : ∀ {ns : List Str} {vs : List V}, ns.length = vs.length → ixS ns f = none → putF f v (ns.zip vs) = (ns ++ [f]).zip (vs ++ [v])
  | [], [], _, _ => rfl
  | [], _ :: _, hl, _ => by simp at hl
  | n :: ns, [], hl, _ => by simp at hl
  | n :: ns, w :: vs, hl, h => by
    unfold ixS at h
    rw [List.findIdx?_cons] at h
    rw [List.zip_cons_cons]
    unfold putF
    by_cases e : n = f
    · rw [if_pos (by simpa using e)] at h
      cases h
    · rw [if_neg (by simpa using e)] at h
      rw [if_neg e, putF_new (ns := ns) (by simpa using hl) (Option.map_eq_none_iff.mp h)]
      rfl
theorem putS_set {i : Nat} {v : V} {vs : List V} (h : i < vs.length) : SlX.putS i v (vs.map some) = (vs.set i v).map some := by
  unfold SlX.putS
  rw [List.length_map, show i + 1 - vs.length = 0 from by omega, List.replicate_zero, List.append_nil, List.map_set]
theorem putS_new {v : V} {vs : List V} : SlX.putS vs.length v (vs.map some) = (vs ++ [v]).map some := by
  unfold SlX.putS
  rw [List.length_map, show vs.length + 1 - vs.length = 1 from by omega]
  rw [List.map_append]
  refine List.ext_getElem? fun j => ?_
  rw [List.getElem?_set]
  by_cases hj : vs.length = j
  · subst hj
    rw [if_pos rfl]
    rw [List.getElem?_append_right (by simp)]
    simp
  · rw [if_neg hj]
    by_cases hl : j < vs.length
    · rw [List.getElem?_append_left (by simpa using hl), List.getElem?_append_left (by simpa using hl)]
    · rw [List.getElem?_eq_none (by simp; omega), List.getElem?_eq_none (by simp; omega)]
/-- an instance's object and its dict's are written -/
theorem StRep.putSl (s : StRep S H ι μ) {n m : Nat} {a dx : Addr} {m₀ mo : MO} {o o' : HO} (hm : μ[n]? = some (some m₀)) (h0 : ∀ k, m₀ ≠ .aux k) (hx : μ[m]? = some (some (.aux n))) (ha : ι.l[n]? = some (some a)) (hd : ι.l[m]? = some (some dx))
    (r : RepM S (upd (upd H dx o') a o) ι (μ.set n (some mo)) n a mo) : StRep S (upd (upd H dx o') a o) ι (μ.set n (some mo)) where
  len := by simp [s.len]
  nd := s.nd
  obj := fun k q e => by
    have hl : n < μ.length := (List.getElem?_eq_some_iff.mp hm).1
    by_cases hk : k = n
    · subst hk
      rw [List.getElem?_set_self hl] at e
      cases e
      exact ⟨a, ha, r⟩
    · rw [List.getElem?_set_ne (Ne.symm hk)] at e
      obtain ⟨b, hb, r'⟩ := s.obj k q e
      have nba : b ≠ a := fun z => hk (s.nd k n b hb (z ▸ ha))
      by_cases hkm : k = m
      · subst hkm
        rw [hx] at e
        cases e
        rw [hd] at hb
        cases hb
        exact ⟨dx, hd, o', by rw [upd_ne nba]; exact upd_same⟩
      · have nbd : b ≠ dx := fun z => hkm (s.nd k m b hb (z ▸ hd))
        refine ⟨b, hb, r'.fut ((Fut.write (inL hd) (s.nlk hd)).trans (Fut.write (inL ha) (s.nlk ha))).toFu0 (fun u z => by rw [upd_ne nba, upd_ne nbd]; exact z) fun j dx' h1 h2 => ?_⟩
        have hj : j ≠ n := fun z => by subst z; rw [hm] at h2; cases h2; exact h0 _ rfl
        have hjm : j ≠ m := fun z => by
          subst z
          rw [hx] at h2
          cases h2
          exact hk rfl
        have n1 : dx' ≠ a := fun z => hj (s.nd j n dx' h1 (z ▸ ha))
        have n2 : dx' ≠ dx := fun z => hjm (s.nd j m dx' h1 (z ▸ hd))
        exact ⟨h1, by rw [List.getElem?_set_ne (Ne.symm hj)]; exact h2, fun u z => by rw [upd_ne n1, upd_ne n2]; exact z⟩
  gone := fun k q => by
    have hl : n < μ.length := (List.getElem?_eq_some_iff.mp hm).1
    by_cases hk : k = n
    · subst hk
      rw [List.getElem?_set_self hl] at q
      cases q
    · rw [List.getElem?_set_ne (Ne.symm hk)] at q
      exact s.gone k q
  lks := fun b h' => by
    obtain ⟨⟨u, q⟩, nn⟩ := s.lks b h'
    have n1 : b ≠ a := fun z => s.nlk ha (z ▸ h')
    have n2 : b ≠ dx := fun z => s.nlk hd (z ▸ h')
    exact ⟨⟨u, by rw [upd_ne n1, upd_ne n2]; exact q⟩, nn⟩
end

/-! ### what an instance is -/
inductive IK where
  | sl (c : Nat) (ts : List T)
  | dc (c : Nat) (ns : List Str) (ts : List T)
def ikOf (μ : Store) : T → Option IK
  | .ins c ts => some (.sl c ts)
  | .obj n => match μ[n]? with
    | some (some (.sl c ts)) => some (.sl c ts)
    | some (some (.ins c ns ts)) => some (.dc c ns ts)
    | _ => none
  | _ => none
def IK.cls : IK → Nat
  | .sl c _ => c
  | .dc c _ _ => c
def IK.has : IK → Str → Bool
  | .sl _ _, _ => false
  | .dc _ ns _, f => (ixS ns f).isSome
/-- the instance stands so in the heap -/
def IsIn (S : Sta) (H : Hp) (ι : Ids) (a : Addr) : IK → Prop
  | .sl c ts => ∃ C dx vs, S.ca c = some C ∧ SlX.Slt H a C dx (vs.map some) ∧ Reps S H ι vs ts
  | .dc c ns ts => ∃ C dx vs, S.ca c = some C ∧ ns.length = vs.length ∧ H a = some (.ins C dx (ns.zip vs)) ∧ Reps S H ι vs ts
theorem is_in {S : Sta} {H : Hp} {ι : Ids} {μ : Store} {v : V} {t : T} {k : IK} (s : StRep S H ι μ) (r : Rep S H ι v t) (h : ikOf μ t = some k) : ∃ a, v = .ref a ∧ IsIn S H ι a k := by
  unfold ikOf at h
  split at h
  · cases h
    cases r with
    | ins hc _ _ hf q => exact ⟨_, rfl, _, _, _, hc, hf.slt, q⟩
  · rename_i n
    split at h
    · rename_i c ts e
      cases h
      obtain ⟨a, rfl, _, m⟩ := s.at e r
      obtain ⟨C, dx, vs, m, ⟨_, hc⟩, _, _, hf, q⟩ := m
      exact ⟨a, rfl, C, dx, vs, hc, hf.slt, q⟩
    · rename_i c ns ts e
      cases h
      obtain ⟨a, rfl, _, m⟩ := s.at e r
      obtain ⟨C, dx, vs, m, ⟨_, hc⟩, _, _, hl, hf, q⟩ := m
      exact ⟨a, rfl, C, dx, vs, hc, hl, hf, q⟩
    · cases h
  · cases h
/-- the attribute f, if it is held by the instance itself -/
def IK.get (e : CE) (f : Str) : IK → Option T
  | .sl _ ts => match e.sl with
    | some ns => (ixS ns f).bind fun i => ts[i]?
    | none => none
  | .dc _ ns ts => match e.sl with
    | some _ => none
    | none => if f ∈ e.fl then (ixS ns f).bind fun i => ts[i]? else none
def mAttr (Cs : List CE) (Φ : Nat → List T → M T) (f : Str) (t : T) : M T := fun μ => match ikOf μ t with
  | some k => match Cs[k.cls]? with
    | some e => match e.pr.lookup f with
      | some j => noX (Φ j [t]) μ
      | none => match k.get e f with
        | some u => .ok u μ
        | none => .bad
    | none => .bad
  | none => .bad
section
variable {X : Cx} {S : Sta} {Φ : Nat → List T → M T} {k : Nat} {Cs : List CE}
theorem no_CX {P : Program} {w : World} {st : List PySem.Env} {H : Hp} {s : Shared} {e : Value} {s' : Shared} (h : L2.CX P w st H s (fun _ _ _ => False) e s') : False := by
  obtain ⟨_, _, _, _, _, _, _, _, _, _, _, _, z⟩ := h
  exact z
/-- what a def promises, of an object alone, where nothing is raised -/
theorem spT_noX {n : Nat} {g : List T → M T} {σ : L2.St} {W : WX} {vs : List V} {ts : List T} {H : Hp} {ι : Ids} {μ : Store} {Q : VK} (hl : vs.length = n) (r : Reps S H ι vs ts) (s : StRep S H ι μ) (h : Pst S W σ H ι (Rep S) (noX (g ts) μ) Q) : spT S n g vs H Q fun _ _ _ => False := by
  refine ⟨hl, ts, ι, μ, r, s, ?_⟩
  unfold noX at h
  cases e : g ts μ with
  | ok t μ1 => rw [e] at h; exact h
  | ex x μ1 => rw [e] at h; exact h.elim
  | bad => rw [e] at h; exact h.elim
theorem FnAt.fnR {j n : Nat} {f : Addr} (F : FnAt S Φ k X j n f) : FnR X.prog X.w X.K X.mg X.base (L2.CX X.prog X.w) k f (spT S n (Φ j)) := by
  obtain ⟨fd, ps, h1, h2⟩ := F.ok
  intro A outer s H us vs Q E hr e0 r h
  have hl : us.length = ps.length := by rw [← r.length]; exact h1.len _ _ _ _ h
  have := h2 s us (e0.mod.kin.keeps fun b o e => (e0.bs b o e).1) (by rw [List.append_nil]; exact hl)
  rw [List.append_nil] at this
  exact h1.run A outer s H ⟨us, []⟩ us vs Q E hr e0 this r h
/-- e.f -/
theorem pv_attr {W : WX} {e : Expr} {f : Str} {pos : Pos} {fe : Env → M T} (hK : X.K = S.K) (hC : CsOk S Φ k X Cs) (hr : Room (k + 1) X.A) (he : PV X S W e fe) (hb : attributeBase e f X.env (eval e X.env) = eval e X.env) :
    PV X S W (.Attribute e f pos) (c1 (mAttr Cs Φ f) fe) := by
  refine ⟨fun pins s σ H Q I ⟨ρ, ι, μ, hE, hs, h⟩ => ?_⟩
  refine attr_of hb (thn (he.run pins s σ H (fun x H1 => ∃ ι1 μ1 t, StRep S H1 ι1 μ1 ∧ Rep S H1 ι1 x t ∧ Pst S W σ H1 ι1 (Rep S) (mAttr Cs Φ f t μ1) Q) I (ev_then hE hs h fun x H1 ι1 μ1 t he1 hs1 f1 r1 h1 => ⟨ι1, μ1, t, hs1, r1, h1⟩)) ?_)
  intro u s1 ⟨x, H1, I1, rx, ι1, μ1, t, hs1, r1, h1⟩
  unfold mAttr at h1
  cases ek : ikOf μ1 t with
  | none => rw [ek] at h1; exact h1.elim
  | some ik =>
    rw [ek] at h1
    dsimp only at h1
    obtain ⟨a, rfl, hin⟩ := is_in hs1 r1 ek
    obtain rfl : u = Value.ref a := rx
    cases ec : Cs[ik.cls]? with
    | none => rw [ec] at h1; exact h1.elim
    | some e =>
      rw [ec] at h1
      dsimp only at h1
      obtain ⟨C, hCa, ok⟩ := hC _ _ ec
      cases ep : e.pr.lookup f with
      | some j =>
        rw [ep] at h1
        dsimp only at h1
        obtain ⟨p, g, hg, hp⟩ := ok.pr f j (lookup_memS ep)
        obtain ⟨g', F⟩ := ok.pF f j (lookup_memS ep)
        have := F.fa.symm.trans hg
        cases this
        have q : spT S 1 (Φ j) [.ref a] H1 Q fun _ _ _ => False := spT_noX rfl (.cons r1 .nil) hs1 h1
        cases ik with
        | sl c ts =>
          obtain ⟨C', dx, vs, hc, hsl, _⟩ := hin
          have := hc.symm.trans hCa
          cases this
          cases es : e.sl with
          | none =>
            obtain ⟨c, _⟩ := ok.dc es
            rcases hsl with ⟨hsl, _⟩ | hsl
            · obtain ⟨fd, ps, h3, h4⟩ := F.ok
              exact getprop_ok I1 hsl (by rw [hK]; exact c) (by rw [hK]; exact hp) h3 hr h4 .nil (fun _ _ _ _ _ _ _ z => no_CX z) q
            · obtain ⟨sl, od, _, J, _⟩ := SlX.slt_inst I1 (.inr hsl)
              obtain ⟨rest, hrec⟩ := hp.rec_
              have I2 : Inv X pins σ H1 { s1 with toks := s1.toks + 1 } := I1.tok (s1.toks + 1)
              have hcd : (PySem.W.clsIn X.K C).isSome = true := by
                obtain ⟨cd, hc, _⟩ := PySem.W.any_some c.hd
                rw [hK, hc]
                rfl
              refine PySem.W.get_bind I1.kIn J (PySem.W.plainGet_of (by rw [hK]; exact c.get f)).1 (PySem.W.findObj_data hcd (by rw [hK]; exact hp.at_) (by rw [hK]; exact hp.get) (by rw [hK]; exact hp.tak)) (PySem.W.plainGet_of (by rw [hK]; exact c.get f)).2 (wpAny_call (PySem.W.prop_get (s := { s1 with toks := s1.toks + 1 }) I1.kIn (by rw [hK]; exact hrec) ?_))
              refine codeAny_mono (F.fnR X.A.in1 X.stack { s1 with toks := s1.toks + 1 } H1 [.ref a] [.ref a] Q _ hr.in1 I2.env0.in1 (.cons rfl .nil) q) fun r s' hq => ?_
              cases r with
              | error e => exact (no_CX hq).elim
              | ok fl =>
                cases fl with
                | ret u =>
                  obtain ⟨v, H', I2, rv, q⟩ := I2.after hq
                  exact wpAny_of_eq (PySem.W.handedOut_of (handed_of rv)) ⟨v, H', I2, rv, q⟩
                | next => exact False.elim hq
                | brk => exact False.elim hq
                | cont => exact False.elim hq
          | some ns =>
            obtain ⟨c, _, _⟩ := ok.sc ns es
            exact SlX.getprop_sl I1 hsl (by rw [hK]; exact c) (by rw [hK]; exact hp.at_) (by rw [hK]; exact hp.get) (by rw [hK]; exact hp.tak) (by rw [hK]; exact hp.rec_) F.fnR hr (fun _ _ _ _ z => no_CX z) q
        | dc c ns ts =>
          obtain ⟨C', dx, vs, hc, hl, hf, _⟩ := hin
          have := hc.symm.trans hCa
          cases this
          obtain ⟨fd, ps, h3, h4⟩ := F.ok
          cases es : e.sl with
          | none => exact getprop_ok I1 hf (by rw [hK]; exact (ok.dc es).1) (by rw [hK]; exact hp) h3 hr h4 .nil (fun _ _ _ _ _ _ _ z => no_CX z) q
          | some ns' =>
            obtain ⟨c, _, _⟩ := ok.sc ns' es
            cases ns with
            | cons _ _ =>
              obtain ⟨mA, O, r, _, _, _⟩ := ins_get I1.hok hf
              obtain ⟨od, J, _⟩ := O.look
              obtain ⟨rest, hrec⟩ := hp.rec_
              have I2 : Inv X pins σ H1 { s1 with toks := s1.toks + 1 } := I1.tok (s1.toks + 1)
              refine PySem.W.get_bind I1.kIn J (PySem.W.plainGet_of (by rw [hK]; exact c.get f)).1 (PySem.W.findObj_data (by rw [hK]; exact c.ic) (by rw [hK]; exact hp.at_) (by rw [hK]; exact hp.get) (by rw [hK]; exact hp.tak)) (PySem.W.plainGet_of (by rw [hK]; exact c.get f)).2 (wpAny_call (PySem.W.prop_get (s := { s1 with toks := s1.toks + 1 }) I1.kIn (by rw [hK]; exact hrec) ?_))
              refine codeAny_mono (F.fnR X.A.in1 X.stack { s1 with toks := s1.toks + 1 } H1 [.ref a] [.ref a] Q _ hr.in1 I2.env0.in1 (.cons rfl .nil) q) fun r s' hq => ?_
              cases r with
              | error e => exact (no_CX hq).elim
              | ok fl =>
                cases fl with
                | ret u =>
                  obtain ⟨v, H', I2, rv, q⟩ := I2.after hq
                  exact wpAny_of_eq (PySem.W.handedOut_of (handed_of rv)) ⟨v, H', I2, rv, q⟩
                | next => exact False.elim hq
                | brk => exact False.elim hq
                | cont => exact False.elim hq
            | nil =>
              cases vs with
              | cons _ _ => simp at hl
              | nil => exact SlX.getprop_sl I1 (vs := []) (.inl ⟨hf, rfl⟩) (by rw [hK]; exact c) (by rw [hK]; exact hp.at_) (by rw [hK]; exact hp.get) (by rw [hK]; exact hp.tak) (by rw [hK]; exact hp.rec_) F.fnR hr (fun _ _ _ _ z => no_CX z) q
      | none =>
        rw [ep] at h1
        dsimp only at h1
        cases eg : ik.get e f with
        | none => rw [eg] at h1; exact h1.elim
        | some t' =>
          rw [eg] at h1
          cases ik with
          | sl c ts =>
            obtain ⟨C', dx, vs, hc, hsl, rr⟩ := hin
            have := hc.symm.trans hCa
            cases this
            unfold IK.get at eg
            dsimp only at eg
            cases es : e.sl with
            | none => rw [es] at eg; cases eg
            | some ns =>
              rw [es] at eg
              obtain ⟨i, e1, e2⟩ := Option.bind_eq_some_iff.mp eg
              obtain ⟨c, _, hp⟩ := ok.sc ns es
              obtain ⟨p, hp⟩ := hp i f (ixS_some e1)
              obtain ⟨v, e3, rv⟩ := rr.get e2
              exact SlX.getslot_ok I1 hsl (by rw [hK]; exact c) (by rw [hK]; exact hp) (v := v) (by rw [List.getElem?_map, e3]; rfl) fun u s' I' ru => ⟨v, H1, I', ru, Pst.now h1 hs1 rv⟩
          | dc c ns ts =>
            obtain ⟨C', dx, vs, hc, hl, hf, rr⟩ := hin
            have := hc.symm.trans hCa
            cases this
            unfold IK.get at eg
            dsimp only at eg
            cases es : e.sl with
            | some ns' => rw [es] at eg; cases eg
            | none =>
              rw [es] at eg
              dsimp only at eg
              split at eg
              · rename_i hfl
                obtain ⟨i, e1, e2⟩ := Option.bind_eq_some_iff.mp eg
                obtain ⟨v, e3, rv⟩ := rr.get e2
                obtain ⟨c, hn⟩ := ok.dc es
                exact getattr_ok I1 hf (by rw [hK]; exact c) (by rw [hK]; exact hn f hfl) (lookup_zip e1 e3) fun u s' I' ru => ⟨v, H1, I', ru, Pst.now h1 hs1 rv⟩
              · cases eg
end
end Tw

/-! TwO2: attributes stored; methods called; instances made -/
namespace Tw
open PySem L2

/-- o.f = v -/
def stA (Cs : List CE) (f : Str) (t v : T) (μ : Store) : Option Store := match t with
  | .obj n => match μ[n]? with
    | some (some (.sl c ts)) => match Cs[c]? with
      | some e => match e.sl with
        | some ns => match ixS ns f with
          | some i => if i < ts.length then some (μ.set n (some (.sl c (ts.set i v)))) else if i = ts.length then some (μ.set n (some (.sl c (ts ++ [v])))) else none
          | none => none
        | none => none
      | none => none
    | some (some (.ins c ns ts)) => match Cs[c]? with
      | some e => match e.sl with
        | some sl => if ns = [] ∧ ixS sl f = some 0 then some (μ.set n (some (.sl c [v]))) else none
        | none => if f ∈ e.fl ∧ ns.length < 900 then match ixS ns f with
          | some i => some (μ.set n (some (.ins c ns (ts.set i v))))
          | none => some (μ.set n (some (.ins c (ns ++ [f]) (ts ++ [v]))))
          else none
      | none => none
    | _ => none
  | _ => none
section
variable {X : Cx} {S : Sta} {Φ : Nat → List T → M T} {k : Nat} {Cs : List CE} {pins : List (Addr × Obj)} {σ : L2.St} {H : Hp} {s : Shared} {ι : Ids} {μ μ' : Store}
theorem stA_ok {f : Str} {x y : V} {t tv : T} {u : Value} {A : Around} {E : Value → Shared → Prop} {Q : Unit → Shared → Prop} (hK : X.K = S.K) (hC : CsOk S Φ k X Cs) (I : Inv X pins σ H s) (hs : StRep S H ι μ) (rx : Rep S H ι x t) (ry : Rep S H ι y tv) (ru : RelV y u)
    (e : stA Cs f t tv μ = some μ') (q : ∀ H' s', Fut H ι H' ι → StRep S H' ι μ' → Inv X pins σ H' s' → Q () s') : ∃ a, x = .ref a ∧ wpAny (model X.prog X.w) A (setAttr (.ref a) f u) Q E s := by
  unfold stA at e
  split at e
  · rename_i n
    split at e
    · rename_i c ts em
      obtain ⟨a, rfl, ha, m⟩ := hs.at em rx
      obtain ⟨C, dx, vs, m, ⟨hmn, hc⟩, hd, hm, hf, r⟩ := m
      refine ⟨a, rfl, ?_⟩
      cases ec : Cs[c]? with
      | none => rw [ec] at e; cases e
      | some ce =>
        rw [ec] at e
        dsimp only at e
        obtain ⟨C', hC', ok⟩ := hC c ce ec
        have := hc.symm.trans hC'
        cases this
        cases es : ce.sl with
        | none => rw [es] at e; cases e
        | some ns =>
          rw [es] at e
          dsimp only at e
          cases ei : ixS ns f with
          | none => rw [ei] at e; cases e
          | some i =>
            rw [ei] at e
            dsimp only at e
            obtain ⟨cl, _, hp⟩ := ok.sc ns es
            obtain ⟨p, hp⟩ := hp i f (ixS_some ei)
            have key : ∀ vs' ts', SlX.putS i y (vs.map some) = vs'.map some → Reps S H ι vs' ts' → μ' = μ.set n (some (.sl c ts')) → wpAny (model X.prog X.w) A (setAttr (.ref a) f u) Q E s := by
              intro vs' ts' e1 r' e2
              refine SlX.setslot_ok I hf.slt (by rw [hK]; exact cl) (by rw [hK]; exact hp) ru fun s' I' => ?_
              rw [e1] at I'
              have fu : Fut H ι (SlX.slH H a C dx (vs'.map some)) ι := (Fut.write (inL hd) (hs.nlk hd)).trans (Fut.write (inL ha) (hs.nlk ha))
              refine q _ s' fu ?_ I'
              rw [e2]
              refine hs.putSl (m := m) em (fun _ z => nomatch z) hm ha hd ⟨C, dx, vs', m, ⟨hmn, hc⟩, hd, ?_, ⟨hf.1, upd_same, ?_⟩, r'.fut fu⟩
              · rw [List.getElem?_set_ne (by omega)]; exact hm
              · rw [upd_ne hf.1]; exact upd_same
            split at e
            · rename_i hi
              cases e
              exact key _ _ (putS_set (by rw [r.length]; exact hi)) (r.set ry i) rfl
            · split at e
              · rename_i hi
                cases e
                rw [hi, ← r.length] at key
                exact key _ _ putS_new (r.snoc ry) rfl
              · cases e
    · rename_i c ns ts em
      obtain ⟨a, rfl, ha, m⟩ := hs.at em rx
      obtain ⟨C, dx, vs, m, ⟨hmn, hc⟩, hd, hm, hl, hf, r⟩ := m
      refine ⟨a, rfl, ?_⟩
      cases ec : Cs[c]? with
      | none => rw [ec] at e; cases e
      | some ce =>
        rw [ec] at e
        dsimp only at e
        obtain ⟨C', hC', ok⟩ := hC c ce ec
        have := hc.symm.trans hC'
        cases this
        cases es : ce.sl with
        | some sl =>
          rw [es] at e
          dsimp only at e
          split at e
          · rename_i hi
            obtain ⟨rfl, ei⟩ := hi
            cases e
            obtain ⟨cl, _, hp⟩ := ok.sc sl es
            obtain ⟨p, hp⟩ := hp 0 f (ixS_some ei)
            have ne : dx ≠ a := fun z => by
              have := hs.nd m n a (z ▸ hd) ha
              omega
            refine SlX.setslot_ok I (vs := []) (.inl ⟨hf, rfl⟩) (by rw [hK]; exact cl) (by rw [hK]; exact hp) ru fun s' I' => ?_
            have fu : Fut H ι (SlX.slH H a C dx (SlX.putS 0 y [])) ι := (Fut.write (inL hd) (hs.nlk hd)).trans (Fut.write (inL ha) (hs.nlk ha))
            refine q _ s' fu ?_ I'
            refine hs.putSl (m := m) em (fun _ z => nomatch z) hm ha hd ⟨C, dx, [y], m, ⟨hmn, hc⟩, hd, ?_, ⟨ne, upd_same, ?_⟩, Reps.cons (ry.fut fu) .nil⟩
            · rw [List.getElem?_set_ne (by omega)]; exact hm
            · rw [upd_ne ne]; exact upd_same
          · cases e
        | none =>
          rw [es] at e
          dsimp only at e
          obtain ⟨cl, hn⟩ := ok.dc es
          split at e
          · rename_i hfl
            have hlen : (ns.zip vs).length < 1000 := by rw [List.length_zip]; omega
            have key : ∀ ns' vs' ts', putF f y (ns.zip vs) = ns'.zip vs' → ns'.length = vs'.length → Reps S H ι vs' ts' → μ' = μ.set n (some (.ins c ns' ts')) → wpAny (model X.prog X.w) A (setAttr (.ref a) f u) Q E s := by
              intro ns' vs' ts' e1 hl' r' e2
              refine setattr_ok I hf (by rw [hK]; exact cl) (by rw [hK]; exact hn f hfl.1) hlen ru fun s' I' => ?_
              rw [e1] at I'
              have fu : Fut H ι (upd H a (.ins C dx (ns'.zip vs'))) ι := Fut.write (inL ha) (hs.nlk ha)
              refine q _ s' fu ?_ I'
              rw [e2]
              refine hs.put em (fun _ z => nomatch z) ha ⟨C, dx, vs', m, ⟨hmn, hc⟩, hd, ?_, hl', upd_same, r'.fut fu⟩
              rw [List.getElem?_set_ne (by omega)]; exact hm
            cases ei : ixS ns f with
            | some i =>
              rw [ei] at e
              cases e
              exact key _ _ _ (putF_set hl ei) (by simpa using hl) (r.set ry i) rfl
            | none =>
              rw [ei] at e
              cases e
              exact key _ _ _ (putF_new hl ei) (by simpa using hl) (r.snoc ry) rfl
          · cases e
    · cases e
  · cases e
end
/-- o.f = e -/
def sSetA (Cs : List CE) (f : Str) (a v : Env → M T) : Env → M Out := fun ρ => bndS (v ρ) ρ fun y => bndS (a ρ) ρ fun t => fun μ => match stA Cs f t y μ with
  | some μ' => .ok (.nx ρ) μ'
  | none => .bad
section
variable {X : Cx} {S : Sta} {Φ : Nat → List T → M T} {k : Nat} {Cs : List CE} {W : WX} {o e value : Expr} {f : Str} {pos pos' tpos : Pos} {fo fv : Env → M T}
theorem ps_of_setA (hK : X.K = S.K) (hC : CsOk S Φ k X Cs) (ho : PV X S W o fo) (hv : PV X S W value fv) (hsw : swapsWith value (some (.Attribute o f pos')) pos.line X.env = pure false) : PVs X S W (.Assign [.Attribute o f pos'] value pos) (sSetA Cs f fo fv) := by
  refine ⟨fun pins s σ H D I ⟨ρ, ι, μ, he, hs, h⟩ => ?_⟩
  refine plainObj_wpAny_Assign_Attribute (thn (hv.run pins s σ H (fun y H1 => ∃ ι1 μ1 ty, RepE S H1 ι1 σ ρ ∧ StRep S H1 ι1 μ1 ∧ Rep S H1 ι1 y ty ∧ PstS S W D H1 ι1 (bndS (fo ρ) ρ (fun t => fun μ => match stA Cs f t ty μ with | some μ' => .ok (.nx ρ) μ' | none => .bad) μ1)) I
    (es_then he hs h fun y H1 ι1 μ1 ty he1 hs1 f1 r1 h1 => ⟨ι1, μ1, ty, he1, hs1, r1, h1⟩)) ?_) hsw
  intro u s1 ⟨y, H1, I1, ry, ι1, μ1, ty, he1, hs1, r1, h1⟩
  refine thn (ho.run pins s1 σ H1 (fun x H2 => ∃ ι2 μ2 tx, RepE S H2 ι2 σ ρ ∧ StRep S H2 ι2 μ2 ∧ Rep S H2 ι2 x tx ∧ Rep S H2 ι2 y ty ∧ PstS S W D H2 ι2 ((fun μ => match stA Cs f tx ty μ with | some μ' => .ok (.nx ρ) μ' | none => .bad) μ2)) I1
    (es_then he1 hs1 h1 fun x H2 ι2 μ2 tx he2 hs2 f2 r2 h2 => ⟨ι2, μ2, tx, he2, hs2, r2, r1.fut f2, h2⟩)) ?_
  intro ov s2 ⟨x, H2, I2, rx, ι2, μ2, tx, he2, hs2, r2, r3, h2⟩
  cases est : stA Cs f tx ty μ2 with
  | none =>
    dsimp only at h2
    rw [est] at h2
    exact h2.elim
  | some μ3 =>
    dsimp only at h2
    rw [est] at h2
    obtain ⟨a, rfl, hw⟩ := stA_ok (A := X.A) (E := X.xe) (Q := fun _ s' => SP X pins D .next s') hK hC I2 hs2 r2 r3 ry est fun H' s' fu hs' I' => ⟨σ, H', I', h2 σ H' ι2 fu hs' (he2.fut fu)⟩
    obtain rfl : ov = Value.ref a := rx
    exact hw
end
/-! ### methods -/
def gMeth (Cs : List CE) (μ : Store) (t : T) (m : Str) : Option (Nat × Nat) := (ikOf μ t).bind fun k => (Cs[k.cls]?).bind fun e => if k.has m then none else e.ms.lookup m
/-- o.m(..) -/
def cMethO (Cs : List CE) (Φ : Nat → List T → M T) (m : Str) (o : Env → M T) (a : Env → M (List T)) : Env → M T := fun ρ => bnd (o ρ) fun t => fun μ => match gMeth Cs μ t m with
  | some (j, n) => bnd (a ρ) (fun ts => if ts.length + 1 = n then Φ j (t :: ts) else bad) μ
  | none => .bad
section
variable {X : Cx} {S : Sta} {Φ : Nat → List T → M T} {k : Nat} {Cs : List CE}
theorem gMeth_ok {pins : List (Addr × Obj)} {σ : L2.St} {H : Hp} {s : Shared} {ι : Ids} {μ : Store} {x : V} {t : T} {m : Str} {j n : Nat} {pl : Sem Bool} {A : Around} {E : Value → Shared → Prop} (hK : X.K = S.K) (hC : CsOk S Φ k X Cs) (I : Inv X pins σ H s) (hs : StRep S H ι μ) (rx : Rep S H ι x t)
    (e : gMeth Cs μ t m = some (j, n)) : ∃ a g, x = .ref a ∧ FnAt S Φ k X j n g ∧ ∀ (Q : Value × List Value → Shared → Prop), Q (.ref g, [.ref a]) s → wpAny (model X.prog X.w) A (getMethod (.ref a) m pl) Q E s := by
  unfold gMeth at e
  obtain ⟨ik, e1, e⟩ := Option.bind_eq_some_iff.mp e
  obtain ⟨ce, e2, e⟩ := Option.bind_eq_some_iff.mp e
  split at e
  · cases e
  rename_i hhas
  obtain ⟨C, hCa, ok⟩ := hC _ _ e2
  obtain ⟨g, hg, hm⟩ := ok.ms m j n (lookup_memS e)
  obtain ⟨g', F⟩ := ok.mF m j n (lookup_memS e)
  have := F.fa.symm.trans hg
  cases this
  obtain ⟨a, rfl, hin⟩ := is_in hs rx e1
  refine ⟨a, g, rfl, F, fun Q q => ?_⟩
  have pgm : PySem.W.plainGet X.K C m = true := by
    rw [hK]
    cases es : ce.sl with
    | none => exact (ok.dc es).1.get m
    | some ns => exact (ok.sc ns es).1.get m
  cases ik with
  | sl c ts =>
    obtain ⟨C', dx, vs, hc, hsl, _⟩ := hin
    have := hc.symm.trans hCa
    cases this
    obtain ⟨sl, od, r, J, hl⟩ := SlX.slt_inst I hsl
    refine PySem.W.method_fn I.kIn J (PySem.W.plainGet_of pgm).1 (PySem.W.plainGet_of pgm).2 (by rw [hK]; exact hm.at_) (by rw [hK]; exact beq_iff_eq.mp hm.fn) ?_ q
    show (PySem.W.lookIn m od).map (·.isSome) = some false
    rw [hl m]
    rfl
  | dc c ns ts =>
    obtain ⟨C', dx, vs, hc, hl, hf, _⟩ := hin
    have := hc.symm.trans hCa
    cases this
    obtain ⟨mA, O, r, _, _, _⟩ := ins_get I.hok hf
    have hno : ixS ns m = none := by
      unfold IK.has at hhas
      simpa using hhas
    have hn : mA m = none := RelO.none_of (by rw [← lookup_zip_none (vs := vs) hno]; exact r m)
    exact get_meth I.kIn O pgm (by rw [hK]; exact hm.at_) (by rw [hK]; exact hm.fn) hn q
theorem meth_eq {o : Expr} {name : Str} {apos pos : Pos} {args : List Expr} {env : PySem.Env} (hbase : attributeBase o name env (eval o env) = eval o env)
    (hfew : ((backTo pos (starEach args env)).all (fun x => !x.1) && (backToKw pos (keywordEach [] env)).all (fun x => x.1.isSome) && decide (args.length + ([] : List Keyword).length + (if ([] : List Keyword).isEmpty then 0 else 1) < 30)) = true)
    (hline : (apos.endLine == pos.line) = true) : eval (.Call (.Attribute o name apos) args [] pos) env = (do
      let ov ← eval o env
      standAt apos.atName
      let (f, first) ← holding [ov] (getMethod ov name (do return (← importBound o env).getD true))
      callWith pos f first (backTo pos (starEach args env)) (backToKw pos (keywordEach [] env))) := by
  rw [arm_eval_Call, hbase]
  have hform : methodCallForm (args.length + ([] : List Keyword).length) (backTo pos (starEach args env)) (backToKw pos (keywordEach [] env)) = true := hfew
  have hpos : methodCallPos true o env apos pos = pure pos := by unfold methodCallPos; simp [hline]
  unfold methodCall
  rw [hform, hpos]
  unfold calleeOf
  rfl
theorem pv_methO {W : WX} {o e : Expr} {es : List Expr} {m : Str} {apos pos : Pos} {fo : Env → M T} {fa : Env → M (List T)} (hK : X.K = S.K) (hC : CsOk S Φ k X Cs) (hr : Room (k + 1) X.A) (tk : Takes X W) (ho : PV X S W o fo) (ha : PVa X S W (e :: es) fa)
    (hbase : attributeBase o m X.env (eval o X.env) = eval o X.env)
    (hfew : ((backTo pos (starEach (e :: es) X.env)).all (fun x => !x.1) && (backToKw pos (keywordEach [] X.env)).all (fun x => x.1.isSome)
      && decide ((e :: es).length + ([] : List Keyword).length + (if ([] : List Keyword).isEmpty then 0 else 1) < 30)) = true)
    (hline : (apos.endLine == pos.line) = true) (hst : starEach (e :: es) X.env = (false, eval e X.env) :: starEach es X.env) (hpl : (backTo pos (starEach es X.env)).any (·.1) = false) :
    PV X S W (.Call (.Attribute o m apos) (e :: es) [] pos) (cMethO Cs Φ m fo fa) := by
  refine ⟨fun pins s σ H Q I ⟨ρ, ι, μ, he, hs, h⟩ => ?_⟩
  refine PySem.W.methodCall_KW (thn (ho.run pins s σ H (fun x H1 => ∃ ι1 μ1 t, RepE S H1 ι1 σ ρ ∧ StRep S H1 ι1 μ1 ∧ Rep S H1 ι1 x t ∧ Pst S W σ H1 ι1 (Rep S) (match gMeth Cs μ1 t m with | some (j, n) => bnd (fa ρ) (fun ts => if ts.length + 1 = n then Φ j (t :: ts) else bad) μ1 | none => .bad) Q) I
    (ev_then he hs h fun x H1 ι1 μ1 t he1 hs1 f1 r1 h1 => ⟨ι1, μ1, t, he1, hs1, r1, h1⟩)) ?_) (meth_eq hbase hfew hline)
  intro u s1 ⟨x, H1, I1, rx, ι1, μ1, t, he1, hs1, r1, h1⟩
  cases eg : gMeth Cs μ1 t m with
  | none => rw [eg] at h1; exact h1.elim
  | some p =>
    obtain ⟨j, n⟩ := p
    rw [eg] at h1
    dsimp only at h1
    obtain ⟨a, g, rfl, F, hget⟩ := gMeth_ok (pl := do return (← importBound o X.env).getD true) (A := X.A) (E := X.xe) hK hC I1 hs1 r1 eg
    obtain rfl : u = Value.ref a := rx
    refine hget _ ?_
    refine PySem.W.callWith_K (first := [.ref a]) (h₀ := X.base) I.ok.mod.kin F.kp (thn (ha.run pos pins s1 σ H1 (fun vs H2 => ∃ ι2 μ2 ts, StRep S H2 ι2 μ2 ∧ Reps S H2 ι2 vs ts ∧ Rep S H2 ι2 (.ref a) t ∧ Pst S W σ H2 ι2 (Rep S) ((if ts.length + 1 = n then Φ j (t :: ts) else bad) μ2) Q) I1
      (av_then he1 hs1 h1 fun vs H2 ι2 μ2 ts he2 hs2 f2 r2 h2 => ⟨ι2, μ2, ts, hs2, r2, r1.fut f2, h2⟩)) ?_) hst hpl
    intro us s2 ⟨vs, H2, I2, r, ι2, μ2, ts, hs2, r2, r3, h2⟩
    refine ⟨I2.kIn, ?_⟩
    split at h2
    · rename_i hn
      obtain ⟨fd, ps, h3, h4⟩ := F.ok
      refine run_fnSD (E := fun σ => WE W σ) (us := .ref a :: us) (vs := .ref a :: vs) h3 (hr.mono (by omega)) h4 .nil (passAt tk σ) I2 (.cons rfl r) ?_
      rw [List.append_nil]
      refine ⟨by rw [List.length_cons, r2.length]; exact hn, t :: ts, ι2, μ2, .cons r3 r2, hs2, ?_⟩
      cases ew : Φ j (t :: ts) μ2 with
      | ok t μ3 => rw [ew] at h2; exact h2
      | ex x μ3 => rw [ew] at h2; exact h2
      | bad => rw [ew] at h2; exact h2.elim
    · exact h2.elim
theorem pv_methO0 {W : WX} {o : Expr} {m : Str} {apos pos : Pos} {fo : Env → M T} (hK : X.K = S.K) (hC : CsOk S Φ k X Cs) (hr : Room (k + 1) X.A) (tk : Takes X W) (ho : PV X S W o fo)
    (hbase : attributeBase o m X.env (eval o X.env) = eval o X.env) (hline : (apos.endLine == pos.line) = true) :
    PV X S W (.Call (.Attribute o m apos) [] [] pos) (cMethO Cs Φ m fo aNil) := by
  refine ⟨fun pins s σ H Q I ⟨ρ, ι, μ, he, hs, h⟩ => ?_⟩
  refine PySem.W.methodCall_KW (thn (ho.run pins s σ H (fun x H1 => ∃ ι1 μ1 t, RepE S H1 ι1 σ ρ ∧ StRep S H1 ι1 μ1 ∧ Rep S H1 ι1 x t ∧ Pst S W σ H1 ι1 (Rep S) (match gMeth Cs μ1 t m with | some (j, n) => bnd (aNil ρ) (fun ts => if ts.length + 1 = n then Φ j (t :: ts) else bad) μ1 | none => .bad) Q) I
    (ev_then he hs h fun x H1 ι1 μ1 t he1 hs1 f1 r1 h1 => ⟨ι1, μ1, t, he1, hs1, r1, h1⟩)) ?_) (meth_eq hbase rfl hline)
  intro u s1 ⟨x, H1, I1, rx, ι1, μ1, t, he1, hs1, r1, h1⟩
  cases eg : gMeth Cs μ1 t m with
  | none => rw [eg] at h1; exact h1.elim
  | some p =>
    obtain ⟨j, n⟩ := p
    rw [eg] at h1
    dsimp only at h1
    obtain ⟨a, g, rfl, F, hget⟩ := gMeth_ok (pl := do return (← importBound o X.env).getD true) (A := X.A) (E := X.xe) hK hC I1 hs1 r1 eg
    obtain rfl : u = Value.ref a := rx
    refine hget _ ?_
    have h2 : Pst S W σ H1 ι1 (Rep S) ((if ([] : List T).length + 1 = n then Φ j [t] else bad) μ1) Q := h1
    split at h2
    · rename_i hn
      obtain ⟨fd, ps, h3, h4⟩ := F.ok
      refine PySem.W.callWith_K0 (first := [.ref a]) I1.kIn F.kp (run_fnSD (E := fun σ => WE W σ) (us := [.ref a]) (vs := [.ref a]) h3 (hr.mono (by omega)) h4 .nil (passAt tk σ) I1 (.cons rfl .nil) ?_)
      rw [List.append_nil]
      refine ⟨hn, [t], ι1, μ1, .cons r1 .nil, hs1, ?_⟩
      cases ew : Φ j [t] μ1 with
      | ok t μ3 => rw [ew] at h2; exact h2
      | ex x μ3 => rw [ew] at h2; exact h2
      | bad => rw [ew] at h2; exact h2.elim
    · exact h2.elim
end
end Tw

/-! TwO3: instances made -/
namespace Tw
open PySem L2

/-- behind __init__: what no one changes any more is a tree -/
def mEnd (frz : Bool) (c n : Nat) (t : T) (μ' : Store) : Res T := match t with
  | .non => if frz then match μ'[n + 1]? with
      | some (some (.sl c' vs)) => if c' = c then .ok (.ins c vs) ((μ'.set (n + 1) none).set n none) else .bad
      | _ => .bad
    else .ok (.obj (n + 1)) μ'
  | _ => .bad
def mIni (Φ : Nat → List T → M T) (frz : Bool) (c j : Nat) (us : List T) : M T := fun μ => match Φ j (.obj (μ.length + 1) :: us) (μ ++ [some (.aux (μ.length + 1))] ++ [some (.ins c [] [])]) with
  | .ok t μ' => mEnd frz c μ.length t μ'
  | .ex x μ' => .ex x μ'
  | .bad => .bad
def iniArgs (n : Nat) (kw : Option Str) (ts : List T) : Option (List T) := if ts.length + 1 = n then some ts else if ts.length + 2 = n ∧ kw.isSome = true then some (ts ++ [.non]) else none
def mMake (Cs : List CE) (Φ : Nat → List T → M T) (c : Nat) (ts : List T) : M T := fun μ => match Cs[c]? with
  | some e => match e.ini with
    | some (j, n, kw) => match iniArgs n kw ts with
      | some us => mIni Φ e.frz c j us μ
      | none => .bad
    | none => .bad
  | none => .bad
/-- C(.., k=v) -/
def mMakeK (Cs : List CE) (Φ : Nat → List T → M T) (c : Nat) (x : Str) (us : List T) : M T := fun μ => match Cs[c]? with
  | some e => match e.ini with
    | some (j, n, kw) => if kw = some x ∧ us.length + 1 = n then mIni Φ e.frz c j us μ else .bad
    | none => .bad
  | none => .bad
section
variable {X : Cx} {S : Sta} {Φ : Nat → List T → M T} {k : Nat} {Cs : List CE} {W : WX} {σ : L2.St}
theorem snoc_last {α : Type} {l : List α} {x : α} {n : Nat} (h : l.length = n) : (l ++ [x])[n]? = some x := by
  subst h
  rw [List.getElem?_append_right (Nat.le_refl _), Nat.sub_self]
  rfl
theorem ini_sp {H : Hp} {ι : Ids} {μ : Store} {vs : List V} {us : List T} {Q : VK} {C : Addr} {c j n : Nat} {frz : Bool} (hs : StRep S H ι μ) (r : Reps S H ι vs us) (hc : S.ca c = some C) (hl : us.length + 1 = n) (h : Pst S W σ H ι (Rep S) (mIni Φ frz c j us μ) Q)
    {x dx : Addr} (hx : H x = none) (hd : H dx = none) (ne : dx ≠ x) : spT S n (Φ j) (.ref x :: vs) (upd (upd H dx (.own x)) x (.ins C dx [])) (fun v H2 => v = .non ∧ Q (.ref x) H2) (WE W σ) := by
  have s1 : StRep S (upd H dx (.own x)) (ι.snoc dx) (μ ++ [some (.aux (μ.length + 1))]) := hs.newM hd ⟨_, upd_same⟩
  have hx1 : upd H dx (.own x) x = none := by rw [upd_ne (Ne.symm ne)]; exact hx
  have l1 : (μ ++ [some (MO.aux (μ.length + 1))]).length = μ.length + 1 := by simp
  have g1 : ((ι.snoc dx).snoc x).l[μ.length]? = some (some dx) := get_old (snoc_last hs.len)
  have g2 : ((ι.snoc dx).snoc x).l[μ.length + 1]? = some (some x) := snoc_last (by simp [hs.len])
  have g3 : (μ ++ [some (MO.aux (μ.length + 1))] ++ [some (MO.ins c [] [])])[μ.length]? = some (some (.aux (μ.length + 1))) := get_old (snoc_last rfl)
  have s2 : StRep S (upd (upd H dx (.own x)) x (.ins C dx [])) ((ι.snoc dx).snoc x) (μ ++ [some (.aux (μ.length + 1))] ++ [some (.ins c [] [])]) :=
    s1.newM hx1 (by rw [l1]; exact ⟨C, dx, [], μ.length, ⟨rfl, hc⟩, g1, g3, rfl, upd_same, .nil⟩)
  have fu : Fut H ι (upd (upd H dx (.own x)) x (.ins C dx [])) ((ι.snoc dx).snoc x) := (Fut.newM hs.tk hd).trans (Fut.newM s1.tk hx1)
  refine ⟨by rw [List.length_cons, r.length]; exact hl, _, _, _, .cons (.obj g2) (r.fut fu), s2, ?_⟩
  unfold mIni at h
  cases e : Φ j (.obj (μ.length + 1) :: us) (μ ++ [some (.aux (μ.length + 1))] ++ [some (.ins c [] [])]) with
  | bad => rw [e] at h; exact h.elim
  | ex y μ' =>
    rw [e] at h
    exact fun cls d H' ι' f' s' rx => h cls d H' ι' (fu.trans f') s' rx
  | ok t μ' =>
    rw [e] at h
    intro b H' ι' f' s' rb
    dsimp only at h
    unfold mEnd at h
    split at h
    · cases rb
      refine ⟨rfl, ?_⟩
      split at h
      · split at h
        · rename_i c' ws em
          split at h
          · rename_i hcc
            subst hcc
            obtain ⟨a, ha, C', dx', vs', m, ⟨hm, hc'⟩, hd', hx', hf, rr⟩ := s'.obj _ _ em
            have hm' : m = μ.length := by omega
            subst hm'
            have ea : a = x := by
              rcases f'.ids _ _ g2 with q | q
              · rw [ha] at q; cases q; rfl
              · rw [ha] at q; cases q
            subst ea
            have s3 := s'.drop em (fun _ z => nomatch z)
            have s4 : StRep S H' ((ι'.drop (μ.length + 1)).drop μ.length) ((μ'.set (μ.length + 1) none).set μ.length none) :=
              s3.dropAux (n := μ.length + 1) (by rw [List.getElem?_set_ne (by omega)]; exact hx') (List.getElem?_set_self (List.getElem?_eq_some_iff.mp em).1)
            have fd : Fut H' ι' H' ((ι'.drop (μ.length + 1)).drop μ.length) := Fut.drop.trans Fut.drop
            have nin : ∀ b, (∀ i : Nat, i ≠ μ.length + 1 → i ≠ μ.length → ι'.l[i]? ≠ some (some b)) → b ∉ ι'.lk → ¬ InI ((ι'.drop (μ.length + 1)).drop μ.length) b := by
              intro b hb hlk z
              rcases z with z | z
              · obtain ⟨i, hi⟩ := List.mem_iff_getElem?.mp z
                rw [List.getElem?_set] at hi
                split at hi
                · split at hi <;> cases hi
                · rw [List.getElem?_set] at hi
                  split at hi
                  · split at hi <;> cases hi
                  · exact hb i (by omega) (by omega) hi
              · exact hlk z
            refine h (.ref a) H' _ ((fu.trans f').trans fd) s4 (.ins hc' ?_ ?_ hf (rr.fut fd))
            · exact nin a (fun i h1 _ z => h1 (s'.nd i _ a z ha)) (s'.nlk ha)
            · exact nin dx' (fun i _ h2 z => h2 (s'.nd i _ dx' z hd')) (s'.nlk hd')
          · exact h.elim
        · exact h.elim
      · exact h (.ref x) H' ι' (fu.trans f') s' ((f'.ids _ _ g2).elim .obj .gone)
    · exact h.elim
/-- the callee of a class's call, at these slots -/
theorem run_makeS {pins : List (Addr × Obj)} {H : Hp} {s : Shared} {Q : VK} {us : List Value} {vs : List V} {C f : Addr} {fd : FuncData} {ps : List Str} {sp : Sp} {dvs : List V} {ds : List Value} {E : XK} {CX : CXT} (M : Mk X.K C f) (F : FnOk X.prog X.w X.K X.mg X.base CX k f fd ps sp) (hr : Room (k + 1) X.A) (hb : Binds X.K fd ps ds) (hd : Vals dvs ds)
    (hx : PassesAt CX X σ E) (I : Inv X pins σ H s) (r : Vals vs us)
    (h : ∀ x dx, H x = none → H dx = none → dx ≠ x → sp (.ref x :: (vs ++ dvs)) (upd (upd H dx (.own x)) x (.ins C dx [])) (fun v H2 => v = .non ∧ Q (.ref x) H2) E) :
    wpAny (model X.prog X.w) X.A (call (.ref C) us) (EP X pins σ Q) X.xe s := by
  have hq := h (s.heap.objs.size + 1) s.heap.objs.size (I.hok.fresh (Nat.le_succ _)) (I.hok.fresh (Nat.le_refl _)) (Nat.ne_of_lt (Nat.lt_succ_self _))
  have I2 := Inv.made (C := C) I
  have r2 : Vals (V.ref (s.heap.objs.size + 1) :: (vs ++ dvs)) (Value.ref (s.heap.objs.size + 1) :: (us ++ ds)) := .cons rfl (r.append hd)
  have hl : (Value.ref (s.heap.objs.size + 1) :: us ++ ds).length = ps.length := by
    have e := r2.length
    rw [F.len _ _ _ _ hq] at e
    exact e.symm
  refine wpAny_call (make_map (f := f) I.kIn M.makes M.init (beq_iff_eq.mp M.fn) (codeAny_mono (F.run _ X.stack _ _ ⟨Value.ref (s.heap.objs.size + 1) :: us, []⟩ (Value.ref (s.heap.objs.size + 1) :: (us ++ ds)) _ _ E (hr.make C us [])
    (I2.env0.make C us []) (hb _ (Value.ref (s.heap.objs.size + 1) :: us) I2.kIn hl) r2 hq) fun r s' hq' => ?_))
  cases r with
  | error e => exact hx pins _ _ e s' I2 hq'
  | ok fl =>
    cases fl with
    | ret u =>
      obtain ⟨v, H', I3, rv, ev, q3⟩ := I2.after hq'
      subst ev
      exact ⟨rv, ⟨V.ref (s.heap.objs.size + 1), H', I3, rfl, q3⟩⟩
    | next => exact False.elim hq'
    | brk => exact False.elim hq'
    | cont => exact False.elim hq'
theorem run_makeNS {pins : List (Addr × Obj)} {H : Hp} {s : Shared} {Q : VK} {us ws : List Value} {vs zs : List V} {C f : Addr} {fd : FuncData} {ps ks : List Str} {sp : Sp} {n : Nat} {g : List Value → List Value → List Value} {gV : List V → List V → List V} {E : XK} {CX : CXT} (M : Mk X.K C f) (F : FnOk X.prog X.w X.K X.mg X.base CX k f fd ps sp) (hr : Room (k + 1) X.A) (hb : KBn X.K fd ps (n + 1) ks g gV)
    (hx : PassesAt CX X σ E) (I : Inv X pins σ H s) (r : Vals vs us) (rz : Vals zs ws) (l1 : vs.length = n) (l2 : zs.length = ks.length)
    (h : ∀ x dx, H x = none → H dx = none → dx ≠ x → sp (gV (.ref x :: vs) zs) (upd (upd H dx (.own x)) x (.ins C dx [])) (fun v H2 => v = .non ∧ Q (.ref x) H2) E) :
    wpAny (model X.prog X.w) X.A (call (.ref C) us (ks.zip ws)) (EP X pins σ Q) X.xe s := by
  have hq := h (s.heap.objs.size + 1) s.heap.objs.size (I.hok.fresh (Nat.le_succ _)) (I.hok.fresh (Nat.le_refl _)) (Nat.ne_of_lt (Nat.lt_succ_self _))
  have I2 := Inv.made (C := C) I
  have r1 : Vals (V.ref (s.heap.objs.size + 1) :: vs) (Value.ref (s.heap.objs.size + 1) :: us) := .cons rfl r
  have r2 := hb.rel r1 rz
  have e1 : (Value.ref (s.heap.objs.size + 1) :: us).length = n + 1 := r1.length.symm.trans (congrArg Nat.succ l1)
  have e2 : ws.length = ks.length := rz.length.symm.trans l2
  refine wpAny_call (make_map (f := f) I.kIn M.makes M.init (beq_iff_eq.mp M.fn) (codeAny_mono (F.run _ X.stack _ _ ⟨Value.ref (s.heap.objs.size + 1) :: us, ks.zip ws⟩ (g (Value.ref (s.heap.objs.size + 1) :: us) ws) _ _ E (hr.make C us (ks.zip ws))
    (I2.env0.make C us (ks.zip ws)) (hb.to _ (Value.ref (s.heap.objs.size + 1) :: us) ws I2.kIn e1 e2) r2 hq) fun r s' hq' => ?_))
  cases r with
  | error e => exact hx pins _ _ e s' I2 hq'
  | ok fl =>
    cases fl with
    | ret u =>
      obtain ⟨v, H', I3, rv, ev, q3⟩ := I2.after hq'
      subst ev
      exact ⟨rv, ⟨V.ref (s.heap.objs.size + 1), H', I3, rfl, q3⟩⟩
    | next => exact False.elim hq'
    | brk => exact False.elim hq'
    | cont => exact False.elim hq'
/-- C(e, ..) -/
theorem pv_make {e : Expr} {es : List Expr} {x : Str} {p pos : Pos} {c : Nat} {C : Addr} {fa : Env → M (List T)} (hK : X.K = S.K) (hC : CsOk S Φ k X Cs) (hr : Room (k + 1) X.A) (tk : Takes X W) (hg : Gl X x) (hm : X.mg x = some (.ref C)) (hca : S.ca c = some C) (hi : ∃ e q, Cs[c]? = some e ∧ e.ini = some q) (ha : PVa X S W (e :: es) fa)
    (hdb : (x == ("__debug__" : Str)) = false) (hst : starEach (e :: es) X.env = (false, eval e X.env) :: starEach es X.env) (hpl : (backTo pos (starEach es X.env)).any (·.1) = false) :
    PV X S W (.Call (.Name x p) (e :: es) [] pos) (cN (pureC (mMake Cs Φ c)) fa) := by
  refine ⟨fun pins s σ H Q I ⟨ρ, ι, μ, he, hs, h⟩ => ?_⟩
  refine wpAny_Call_Name_kw (ld_glob I hg hm ?_ hdb)
  obtain ⟨e0, ⟨j0, n0, kw0⟩, ec0, ei0⟩ := hi
  have hkp : PySem.W.keepIn X.K (.ref C) = true := by
    obtain ⟨C', hC', ok⟩ := hC c e0 ec0
    have := hC'.symm.trans hca
    cases this
    obtain ⟨g, _, M⟩ := ok.mki j0 n0 kw0 ei0
    rw [hK]
    exact M.kp
  · refine PySem.W.callWith_K (h₀ := X.base) I.ok.mod.kin hkp (thn (ha.run pos pins s σ H (fun vs H1 => ∃ ι1 μ1 ts, StRep S H1 ι1 μ1 ∧ Reps S H1 ι1 vs ts ∧ Pst S W σ H1 ι1 (Rep S) (mMake Cs Φ c ts μ1) Q) I
      (av_then he hs h fun vs H1 ι1 μ1 ts he1 hs1 f1 r1 h1 => let ⟨ι2, μ2, r2, s2, h2⟩ := pst_pure r1 hs1 h1; ⟨ι2, μ2, ts, s2, r2, h2⟩)) ?_) hst hpl
    intro us s1 ⟨vs, H1, I1, r, ι1, μ1, ts, hs1, r1, h1⟩
    refine ⟨I1.kIn, ?_⟩
    unfold mMake at h1
    cases ec : Cs[c]? with
    | none => rw [ec] at h1; exact h1.elim
    | some e =>
      rw [ec] at h1
      dsimp only at h1
      cases ei : e.ini with
      | none => rw [ei] at h1; exact h1.elim
      | some q =>
        obtain ⟨j, n, kw⟩ := q
        rw [ei] at h1
        dsimp only at h1
        obtain ⟨C', hC', ok⟩ := hC c e ec
        have := hC'.symm.trans hca
        cases this
        obtain ⟨g, hg1, M⟩ := ok.mki j n kw ei
        obtain ⟨g', F⟩ := ok.iF j n kw ei
        have := hg1.symm.trans F.fa
        cases this
        obtain ⟨fd, ps, h3, h4, h5⟩ := F.ok
        unfold iniArgs at h1
        by_cases hl : ts.length + 1 = n
        · rw [if_pos hl] at h1
          dsimp only at h1
          refine run_makeS (by rw [hK]; exact M) h3 hr h4 .nil (passAt tk σ) I1 r fun x dx hx hd ne => ?_
          rw [List.append_nil]
          exact ini_sp hs1 r1 hca hl h1 hx hd ne
        · rw [if_neg hl] at h1
          by_cases hl2 : ts.length + 2 = n ∧ kw.isSome = true
          · rw [if_pos hl2] at h1
            dsimp only at h1
            obtain ⟨y, hy⟩ := Option.isSome_iff_exists.mp hl2.2
            refine run_makeS (dvs := [.non]) (by rw [hK]; exact M) h3 hr (h5 y hy).1 (.cons rfl .nil) (passAt tk σ) I1 r fun x dx hx hd ne => ?_
            exact ini_sp hs1 (r1.snoc .non) hca (by simp; omega) h1 hx hd ne
          · rw [if_neg hl2] at h1
            exact h1.elim
def cMkK (Cs : List CE) (Φ : Nat → List T → M T) (c : Nat) (x : Str) (a : Env → M (List T)) (y : Env → M T) : Env → M T := fun ρ => bnd (a ρ) fun ts => bnd (y ρ) fun t => pureC (mMakeK Cs Φ c x) (ts ++ [t])
/-- C(e, .., k=v) -/
theorem pv_makeK {e d : Expr} {es : List Expr} {x kw : Str} {p pos kpos : Pos} {c : Nat} {C : Addr} {fa : Env → M (List T)} {fd : Env → M T} (hK : X.K = S.K) (hC : CsOk S Φ k X Cs) (hr : Room (k + 1) X.A) (tk : Takes X W) (hg : Gl X x) (hm : X.mg x = some (.ref C)) (hca : S.ca c = some C) (hi : ∃ e q, Cs[c]? = some e ∧ e.ini = some q) (ha : PVa X S W (e :: es) fa) (hd : PV X S W d fd)
    (hdb : (x == ("__debug__" : Str)) = false) (hst : starEach (e :: es) X.env = (false, eval e X.env) :: starEach es X.env) (hpl : (backTo pos (starEach es X.env)).any (·.1) = false) :
    PV X S W (.Call (.Name x p) (e :: es) [⟨some kw, d, kpos⟩] pos) (cMkK Cs Φ c kw fa fd) := by
  refine ⟨fun pins s σ H Q I ⟨ρ, ι, μ, he, hs, h⟩ => ?_⟩
  refine wpAny_Call_Name_kw (ld_glob I hg hm ?_ hdb)
  obtain ⟨e0, ⟨j, n, kw0⟩, ec, ei⟩ := hi
  obtain ⟨C', hC', ok⟩ := hC c e0 ec
  have := hC'.symm.trans hca
  cases this
  obtain ⟨g, hg1, M⟩ := ok.mki j n kw0 ei
  obtain ⟨g', F⟩ := ok.iF j n kw0 ei
  have := hg1.symm.trans F.fa
  cases this
  obtain ⟨fd', ps, h3, h4, h5⟩ := F.ok
  refine PySem.W.callWith_KW (h₀ := X.base) I.ok.mod.kin (by rw [hK]; exact M.kp) rfl (thn (ha.run pos pins s σ H (fun vs H1 => ∃ ι1 μ1 ts, RepE S H1 ι1 σ ρ ∧ StRep S H1 ι1 μ1 ∧ Reps S H1 ι1 vs ts ∧ Pst S W σ H1 ι1 (Rep S) (bnd (fd ρ) (fun t => pureC (mMakeK Cs Φ c kw) (ts ++ [t])) μ1) Q) I
    (av_then he hs h fun vs H1 ι1 μ1 ts he1 hs1 f1 r1 h1 => ⟨ι1, μ1, ts, he1, hs1, r1, h1⟩)) ?_) (by rw [hst]; show ((false || (backTo pos (starEach es X.env)).any (·.1)) || false) = false; rw [hpl]; rfl) hst
  intro us s1 ⟨vs, H1, I1, r, ι1, μ1, ts, he1, hs1, r1, h1⟩
  refine thn ((pk_cons hd pk_nil).run pos pins s1 σ H1 (fun zs H2 => ∃ z ι2 μ2 t, zs = [z] ∧ StRep S H2 ι2 μ2 ∧ Reps S H2 ι2 (vs ++ [z]) (ts ++ [t]) ∧ Pst S W σ H2 ι2 (Rep S) (mMakeK Cs Φ c kw (ts ++ [t]) μ2) Q) I1
    (ev_then he1 hs1 h1 fun z H2 ι2 μ2 t he2 hs2 f2 r2 h2 => let ⟨ι3, μ3, r3, s3, h3⟩ := pst_pure ((r1.fut f2).snoc r2) hs2 h2; ⟨z, ι3, μ3, t, rfl, s3, r3, h3⟩)) ?_
  intro ws s2 ⟨zs, H2, I2, rz, z, ι2, μ2, t, ez, hs2, r2, h2⟩
  subst ez
  refine ⟨I2.kIn, ?_⟩
  show wpAny _ _ (call (.ref C) us ([kw].zip ws)) _ _ _
  unfold mMakeK at h2
  rw [ec] at h2
  dsimp only at h2
  rw [ei] at h2
  dsimp only at h2
  split at h2
  · rename_i hl
    obtain ⟨rfl, hl⟩ := hl
    rw [List.length_append, List.length_singleton] at hl
    have hn : n = (ts.length + 1) + 1 := by omega
    have hvl : vs.length = ts.length := by have := r2.length; simpa using this
    obtain ⟨h6, h7⟩ := h5 kw rfl
    refine run_makeNS (n := ts.length) (by rw [hK]; exact M) h3 hr (h7 _ hn) (passAt tk σ) I2 r rz hvl rfl fun x dx hx hd ne => ?_
    exact ini_sp hs2 r2 hca (by simp; omega) h2 hx hd ne
  · exact h2.elim
end
end Tw

/-! TwO4: o.f op= e; len, isinstance of own classes -/
namespace Tw
open PySem PyProof PyProof.Rows L2
/-- a field or a slot of the instance itself -/
def mFld (Cs : List CE) (f : Str) (t : T) : M T := fun μ => match ikOf μ t with
  | some k => match Cs[k.cls]? with
    | some e => match k.get e f with
      | some u => .ok u μ
      | none => .bad
    | none => .bad
  | none => .bad
section
variable {X : Cx} {S : Sta} {Φ : Nat → List T → M T} {k : Nat} {Cs : List CE}
theorem fld_ok {pins : List (Addr × Obj)} {σ : L2.St} {H : Hp} {s : Shared} {ι : Ids} {μ μ' : Store} {x : V} {t t' : T} {f : Str} {b : Bool} {A : Around} {E : Value → Shared → Prop} (hK : X.K = S.K) (hC : CsOk S Φ k X Cs) (I : Inv X pins σ H s) (hs : StRep S H ι μ) (rx : Rep S H ι x t)
    (e : mFld Cs f t μ = .ok t' μ') : μ' = μ ∧ ∃ a v, x = .ref a ∧ Rep S H ι v t' ∧ ∀ (Q : Value → Shared → Prop), (∀ u s', Inv X pins σ H s' → RelV v u → Q u s') → wpAny (model X.prog X.w) A (getAttr (.ref a) f b) Q E s := by
  unfold mFld at e
  cases ek : ikOf μ t with
  | none => rw [ek] at e; cases e
  | some ik =>
    rw [ek] at e
    dsimp only at e
    obtain ⟨a, rfl, hin⟩ := is_in hs rx ek
    cases ec : Cs[ik.cls]? with
    | none => rw [ec] at e; cases e
    | some ce =>
      rw [ec] at e
      dsimp only at e
      obtain ⟨C, hCa, ok⟩ := hC _ _ ec
      cases eg : ik.get ce f with
      | none => rw [eg] at e; cases e
      | some u =>
        rw [eg] at e
        cases e
        refine ⟨rfl, a, ?_⟩
        cases ik with
        | sl c ts =>
          obtain ⟨C', dx, vs, hc, hsl, rr⟩ := hin
          have := hc.symm.trans hCa
          cases this
          unfold IK.get at eg
          dsimp only at eg
          cases es : ce.sl with
          | none => rw [es] at eg; cases eg
          | some ns =>
            rw [es] at eg
            obtain ⟨i, e1, e2⟩ := Option.bind_eq_some_iff.mp eg
            obtain ⟨c, _, hp⟩ := ok.sc ns es
            obtain ⟨p, hp⟩ := hp i f (ixS_some e1)
            obtain ⟨v, e3, rv⟩ := rr.get e2
            exact ⟨v, rfl, rv, fun Q q => SlX.getslot_ok I hsl (by rw [hK]; exact c) (by rw [hK]; exact hp) (v := v) (by rw [List.getElem?_map, e3]; rfl) q⟩
        | dc c ns ts =>
          obtain ⟨C', dx, vs, hc, hl, hf, rr⟩ := hin
          have := hc.symm.trans hCa
          cases this
          unfold IK.get at eg
          dsimp only at eg
          cases es : ce.sl with
          | some ns' => rw [es] at eg; cases eg
          | none =>
            rw [es] at eg
            dsimp only at eg
            split at eg
            · rename_i hfl
              obtain ⟨i, e1, e2⟩ := Option.bind_eq_some_iff.mp eg
              obtain ⟨v, e3, rv⟩ := rr.get e2
              obtain ⟨c, hn⟩ := ok.dc es
              exact ⟨v, rfl, rv, fun Q q => getattr_ok I hf (by rw [hK]; exact c) (by rw [hK]; exact hn f hfl) (lookup_zip e1 e3) q⟩
            · cases eg
theorem fld_noX {t : T} {f : Str} {μ μ' : Store} {x : Exc} : mFld Cs f t μ ≠ .ex x μ' := by
  unfold mFld
  split
  · split
    · split <;> exact fun z => nomatch z
    · exact fun z => nomatch z
  · exact fun z => nomatch z
end
/-- o.f op= e -/
def sAugA (Cs : List CE) (f : Str) (g : T → T → M T) (a v : Env → M T) : Env → M Out := fun ρ => bndS (a ρ) ρ fun t => bndS (mFld Cs f t) ρ fun old => bndS (v ρ) ρ fun y => bndS (g old y) ρ fun z => fun μ => match stA Cs f t z μ with
  | some μ' => .ok (.nx ρ) μ'
  | none => .bad
section
variable {X : Cx} {S : Sta} {Φ : Nat → List T → M T} {k : Nat} {Cs : List CE} {W : WX} {o value : Expr} {f : Str} {pos tpos : Pos} {fo fv : Env → M T}
theorem ps_of_augA {op : Operator} {r : R2} {g : T → T → M T} (hK : X.K = S.K) (hC : CsOk S Φ k X Cs) (ho : PV X S W o fo) (hv : PV X S W value fv) (hop : OpR X (inplaceOp op) r) (hg : OpT S g r) : PVs X S W (.AugAssign (.Attribute o f tpos) op value pos) (sAugA Cs f g fo fv) := by
  refine ⟨fun pins s σ H D I ⟨ρ, ι, μ, he, hs, h⟩ => ?_⟩
  refine wpAny_AugAssign_AttributeAny (thn (ho.run pins s σ H (fun x H1 => ∃ ι1 μ1 tx, RepE S H1 ι1 σ ρ ∧ StRep S H1 ι1 μ1 ∧ Rep S H1 ι1 x tx ∧ PstS S W D H1 ι1 (bndS (mFld Cs f tx) ρ (fun old => bndS (fv ρ) ρ fun y => bndS (g old y) ρ fun z => fun μ => match stA Cs f tx z μ with | some μ' => .ok (.nx ρ) μ' | none => .bad) μ1)) I
    (es_then he hs h fun x H1 ι1 μ1 tx he1 hs1 f1 r1 h1 => ⟨ι1, μ1, tx, he1, hs1, r1, h1⟩)) ?_)
  intro ov s1 ⟨x, H1, I1, rx, ι1, μ1, tx, he1, hs1, r1, h1⟩
  unfold bndS at h1
  cases ef : mFld Cs f tx μ1 with
  | bad => rw [ef] at h1; exact h1.elim
  | ex y μ2 => exact (fld_noX ef).elim
  | ok told μ2 =>
    rw [ef] at h1
    obtain ⟨rfl, a, v, rfl, rv, hget⟩ := fld_ok (b := true) (A := X.A) (E := X.xe) hK hC I1 hs1 r1 ef
    obtain rfl : ov = Value.ref a := rx
    refine hget _ fun u s2 I2 ru => ?_
    have h1' : PstS S W D H1 ι1 (bndS (fv ρ) ρ (fun y => bndS (g told y) ρ fun z => fun μ => match stA Cs f tx z μ with | some μ' => .ok (.nx ρ) μ' | none => .bad) μ2) := h1
    refine thn (hv.run pins s2 σ H1 (fun y H2 => ∃ ι2 μ2 ty, RepE S H2 ι2 σ ρ ∧ StRep S H2 ι2 μ2 ∧ Rep S H2 ι2 (.ref a) tx ∧ Rep S H2 ι2 v told ∧ Rep S H2 ι2 y ty ∧ PstS S W D H2 ι2 (bndS (g told ty) ρ (fun z => fun μ => match stA Cs f tx z μ with | some μ' => .ok (.nx ρ) μ' | none => .bad) μ2)) I2
      (es_then he1 hs1 h1' fun y H2 ι2 μ2 ty he2 hs2 f2 r2 h2 => ⟨ι2, μ2, ty, he2, hs2, r1.fut f2, rv.fut f2, r2, h2⟩)) ?_
    intro w3 s3 ⟨y, H2, I3, ry, ι2, μ2, ty, he2, hs2, r2, r3, r4, h2⟩
    refine thn (hop pins s3 σ H2 v y u w3 (fun z H3 => ∃ ι3 μ3 tz, RepE S H3 ι3 σ ρ ∧ StRep S H3 ι3 μ3 ∧ Rep S H3 ι3 (.ref a) tx ∧ Rep S H3 ι3 z tz ∧ PstS S W D H3 ι3 ((fun μ => match stA Cs f tx tz μ with | some μ' => .ok (.nx ρ) μ' | none => .bad) μ3)) I3 ru ry
      (hg W σ H2 ι2 μ2 v y told ty _ hs2 r3 r4 ((PstS.seq (rel := Rep S) he2 h2).mono fun z H3 ⟨ι3, μ3, tz, f3, s3, rz, q⟩ => ⟨ι3, μ3, tz, he2.fut f3, s3, r2.fut f3, rz, q⟩))) ?_
    intro w4 s4 ⟨z, H3, I4, rz, ι3, μ3, tz, he3, hs3, r5, r6, h3⟩
    cases est : stA Cs f tx tz μ3 with
    | none =>
      dsimp only at h3
      rw [est] at h3
      exact h3.elim
    | some μ4 =>
      dsimp only at h3
      rw [est] at h3
      obtain ⟨a', e', hw⟩ := stA_ok (A := X.A) (E := X.xe) (Q := fun _ s' => SP X pins D .next s') hK hC I4 hs3 r5 r6 rz est fun H' s' fu hs' I' => ⟨σ, H', I', h3 σ H' ι3 fu hs' (he3.fut fu)⟩
      cases e'
      exact hw
end
/-! ### len(x) of an own class -/
def bLenO (Cs : List CE) (Φ : Nat → List T → M T) (ts : List T) : M T := fun μ => match ts with
  | [t] => match ikOf μ t with
    | some _ => match gMeth Cs μ t "__len__" with
      | some (j, m) => if m = 1 then (match Φ j [t] μ with
        | .ok (.int n) μ' => if 0 ≤ n ∧ n < 2 ^ 62 then .ok (.int n) μ' else .bad
        | _ => .bad) else .bad
      | none => .bad
    | none => bLen [t] μ
  | _ => .bad
theorem len_own {prog : Program} {w : World} {A : Around} {E : Value → Shared → Prop} {s : Shared} {K : PySem.W.Frag} {x C f : Addr} {ox : Obj} {od : Option Obj} {Q : Value → Shared → Prop} (X : K.In s.heap) (I : PySem.W.InstAt s.heap x ox C od) (hs : PySem.W.findIn K (.ref C) "__len__" = some (some (.ref f))) (hf : PySem.W.isFn K (.ref f) = true)
    (h : wpAny (model prog w) A.in1 (call (.ref f) [.ref x]) (fun r s₁ => ∃ (n : Int) (u : Tok), r = Value.int n u ∧ 0 ≤ n ∧ n < 2 ^ 62 ∧ ∀ t tk, Q (.int n t) { s₁ with toks := tk }) E s) : wpAny (model prog w) A (call (.builtin "len") [.ref x]) Q E s := by
  refine Calls.call_function_entry kind_len plain_len entry_len (args_len1 _) ?_
  unfold Builtin.«len»
  refine wpAny_bind (m := oneArg "len" _) (wpAny_pure ?_)
  refine wpAny_bind (m := callSpecial? (.ref x) (PySem.Str.ofString "__len__")) (PySem.W.special_fn X I hs (beq_iff_eq.mp hf) (wpAny_mono h (fun r s₁ hr => ?_) fun _ _ y => y))
  obtain ⟨n, u, rfl, h0, h1, hq⟩ := hr
  refine wpAny_bind (wpAny_holding (wpAny_pure ?_))
  refine wpAny_bind (wpAny_letGo ?_)
  show wpAny _ _ (if n < 0 then _ else _) _ _ _
  rw [if_neg (by omega)]
  show wpAny _ _ (if n ≥ 2 ^ 63 then _ else _) _ _ _
  rw [if_neg (by omega)]
  exact wpAny_bind (wpAny_mkInt (wpAny_pure ⟨_, rfl, hq _ _⟩))
/-- what a built-in does, by trees -/
def rT (S : Sta) (g : List T → M T) : List V → Hp → VK → Prop := fun xs H Q => ∃ (W : WX) (σ : L2.St) (ι : Ids) (μ : Store) (ts : List T), StRep S H ι μ ∧ Reps S H ι xs ts ∧ Pst S W σ H ι (Rep S) (g ts μ) Q
theorem callT_rT {S : Sta} {g : List T → M T} : CallT S g (rT S g) := fun W σ H ι μ xs ts Q hs r h => ⟨W, σ, ι, μ, ts, hs, r, h⟩
section
variable {X : Cx} {S : Sta} {Φ : Nat → List T → M T} {k : Nat} {Cs : List CE}
/-- an instance's place and what getMethod finds -/
theorem inst_of {pins : List (Addr × Obj)} {σ : L2.St} {H : Hp} {s : Shared} {ι : Ids} {a : Addr} {ik : IK} {C : Addr} (I : Inv X pins σ H s) (hin : IsIn S H ι a ik) (hC : S.ca ik.cls = some C) : ∃ ox od, PySem.W.InstAt s.heap a ox C (some od) := by
  cases ik with
  | sl c ts =>
    obtain ⟨C', dx, vs, hc, hsl, _⟩ := hin
    have := hc.symm.trans hC
    cases this
    obtain ⟨sl, od, r, J, hl⟩ := SlX.slt_inst I hsl
    exact ⟨_, od, J⟩
  | dc c ns ts =>
    obtain ⟨C', dx, vs, hc, hl, hf, _⟩ := hin
    have := hc.symm.trans hC
    cases this
    obtain ⟨mA, O, r, _, _, _⟩ := ins_get I.hok hf
    obtain ⟨od, J, _⟩ := O.look
    exact ⟨_, od, J⟩
theorem cr_lenO (hK : X.K = S.K) (hC : CsOk S Φ k X Cs) (hr : Room (k + 1) X.A) : CallR X (.builtin "len") (rT S (bLenO Cs Φ)) := by
  intro pins s σ H xs us Q I rv ⟨W, σ', ι, μ, ts, hs, r, h⟩
  unfold bLenO at h
  split at h
  · rename_i t
    obtain ⟨x, rfl, rx⟩ := reps1 r
    obtain ⟨u, rfl, ru⟩ := vals1 rv
    cases ek : ikOf μ t with
    | none =>
      rw [ek] at h
      have := callT_len (S := S) W σ' H ι μ [x] [t] Q hs (.cons rx .nil) h
      exact call_len pins s σ H [x] [u] Q I (.cons ru .nil) (by rw [hK]; exact this)
    | some ik =>
      rw [ek] at h
      dsimp only at h
      obtain ⟨a, rfl, hin⟩ := is_in hs rx ek
      obtain rfl : u = Value.ref a := ru
      cases eg : gMeth Cs μ t "__len__" with
      | none => rw [eg] at h; exact h.elim
      | some p =>
        obtain ⟨j, n⟩ := p
        rw [eg] at h
        dsimp only at h
        by_cases hn : n = 1
        case neg => rw [if_neg hn] at h; exact h.elim
        subst hn
        rw [if_pos rfl] at h
        unfold gMeth at eg
        obtain ⟨ik', e1, eg⟩ := Option.bind_eq_some_iff.mp eg
        rw [ek] at e1
        cases e1
        obtain ⟨ce, e2, eg⟩ := Option.bind_eq_some_iff.mp eg
        split at eg
        · cases eg
        obtain ⟨C, hCa, ok⟩ := hC _ _ e2
        obtain ⟨g, hg, hm⟩ := ok.ms _ j 1 (lookup_memS eg)
        obtain ⟨g', F⟩ := ok.mF _ j 1 (lookup_memS eg)
        have := F.fa.symm.trans hg
        cases this
        obtain ⟨ox, od, J⟩ := inst_of I hin hCa
        obtain ⟨fd, ps, h3, h4⟩ := F.ok
        refine len_own I.kIn J (by rw [hK]; exact hm.at_) (by rw [hK]; exact hm.fn) (wpAny_mono (wpAny_call (SlX.run_at (X := X.nox) (A := X.A.in1) (E := fun _ _ _ => False) (us := [.ref a]) (ws := [.ref a]) (Q := fun v H' => ∃ n, v = .int n ∧ 0 ≤ n ∧ n < 2 ^ 62 ∧ Q (.int n) H') F.fnR hr.in1 I.env0.in1 (fun _ _ _ _ _ _ _ z => no_CX z) (I.wish _) (.cons rfl .nil) ?_)) (fun u s' z => ?_) fun _ _ z => z.elim)
        · refine ⟨rfl, [t], ι, μ, .cons rx .nil, hs, ?_⟩
          cases ew : Φ j [t] μ with
          | ex x μ3 => rw [ew] at h; exact h.elim
          | bad => rw [ew] at h; exact h.elim
          | ok t' μ3 =>
            rw [ew] at h
            cases t' with
            | int n =>
              dsimp only at h
              split at h
              · rename_i hb
                intro b H' ι' f' s' rb
                cases rb
                exact ⟨n, rfl, hb.1, hb.2, h _ H' ι' f' s' (.int n)⟩
              · exact h.elim
            | _ => exact h.elim
        · obtain ⟨v, H', I', rv', n, rfl, h0, h1, hq⟩ := z
          obtain ⟨tk, rfl⟩ := (show ∃ t, u = Value.int n t from rv')
          exact ⟨n, tk, rfl, h0, h1, fun t tk => ⟨.int n, H', I'.unwish.tok _, ⟨_, rfl⟩, hq⟩⟩
  · exact h.elim
end
end Tw

/-! TwA: lists that no one changes any more; further operators and calls -/
namespace Tw
open PySem PySem.Spec PyProof.Rows L2
/-! ### a list or a dict that no one changes any more -/
def frz1 (i : Nat) (ρ : Tw.Env) (μ : Store) : Tw.Env × Store := match ρ[i]? with
  | some (some (.obj n)) => match μ[n]? with
    | some (some (.lst ts)) => (ρ.set i (some (.lst ts)), μ.set n none)
    | some (some (.dic ks ts)) => (ρ.set i (some (.dic ks ts)), μ.set n none)
    | _ => (ρ, μ)
  | _ => (ρ, μ)
def sFrz (i : Nat) (f : Tw.Env → M Out) : Tw.Env → M Out := fun ρ μ => f (frz1 i ρ μ).1 (frz1 i ρ μ).2
theorem RepE.put {S : Sta} {H : Hp} {ι : Ids} {σ : L2.St} {ρ : Tw.Env} {i : Nat} {v : V} {t : T} (h : RepE S H ι σ ρ) (hv : σ[i]? = some (some v)) (r : Rep S H ι v t) : RepE S H ι σ (ρ.set i (some t)) := by
  have := h.set (i := i) r
  have e : σ.set i (some v) = σ := by
    refine List.ext_getElem? fun j => ?_
    by_cases hj : j = i
    · subst hj
      rw [List.getElem?_set_self (List.getElem?_eq_some_iff.mp hv).1, hv]
    · rw [List.getElem?_set_ne (Ne.symm hj)]
  rw [e] at this
  exact this
theorem drop_out {S : Sta} {H : Hp} {ι : Ids} {μ : Store} (s : StRep S H ι μ) {n : Nat} {a : Addr} (h : ι.l[n]? = some (some a)) : ¬ InI (ι.drop n) a := by
  rintro (z | z)
  · obtain ⟨k, hk⟩ := List.mem_iff_getElem?.mp z
    have hk' : (ι.l.set n none)[k]? = some (some a) := hk
    by_cases hkn : k = n
    · subst hkn
      rw [List.getElem?_set_self (List.getElem?_eq_some_iff.mp h).1] at hk'
      cases hk'
    · rw [List.getElem?_set_ne (Ne.symm hkn)] at hk'
      exact hkn (s.nd k n a hk' h)
  · exact s.nlk h z
theorem pss_frz {X : Cx} {S : Sta} {W : WX} {sts : List Stmt} {f : Tw.Env → M Out} {i : Nat} (h : PVss X S W sts f) : PVss X S W sts (sFrz i f) :=
  PSs.weak h fun D σ H ⟨ρ, ι, μ, he, hs, hq⟩ => by
    unfold sFrz frz1 at hq
    split at hq
    · rename_i n hi
      obtain ⟨v, hv, rv⟩ := he.2 i _ hi
      split at hq
      · rename_i ts hm
        obtain ⟨a, rfl, ha, vs, hH, rr⟩ := hs.at hm rv
        exact ⟨_, ι.drop n, _, (he.fut Fut.drop).put hv (.lst ⟨drop_out hs ha, .inl hH⟩ (rr.fut Fut.drop)), hs.drop hm (fun k z => by cases z), PstS.later Fut.drop hq⟩
      · rename_i ks ts hm
        obtain ⟨a, rfl, ha, vs, hl, hH, rr⟩ := hs.at hm rv
        exact ⟨_, ι.drop n, _, (he.fut Fut.drop).put hv (.dic (drop_out hs ha) (.inl hH) hl (rr.fut Fut.drop)), hs.drop hm (fun k z => by cases z), PstS.later Fut.drop hq⟩
      · exact ⟨ρ, ι, μ, he, hs, hq⟩
    · exact ⟨ρ, ι, μ, he, hs, hq⟩

/-! ### min, max of data -/
mutual
def unpd : PyData → T
  | .none => .non
  | .bool b => .bl b
  | .int i => .int i
  | .str x => .str x
  | .tuple ds => .tup (unpds ds)
  | .list ds => .lst (unpds ds)
  | .dict _ => .non
def unpds : List PyData → List T
  | [] => []
  | d :: ds => unpd d :: unpds ds
end
mutual
theorem unpd_pd : ∀ (t : T) (d : PyData), pd t = some d → unpd d = t
  | .non, _, e => by simp only [pd] at e; cases e; simp only [unpd]
  | .bl _, _, e => by simp only [pd] at e; cases e; simp only [unpd]
  | .int _, _, e => by simp only [pd] at e; cases e; simp only [unpd]
  | .str _, _, e => by simp only [pd] at e; cases e; simp only [unpd]
  | .tup ts, _, e => by
    simp only [pd, Option.map_eq_some_iff] at e
    obtain ⟨ds, e, rfl⟩ := e
    simp only [unpd, unpds_pds ts ds e]
  | .lst ts, _, e => by
    simp only [pd, Option.map_eq_some_iff] at e
    obtain ⟨ds, e, rfl⟩ := e
    simp only [unpd, unpds_pds ts ds e]
  | .ty _, _, e => by simp only [pd] at e; cases e
  | .cls _, _, e => by simp only [pd] at e; cases e
  | .fn _, _, e => by simp only [pd] at e; cases e
  | .dic _ _, _, e => by simp only [pd] at e; cases e
  | .ins _ _, _, e => by simp only [pd] at e; cases e
  | .obj _, _, e => by simp only [pd] at e; cases e
  | .scr _, _, e => by simp only [pd] at e; cases e
theorem unpds_pds : ∀ (ts : List T) (ds : List PyData), pds ts = some ds → unpds ds = ts
  | [], _, e => by simp only [pds] at e; cases e; simp only [unpds]
  | t :: ts, _, e => by
    simp only [pds] at e
    split at e
    · rename_i d ds e1 e2
      cases e
      simp only [unpds, unpd_pd t d e1, unpds_pds ts ds e2]
    · cases e
end
theorem pds_at : ∀ (ts : List T) (ds : List PyData), pds ts = some ds → ∀ (i : Nat) (t : T), ts[i]? = some t → ∃ d, ds[i]? = some d ∧ pd t = some d
  | [], _, _, _, _, e => by simp at e
  | u :: ts, _, h, i, t, e => by
    simp only [pds] at h
    split at h
    · rename_i d ds e1 e2
      cases h
      cases i with
      | zero => simp at e; subst e; exact ⟨d, rfl, e1⟩
      | succ i =>
        obtain ⟨d', h1, h2⟩ := pds_at ts ds e2 i t (by simpa using e)
        exact ⟨d', by simpa using h1, h2⟩
    · cases h
def alikeB (ds : List PyData) : Bool := ds.all fun x => notN x && ds.all fun y => PySem.W.alike x y
theorem alikeB_of {ds : List PyData} (h : alikeB ds = true) : PySem.W.AlikeAll ds := by
  unfold alikeB at h
  rw [List.all_eq_true] at h
  refine ⟨fun x hx y hy => ?_, fun x hx z => ?_⟩
  · have := h x hx
    rw [Bool.and_eq_true, List.all_eq_true] at this
    exact this.2 y hy
  · have := h x hx
    rw [Bool.and_eq_true, z] at this
    exact absurd this.1 (by decide)
/-- the least, the greatest of data -/
def mmD (f : PyData → List PyData → PyData) (t : T) : M T := fun μ => match (seqOf t μ).bind pds with
  | some (d :: ds) => if alikeB (d :: ds) && decide (PyData.depthAll (d :: ds) ≤ 60) then .ok (unpd (f d ds)) μ else .bad
  | _ => .bad
def rMMD (K : PySem.W.Frag) (f : PyData → List PyData → PyData) : List V → Hp → VK → Prop := fun vs H Q => ∃ (a : Addr) (xs : List V) (d : PyData) (ds : List PyData), vs = [V.ref a] ∧ (SqT K H a xs ∨ SqL K H a xs) ∧ DpAll K H xs (d :: ds) ∧ PySem.W.AlikeAll (d :: ds) ∧ PyData.depthAll (d :: ds) ≤ 60 ∧
  ∀ (i : Nat) (v : V), xs[i]? = some v → (d :: ds)[i]? = some (f d ds) → Q v H
theorem each_mem {α : Type} {l : List α} {i : Nat} {a : α} (h : l[i]? = some a) : a ∈ l := List.mem_iff_getElem?.mpr ⟨i, h⟩
theorem minD_mem (d : PyData) : ∀ ds : List PyData, PySem.W.minD d ds ∈ d :: ds := by
  intro ds
  have : ∀ (ds : List PyData) (a : PyData) (L : List PyData), a ∈ L → (∀ x ∈ ds, x ∈ L) → ds.foldl (fun a y => if PySem.W.dataLt y a then y else a) a ∈ L := by
    intro ds
    induction ds with
    | nil => intro a L h _; exact h
    | cons x ds ih =>
      intro a L h hx
      rw [List.foldl_cons]
      refine ih _ L ?_ fun y hy => hx y (List.mem_cons_of_mem _ hy)
      split
      · exact hx x List.mem_cons_self
      · exact h
  exact this ds d _ List.mem_cons_self fun x hx => List.mem_cons_of_mem _ hx
section
variable {X : Cx}
theorem vals_at {xs : List V} {us : List Value} (r : Vals xs us) {i : Nat} {u : Value} (h : us[i]? = some u) : ∃ x, xs[i]? = some x ∧ RelV x u := by
  induction r generalizing i with
  | nil => simp at h
  | cons a b ih =>
    cases i with
    | zero => simp at h; subst h; exact ⟨_, rfl, a⟩
    | succ i => obtain ⟨x, h1, h2⟩ := ih (i := i) (by simpa using h); exact ⟨x, by simpa using h1, h2⟩
theorem reads_at {h : Heap} : ∀ {us : List Value} {ds : List PyData} {as : List Addr}, ReadsAll h us ds as → ∀ {i : Nat} {u : Value}, us[i]? = some u → ∃ d bs, ds[i]? = some d ∧ Reads h u d bs
  | _, _, _, .nil, i, u, e => by simp at e
  | _, _, _, .cons r rs, i, u, e => by
    cases i with
    | zero => simp at e; subst e; exact ⟨_, _, rfl, r⟩
    | succ i => obtain ⟨d, bs, h1, h2⟩ := reads_at rs (i := i) (by simpa using e); exact ⟨d, bs, by simpa using h1, h2⟩
theorem cr_mnD (hc : X.calm = true) (hu : X.A.units + 64 < cLine) : CallR X (.builtin "min") (rMMD X.K PySem.W.minD) := by
  intro pins s σ H vs us Q I r h
  obtain ⟨a, xs, d, ds, rfl, hs, hd, hal, hdep, q⟩ := h
  rw [Vals.ref1 r]
  have fin : ∀ (its : List Value), Vals xs its → (∃ as, ReadsAll s.heap its (d :: ds) as) → ∀ (i : Nat) (v : Value) (h' : Heap) (tk : Nat) (bs : List Addr), its[i]? = some v → Reads h' v (PySem.W.minD d ds) bs → (∀ b o, s.heap.get? b = some o → h'.get? b = some o) → EP X pins σ Q v { s with heap := h', toks := tk } := by
    intro its rv ⟨as, hr⟩ i v h' tk bs ei rd hk
    obtain ⟨x, hx, rx⟩ := vals_at rv ei
    obtain ⟨d', bs', hd', rd'⟩ := reads_at hr ei
    have h1 : d' ∈ d :: ds := each_mem hd'
    have h2 := minD_mem d ds
    have e2 := PySem.W.alike_unique d' (PySem.W.minD d ds) v bs' bs (hal.1 _ h1 _ h2) (PySem.W.reads_keeps hk rd') rd
    exact ⟨x, H, I.kept hk, rx, q i x hx (by rw [hd', e2])⟩
  rcases hs with hs | hs
  · obtain ⟨its, rv, hl, hz⟩ := I.tuple hs
    obtain ⟨as, hr⟩ := Dp.readsAll I _ _ its hd rv
    exact PySem.W.min_tuple_data (x := d) (xs := ds) (I.ok.hd hc) hl (by simpa using hr) hal (by omega) fun i v h' tk bs ei rd hk => fin its rv ⟨as, hr⟩ i v h' tk bs (by simpa using ei) rd hk
  · obtain ⟨its, rv, hl, hz⟩ := I.list hs
    obtain ⟨as, hr⟩ := Dp.readsAll I _ _ its hd rv
    exact PySem.W.min_list_data (x := d) (xs := ds) (I.ok.hd hc) hl.isList (by simpa using hr) hal (by omega) fun i v h' tk bs ei rd hk => fin its rv ⟨as, hr⟩ i v h' tk bs (by simpa using ei) rd hk
end
end Tw

/-! TwB: min of data, products, reversed slices, stepped ranges, calls without arguments -/
namespace Tw
open PySem PySem.Spec PyProof.Rows L2
section
variable {S : Sta} {X : Cx} {W : WX}
def mmL (f : PyData → List PyData → PyData) (ts : List T) : M T := match ts with
  | [t] => mmD f t
  | _ => bad
theorem callT_mmD (f : PyData → List PyData → PyData) (hf : ∀ d ds, f d ds ∈ d :: ds) : CallT S (mmL f) (rMMD S.K f) := by
  intro W σ H ι μ xs ts Q hs r h
  unfold mmL at h
  split at h
  · rename_i t
    obtain ⟨x, rfl, rx⟩ := reps1 r
    unfold mmD at h
    split at h
    · rename_i d ds e
      split at h
      · rename_i hc
        rw [Bool.and_eq_true, decide_eq_true_eq] at hc
        obtain ⟨us, e1, e2⟩ := Option.bind_eq_some_iff.mp e
        obtain ⟨a, vs, rfl, q, rs⟩ := seq_read e1 hs rx
        refine ⟨a, vs, d, ds, rfl, q, pds_dp e2 rs, alikeB_of hc.1, hc.2, fun i v hv hd => ?_⟩
        obtain ⟨u, hu, ru⟩ := rs.get' hv
        obtain ⟨d', h1, h2⟩ := pds_at us (d :: ds) e2 i u hu
        rw [hd] at h1
        cases h1
        rw [unpd_pd u _ h2] at h
        exact Pst.now h hs ru
      · exact h.elim
    · exact h.elim
  · exact h.elim
def bMin (ts : List T) : M T := fun μ => match bMin0 ts μ with
  | .bad => mmL PySem.W.minD ts μ
  | r => r
theorem callT_mn : CallT S bMin (fun xs H Q => (rMM2 mn2 xs H Q ∨ rMM S.K mnI xs H Q) ∨ rMMD S.K PySem.W.minD xs H Q) := by
  intro W σ H ι μ xs ts Q hs r h
  unfold bMin at h
  split at h
  · exact .inr (callT_mmD PySem.W.minD minD_mem W σ H ι μ xs ts Q hs r h)
  · exact .inl (callT_mm mn2 mnI W σ H ι μ xs ts Q hs r h)

/-! ### a tuple, some times; a written list, some times -/
theorem tuple_once (l : Addr) (its : Array Value) (n : Nat) (dd : Option Addr) (sl : Array (Option Value)) (u : Tok) :
    Meets (Builtin.«tuple.__mul__» ⟨[.ref l, .int 1 u], []⟩) (fun _ R s => s.heap.get? l = some { cls := .type "tuple", dict := dd, data := .seq its n, slots := sl } ∧ R (.ok (.ret (Value.ref l))) s) :=
  .of_wp fun prog w A R s h => by
    obtain ⟨hp, g, d, tk, os⟩ := s
    obtain ⟨hl, h⟩ := h
    have f1 := AutoSeq1.idx_int
    wp_walk using wpAny_loadPart' hl
    have d0 : (decide ((1 : Int) < -(2 ^ 63)) || decide ((1 : Int) ≥ 2 ^ 63)) = false := by decide
    have d1 : (its.isEmpty || (1 : Int) == 1) = true := by simp
    repeat (first
      | (refine wpAny_ite_false (decide_eq_false (by rw [d0]; exact Bool.false_ne_true)) ?_; wp_walk using wpAny_loadPart' hl)
      | (refine wpAny_ite_true (decide_eq_true (by rw [d1])) ?_; wp_walk using wpAny_loadPart' hl))
    exact ⟨_, rfl, h⟩
def rOnceT (K : PySem.W.Frag) : R2 := fun x y H Q => ∃ l xs, x = .ref l ∧ y = .int 1 ∧ SqT K H l xs ∧ Q (.ref l) H
theorem op_onceT : OpR X (binaryOp .Mult) (rOnceT X.K) := by
  intro pins s σ H x y v u Q I rx ry h
  obtain ⟨l, xs, rfl, rfl, hT, q⟩ := h
  cases rx
  obtain ⟨t, rfl⟩ := ry
  obtain ⟨its, r, ⟨⟨cls, dd, data, sl⟩, ho, hc, n, hd⟩, hs⟩ := I.tuple hT
  simp only at hc hd
  subst hc hd
  refine wpAny_binaryOp_repeat_ref (T := "tuple") (U := "int") (by decide) ⟨_, ho, rfl⟩ (fun s' => typeIs_int s' 1 t) noFill_tuple_mul F.fills_int_mul F.slot_int_rmul repeat_tuple F.slot_int_index.lookup
    (call_meets F.slot_int_rmul (typeIs_int s 1 t) F.entry_int_rmul (F.args_int_rmul_2 _ _) (int_rmul_tuple 1 t l its.toArray n dd sl) ⟨ho, rfl, ⟨_, ho, rfl⟩, ?_⟩)
  exact call_meets F.slot_tuple_mul ⟨_, ho, rfl⟩ F.entry_tuple_mul (F.args_tuple_mul_2 _ _) (tuple_once l its.toArray n dd sl t) ⟨ho, ⟨.ref l, H, I, rfl, q⟩⟩
def gMulI (x y : T) : M T := match x, y with
  | .int i, .int j => if cMulB i j then ret (.int (i * j)) else bad
  | .tup ts, .int k => if k = 1 then ret (.tup ts) else if !ts.isEmpty && decide (2 ≤ k) && decide (k ≤ 1000) && decide (ts.length ≤ 1000) then ret (.tup (List.replicate k.toNat ts).flatten) else bad
  | _, _ => bad
def rMulA (K : PySem.W.Frag) : R2 := fun x y H Q => rI CMul (fun i j => .int (i * j)) x y H Q ∨ rOnceT K x y H Q ∨ rRepT K x y H Q
theorem op_mulA : OpR X (binaryOp .Mult) (rMulA X.K) := op_mul.or (op_onceT.or op_repT)
theorem opT_mul : OpT S gMulI (rMulA S.K) := by
  intro W σ H ι μ x y tx ty Q hs rx ry h
  unfold gMulI at h
  split at h
  · cases rx; cases ry
    split at h
    · rename_i hc
      unfold cMulB at hc
      rw [Bool.or_eq_true, Bool.and_eq_true, Bool.and_eq_true, decide_eq_true_eq, decide_eq_true_eq, decide_eq_true_eq, decide_eq_true_eq] at hc
      exact .inl ⟨_, _, rfl, rfl, hc, Pst.now h hs (.int _)⟩
    · exact h.elim
  · cases rx with
    | tup hx q =>
      cases ry
      split at h
      · rename_i hk
        subst hk
        exact .inr (.inl ⟨_, _, rfl, rfl, hx.sq, Pst.now h hs (.tup hx q)⟩)
      · split at h
        · rename_i hc
          rw [Bool.and_eq_true, Bool.and_eq_true, Bool.and_eq_true, Bool.not_eq_true', decide_eq_true_eq, decide_eq_true_eq, decide_eq_true_eq] at hc
          obtain ⟨⟨⟨h0, h1⟩, h2⟩, h3⟩ := hc
          refine .inr (.inr ⟨_, _, _, rfl, rfl, hx.sq, fun e => ?_, h1, h2, by rw [q.length]; exact h3, fun p hp => Pst.new h hs hp (Rep.newT hs hp (q.rep _))⟩)
          rw [isEmpty_reps q, e] at h0
          cases h0
        · exact h.elim
  · exact h.elim
/-- [..] * k -/
def mRepL (new : Bool) (ts : List T) (y : T) : M T := match y with
  | .int k => if decide (-1000000 ≤ k) && decide (k ≤ 1000000) && decide (ts.length * k.toNat ≤ lim) && decide (ts.length ≤ lim) then (if new then (fun μ => .ok (.obj μ.length) (μ ++ [some (.lst (List.replicate k.toNat ts).flatten)])) else ret (.lst (List.replicate k.toNat ts).flatten)) else bad
  | _ => bad
def cRepL (new : Bool) (a : Tw.Env → M (List T)) (b : Tw.Env → M T) : Tw.Env → M T := fun ρ => bnd (a ρ) fun ts => if ts.length ≤ lim then bnd (b ρ) fun y => mRepL new ts y else bad
theorem pv_repL {new : Bool} {es : List Expr} {b : Expr} {fa : Tw.Env → M (List T)} {fb : Tw.Env → M T} {pos p2 : Pos} (ha : PVa X S W es fa) (hb : PV X S W b fb) : PV X S W (.BinOp (.List es p2) .Mult b pos) (cRepL new fa fb) :=
  PE.weak (pe_op op_rep (pe_lst ha) hb) fun σ H Q ⟨ρ, ι, μ, he, hs, h⟩ => av_then he hs h fun vs H1 ι1 μ1 ts he1 hs1 f1 r1 h1 => by
    split at h1
    · rename_i hl
      refine ⟨by rw [r1.length, lim_eq]; exact hl, fun p hp => ?_⟩
      have f2 : Fut H1 ι1 (upd H1 p (.lst vs)) ι1 := Fut.new hs1.tk hp
      have hs2 : StRep S (upd H1 p (.lst vs)) ι1 μ1 := hs1.new hp
      have np : ¬ InI ι1 p := hs1.fresh hp
      refine ev_then (k := fun y => mRepL new ts y) (he1.fut f2) hs2 (Pst.later f2 h1) fun y H3 ι3 μ3 ty he3 hs3 f3 r3 h3 => ?_
      unfold mRepL at h3
      split at h3
      · cases r3
        split at h3
        · rename_i k hc
          rw [Bool.and_eq_true, Bool.and_eq_true, Bool.and_eq_true, decide_eq_true_eq, decide_eq_true_eq, decide_eq_true_eq, decide_eq_true_eq] at hc
          have hk := f3.keep p _ (upd_same (H := H1) (a := p) (o := .lst vs)) np
          have rr := (r1.fut f2).fut f3
          refine ⟨p, k, vs, rfl, rfl, hk.1, by omega, by omega, by rw [r1.length, lim_eq]; exact hc.1.2, fun q hq => ?_⟩
          cases new with
          | true => exact Pst.newM (a := .non) (b := .non) h3 hs3 hq ⟨_, upd_same, (rr.rep _).fut (Fut.newM hs3.tk hq)⟩
          | false => exact Pst.new h3 hs3 hq (Rep.newL hs3 hq (rr.rep _))
        · exact h3.elim
      · exact h3.elim
    · exact h1.elim
/-! ### xs[::-1] -/
def mRev (x : T) : M T := fun μ => match lstOf x μ with
  | some ts => .ok (.lst ts.reverse) μ
  | none => .bad
theorem Reps.rev {H : Hp} {ι : Ids} : ∀ {vs : List V} {ts : List T}, Reps S H ι vs ts → Reps S H ι vs.reverse ts.reverse
  | _, _, .nil => .nil
  | _, _, .cons h r => by
    rw [List.reverse_cons, List.reverse_cons]
    exact r.rev.snoc h
theorem pv_rev {e : Expr} {fe : Tw.Env → M T} {k : Nat} {p1 p2 p3 pos : Pos} (he : PV X S W e fe) : PV X S W (.Subscript e (.Slice none none (some (.UnaryOp .USub (.Constant (.int 1) k p1) p2)) p3) pos) (c1 mRev fe) :=
  PE.weak (pe_revL he) fun σ H Q ⟨ρ, ι, μ, he, hs, h⟩ => ev_then he hs h fun x H1 ι1 μ1 t he1 hs1 f1 r1 h1 => by
    unfold mRev at h1
    split at h1
    · rename_i ts e
      obtain ⟨a, vs, rfl, hx, rs⟩ := lst_read e hs1 r1
      exact ⟨a, vs, rfl, .inl hx, fun p hp => Pst.new h1 hs1 hp (Rep.newL hs1 hp rs.rev)⟩
    · exact h1.elim
/-! ### range(a, b, c) -/
def rgN (i j c : Int) : Nat := (Builtin.Range.rangeSize i j c).toNat
def rg3T (i j c : Int) : List T := (List.range (rgN i j c)).map fun k => T.int (i + (k : Nat) * c)
def rg3B (i j c : Int) : Bool := decide (c ≠ 0) && decide (c.natAbs < 1073741824) && Builtin.Range.small i j c && decide (0 ≤ Builtin.Range.rangeSize i j c)
def mRg3 (ts : List T) : M (List T) := match ts with
  | [.int i, .int j, .int c] => if rg3B i j c then ret (rg3T i j c) else bad
  | _ => bad
def iRg3 (a : Tw.Env → M (List T)) : Tw.Env → M (List T) := fun ρ => bnd (a ρ) mRg3
theorem wlk_range3 {i c : Int} {n : Nat} {H : Hp} {ι : Ids} : Wlk S (Itc i c n) ((List.range n).map fun k => T.int (i + (k : Nat) * c)) H ι := fun Hc ιc μc f s => by
  refine ⟨fun k t e => ?_, by simp [Itc]⟩
  rw [List.getElem?_map] at e
  obtain ⟨k', e1, rfl⟩ := Option.map_eq_some_iff.mp e
  have hk : k < n := by
    have := (List.getElem?_eq_some_iff.mp e1).1
    simpa using this
  rw [List.getElem?_range hk] at e1
  cases e1
  exact ⟨hk, fun x H2 ⟨e1, e2⟩ => by
    subst e1; subst e2
    exact ⟨fun _ _ z => z, .int _⟩⟩
theorem pvi_range3 {tg a b c : Expr} {fa : Tw.Env → M (List T)} {p pos : Pos} (hg : Gl X "range") (hm : X.mg "range" = none) (ha : PVa X S W [a, b, c] fa) (hst : starEach [a, b, c] X.env = (false, eval a X.env) :: starEach [b, c] X.env) (hpl : (backTo pos (starEach [b, c] X.env)).any (·.1) = false) :
    PVi X S W tg (.Call (.Name "range" p) [a, b, c] [] pos) (iRg3 fa) :=
  PI.weak (pi_range3 hg hm ha hst hpl) fun σ H R ⟨ρ, ι, μ, he, hs, h⟩ => av_then he hs h fun vs H1 ι1 μ1 ts he1 hs1 f1 r1 h1 => by
    unfold mRg3 at h1
    split at h1
    · obtain ⟨x, y, z, rfl, rx, ry, rz⟩ := reps3 r1
      cases rx; cases ry; cases rz
      rename_i i j c
      split at h1
      · rename_i hc
        unfold rg3B at hc
        rw [Bool.and_eq_true, Bool.and_eq_true, Bool.and_eq_true, decide_eq_true_eq, decide_eq_true_eq, decide_eq_true_eq] at hc
        exact ⟨i, j, c, rgN i j c, rfl, ⟨hc.1.1.1, hc.1.1.2, hc.1.2, by unfold rgN; omega⟩, h1 _ H1 ι1 (Fut.refl _ _) hs1 wlk_range3⟩
      · exact h1.elim
    · exact h1.elim
/-! ### list(x), changed later on -/
def bListN (ts : List T) : M T := fun μ => match ts with
  | [t] => match seqOf t μ with
    | some us => .ok (.obj μ.length) (μ ++ [some (.lst us)])
    | none => .bad
  | _ => .bad
theorem callT_listN : CallT S bListN (fun xs H Q => ∃ p ys, xs = [.ref p] ∧ (SqL S.K H p ys ∨ SqT S.K H p ys) ∧ ∀ l, H l = none → Q (.ref l) (upd H l (.lst ys))) := by
  intro W σ H ι μ xs ts Q hs r h
  unfold bListN at h
  split at h
  · obtain ⟨x, rfl, rx⟩ := reps1 r
    split at h
    · rename_i e
      obtain ⟨a, vs, rfl, q, rs⟩ := seq_read e hs rx
      exact ⟨a, vs, rfl, q.symm, fun l hl => Pst.newM (a := .non) (b := .non) h hs hl ⟨_, upd_same, rs.fut (Fut.newM hs.tk hl)⟩⟩
    · exact h.elim
  · exact h.elim
/-! ### f() -/
def cCall0 (g : List T → M T) : Tw.Env → M T := fun _ => noX (g [])
theorem pv_call0 {k : Nat} {f : Addr} {fd : FuncData} {g : List T → M T} {x : Str} {p pos : Pos} (F : FnOk X.prog X.w X.K X.mg X.base (L2.CX X.prog X.w) k f fd [] (spT S 0 g)) (hr : Room k X.A) (hg : Gl X x) (hm : X.mg x = some (.ref f)) (hk : PySem.W.keepIn X.K (.ref f) = true) (hb : Binds X.K fd [] [])
    (hdb : (x == ("__debug__" : Str)) = false) : PV X S W (.Call (.Name x p) [] [] pos) (cCall0 g) :=
  PE.weak (pe_call0 (E := fun _ _ _ => False) F hr hg hm hk hb .nil (fun _ _ _ _ _ _ _ z => (no_CX z).elim) hdb) fun σ H Q ⟨ρ, ι, μ, he, hs, h⟩ => by
    refine ⟨rfl, [], ι, μ, .nil, hs, ?_⟩
    unfold cCall0 noX at h
    cases e : g [] μ with
    | ok t μ' => rw [e] at h; exact h
    | ex x μ' => rw [e] at h; exact h.elim
    | bad => rw [e] at h; exact h.elim
end
end Tw

/-! Tw9: the translator of expressions, and that it is right -/
namespace Tw
open PySem L2

inductive Gl0 where
  | fn (i n : Nat) | kon (t : T) | blt
structure Ct where
  N : List Str
  sc : Scope
  fv : Str → Bool
  G : Str → Option Gl0
  chg : List Str
  frz : List (Nat × Nat)
  Cs : List CE
def idx (N : List Str) (x : Str) : Option Nat := N.findIdx? fun y => y == x
theorem idx_some {N : List Str} {x : Str} {i : Nat} (h : idx N x = some i) : N[i]? = some x := by
  unfold idx at h
  rw [List.findIdx?_eq_some_iff_getElem] at h
  obtain ⟨h1, h2, _⟩ := h
  rw [List.getElem?_eq_getElem h1]
  exact congrArg some (beq_iff_eq.mp h2)
def okN (x : Str) : Bool := !(x == ("__debug__" : Str)) && !(x == ("__classdict__" : Str))
/-- what the context knows of a name that it stores or reads -/
def isVis (sc : Scope) (x : Str) : Bool := match sc.names.lookup x with
  | some .local => true
  | some .cell => true
  | some .free => true
  | _ => false
def isLoc (c : Ct) (x : Str) : Bool := match c.sc.names.lookup x with
  | some .local => true
  | some .cell => c.fv x
  | _ => false
def isGl (sc : Scope) (x : Str) : Bool := match sc.names.lookup x with
  | some .globalImplicit => true
  | _ => false
theorem isVis_of {sc : Scope} {x : Str} (h : isVis sc x = true) : Vis sc x := by
  unfold isVis at h
  split at h
  · rename_i e; exact .inl e
  · rename_i e; exact .inr (.inl e)
  · rename_i e; exact .inr (.inr e)
  · cases h
theorem isGl_of {sc : Scope} {x : Str} (h : isGl sc x = true) : sc.names.lookup x = some .globalImplicit := by
  unfold isGl at h
  split at h
  · rename_i e; exact e
  · cases h
def GOk (S : Sta) (Φ : Nat → List T → M T) (k : Nat) (X : Cx) (x : Str) : Gl0 → Prop
  | .fn i n => ∃ f fd ps, S.fa i = some f ∧ X.mg x = some (.ref f) ∧ PySem.W.keepIn X.K (.ref f) = true ∧ FnOk X.prog X.w X.K X.mg X.base (L2.CX X.prog X.w) k f fd ps (spT S n (Φ i)) ∧ Binds X.K fd ps [] ∧ n = ps.length
  | .kon t => ∃ u v, X.mg x = some u ∧ RelV v u ∧ ∀ H ι, Rep S H ι v t
  | .blt => X.mg x = none
structure Cm (S : Sta) (Φ : Nat → List T → M T) (k : Nat) (c : Ct) (X : Cx) (W : WX) : Prop where
  hK : X.K = S.K
  hN : X.N = c.N
  nd : c.N.Nodup
  sc : X.env.scope = c.sc
  kd : c.sc.kind = .function
  calm : X.calm = true
  fn : ∀ x, c.fv x = true → X.fn x = true
  tk : Takes X W
  pass : PassesOwn (model X.prog X.w) X.A X.env X.xe
  room : Room (k + 1) X.A
  cls : CsOk S Φ k X c.Cs
  gl : ∀ x g, c.G x = some g → GOk S Φ k X x g
section
variable {S : Sta} {Φ : Nat → List T → M T} {k : Nat} {c : Ct} {X : Cx} {W : WX}
theorem Cm.nodup (h : Cm S Φ k c X W) : X.N.Nodup := by rw [h.hN]; exact h.nd
theorem Cm.ix (h : Cm S Φ k c X W) {x : Str} {i : Nat} (e : idx c.N x = some i) : X.N[i]? = some x := by rw [h.hN]; exact idx_some e
theorem Cm.vis (h : Cm S Φ k c X W) {x : Str} (e : isVis c.sc x = true) : Vis X.env.scope x := by rw [h.sc]; exact isVis_of e
theorem Cm.glob (h : Cm S Φ k c X W) {x : Str} (e : isGl c.sc x = true) : Gl X x := by
  show X.env.scope.names.lookup x = _
  rw [h.sc]
  exact isGl_of e
theorem Cm.loc (h : Cm S Φ k c X W) {x : Str} (e : isLoc c x = true) : Loc X.env.scope x ∧ (X.fn x = true ∨ X.env.scope.names.lookup x = some .local) := by
  unfold isLoc at e
  unfold L2.Loc
  rw [h.sc]
  split at e
  · rename_i q; exact ⟨.inl q, .inr q⟩
  · rename_i q; exact ⟨.inr q, .inl (h.fn x e)⟩
  · cases e
theorem okN_of {x : Str} (h : okN x = true) : (x == ("__debug__" : Str)) = false ∧ (x == ("__classdict__" : Str)) = false := by
  unfold okN at h
  rw [Bool.and_eq_true, Bool.not_eq_true', Bool.not_eq_true'] at h
  exact h
end

/-! ### names -/
def tyTab : List (Str × String) := [("int", "int"), ("bool", "bool"), ("tuple", "tuple"), ("str", "str"), ("list", "list")]
theorem tyTab_ok : ∀ p ∈ tyTab, bootBuiltins p.1 = some (.type p.2) ∧ p.1 ≠ "__name__" ∧ (p.1 == ("__debug__" : Str)) = false := by decide +kernel
def trName (c : Ct) (x : Str) : Option (Env → M T) :=
  if isVis c.sc x && okN x then (idx c.N x).map cVar
  else if isGl c.sc x && okN x then match c.G x with
    | some (.kon t) => some (cK t)
    | some .blt => (tyTab.lookup x).map fun n => cK (.ty n)
    | _ => none
  else none
theorem lookup_mem {α β : Type} [BEq α] [LawfulBEq α] {l : List (α × β)} {a : α} {b : β} (h : l.lookup a = some b) : (a, b) ∈ l := by
  induction l with
  | nil => cases h
  | cons p l ih =>
    obtain ⟨a', b'⟩ := p
    unfold List.lookup at h
    split at h
    · rename_i e
      cases h
      rw [beq_iff_eq.mp e]
      exact List.mem_cons_self
    · exact List.mem_cons_of_mem _ (ih h)
theorem trName_ok {S : Sta} {Φ : Nat → List T → M T} {k : Nat} {c : Ct} {X : Cx} {W : WX} {x : Str} {p : Pos} {f : Env → M T} (h : Cm S Φ k c X W) (e : trName c x = some f) : PV X S W (.Name x p) f := by
  unfold trName at e
  split at e
  · rename_i hv
    rw [Bool.and_eq_true] at hv
    obtain ⟨i, e1, rfl⟩ := Option.map_eq_some_iff.mp e
    exact pv_var (h.ix e1) (h.vis hv.1) (okN_of hv.2).1 (okN_of hv.2).2
  · split at e
    · rename_i _ hg
      rw [Bool.and_eq_true] at hg
      split at e
      · rename_i t eG
        cases e
        obtain ⟨u, v, h1, h2, h3⟩ := h.gl x _ eG
        exact pv_con (pe_glob (h.glob hg.1) h1 h2 (okN_of hg.2).1) h3
      · rename_i eG
        obtain ⟨n, e1, rfl⟩ := Option.map_eq_some_iff.mp e
        obtain ⟨h1, h2, h3⟩ := tyTab_ok (x, n) (lookup_mem e1)
        exact pv_con (pe_bltn (v := .ty n) (h.glob hg.1) (h.gl x _ eG) h1 rfl h2 h3) fun _ _ => .ty n
      · cases e
    · cases e

/-! ### operators by name -/
def gOp : Operator → Option (T → T → M T)
  | .Add => some gAdd
  | .Sub => some gSub
  | .Mult => some gMulI
  | .FloorDiv => some gFdiv
  | .Mod => some gMod
  | .Pow => some gPow
  | _ => none
theorem gOp_ok {X : Cx} {S : Sta} {op : Operator} {g : T → T → M T} (hK : X.K = S.K) (e : gOp op = some g) : ∃ r, OpR X (binaryOp op) r ∧ OpT S g r := by
  cases op <;> first | (cases e; done) | skip
  · cases e; exact ⟨_, op_addAll, by rw [hK]; exact opT_add⟩
  · cases e; exact ⟨_, op_sub, opT_sub⟩
  · cases e; exact ⟨_, op_mulA, by rw [hK]; exact opT_mul⟩
  · cases e; exact ⟨_, op_mod, opT_mod⟩
  · cases e; exact ⟨_, op_pow, opT_pow⟩
  · cases e; exact ⟨_, op_fdiv, opT_fdiv⟩
def cOp : CmpOp → Option (T → T → M T)
  | .Eq => some (gEqD false)
  | .NotEq => some (gEqD true)
  | .Lt => some gLt
  | .LtE => some gLe
  | .Gt => some gGt
  | .GtE => some gGe
  | .Is => some gIs
  | .IsNot => some gIsNot
  | .In => some (gIn false)
  | .NotIn => some (gIn true)
theorem cOp_ok {X : Cx} {S : Sta} {k : Nat} {op : CmpOp} {g : T → T → M T} (hK : X.K = S.K) (hr : Room k X.A) (e : cOp op = some g) : ∃ r, OpR X (compareOp op) r ∧ OpT S g r := by
  cases op <;> cases e
  · exact ⟨_, op_eqD hr.units, by rw [hK]; exact opT_eq⟩
  · exact ⟨_, op_neD hr.units, by rw [hK]; exact opT_ne⟩
  · exact ⟨_, op_lt.or (op_ltD hr.units), by rw [hK]; exact opT_cmpA⟩
  · exact ⟨_, op_le.or (op_leD hr.units), by rw [hK]; exact opT_cmpA⟩
  · exact ⟨_, op_gt.or (op_gtD hr.units), by rw [hK]; exact opT_cmpA⟩
  · exact ⟨_, op_ge.or (op_geD hr.units), by rw [hK]; exact opT_cmpA⟩
  · exact ⟨_, op_isN, opT_is⟩
  · exact ⟨_, op_notN, opT_isNot⟩
  · exact ⟨_, op_in_seq.or ((op_dIn (by have := hr.units; omega)).or (op_inDn (by have := hr.un; omega))), by rw [hK]; exact opT_in false⟩
  · exact ⟨_, op_notIn_seq.or ((op_dNotIn (by have := hr.units; omega)).or (op_notInDn (by have := hr.un; omega))), by rw [hK]; exact opT_in true⟩

/-! ### built-ins by name -/
inductive BK where
  | fn (id : String) | ty (n : String)
def bTab (Cs : List CE) (Φ : Nat → List T → M T) : List (Str × BK × (List T → M T)) := [("len", .fn "len", bLenO Cs Φ), ("list", .ty "list", bListD), ("tuple", .ty "tuple", bTuple), ("int", .ty "int", bInt), ("isinstance", .fn "isinstance", bIsi), ("all", .fn "all", bAll), ("any", .fn "any", bAny), ("sum", .fn "sum", bSum), ("sorted", .fn "sorted", bSorted), ("max", .fn "max", bMax), ("min", .fn "min", bMin)]
def BOk (X : Cx) (S : Sta) (x : Str) (b : BK) (g : List T → M T) : Prop := x ≠ "__name__" ∧ (x == ("__debug__" : Str)) = false ∧ match b with
  | .fn id => bootBuiltins x = some (.builtin id) ∧ ∃ r, CallR X (.builtin id) r ∧ CallT S g r
  | .ty n => bootBuiltins x = some (.type n) ∧ ∃ r, CallR X (.type n) r ∧ CallT S g r
theorem bTab_ok {X : Cx} {S : Sta} {k : Nat} {Cs : List CE} {Φ : Nat → List T → M T} (hK : X.K = S.K) (hc : X.calm = true) (hr : Room (k + 1) X.A) (hC : CsOk S Φ k X Cs) : ∀ p ∈ bTab Cs Φ, BOk X S p.1 p.2.1 p.2.2 := by
  intro p hp
  simp only [bTab, List.mem_cons, List.mem_nil_iff, or_false] at hp
  rcases hp with rfl | rfl | rfl | rfl | rfl | rfl | rfl | rfl | rfl | rfl | rfl
  · exact ⟨by show Str.ofString "len" ≠ _; decide, by show (Str.ofString "len" == _) = false; decide, PySem.boot_len, _, cr_lenO hK hC hr, callT_rT⟩
  · exact ⟨by decide, by decide, PyProof.Rows.boot_list, _, CallR.or2 call_list_of (call_list_dK hc), by rw [hK]; exact callT_listD⟩
  · exact ⟨by decide, by decide, PyProof.Rows.boot_tuple, _, call_tuple_of, by rw [hK]; exact callT_tuple⟩
  · exact ⟨by decide, by decide, PyProof.Rows.boot_int, _, call_int1, callT_int⟩
  · exact ⟨by decide, by decide, by decide +kernel, _, call_isi, by rw [hK]; exact callT_isi⟩
  · exact ⟨by decide, by decide, by decide +kernel, _, cr_all hc, by rw [hK]; exact callT_all⟩
  · exact ⟨by decide, by decide, by decide +kernel, _, cr_any hc, by rw [hK]; exact callT_any⟩
  · exact ⟨by decide, by decide, by decide +kernel, _, cr_sum hc, by rw [hK]; exact callT_sum⟩
  · exact ⟨by decide, by decide, by decide +kernel, _, CallR.or2 (cr_sortT hr.units) (cr_sortI hr.units), by rw [hK]; exact callT_sorted⟩
  · exact ⟨by decide, by decide, by decide +kernel, _, CallR.or2 (call_max2 hc) (cr_mx hc hr.units), by rw [hK]; exact callT_mm mx2 mxI⟩
  · exact ⟨by decide, by decide, by decide +kernel, _, CallR.or2 (CallR.or2 (call_min2 hc) (cr_mn hc hr.units)) (cr_mnD hc hr.units), by rw [hK]; exact callT_mn⟩

/-! ### targets -/
mutual
def trG : Nat → Ct → Expr → Option (List Nat × (T → Env → Option Env))
  | 0, _, _ => none
  | n + 1, c, e => match e with
    | .Name x _ => if isLoc c x then (idx c.N x).map fun i => ([i], gN i) else none
    | .Tuple es _ _ => (trGs n c es).map fun p => (p.1, gTp p.2)
    | _ => none
def trGs : Nat → Ct → List Expr → Option (List Nat × (List T → Env → Option Env))
  | 0, _, _ => none
  | n + 1, c, es => match es with
    | [] => some ([], gsNil)
    | .Starred _ _ :: _ => none
    | e :: es => match trG n c e, trGs n c es with
      | some p, some q => some (p.1 ++ q.1, gsCons p.2 q.2)
      | _, _ => none
end
theorem trGs_len : ∀ (n : Nat) (c : Ct) (es : List Expr) (is : List Nat) (r : List T → Env → Option Env), trGs n c es = some (is, r) → ∀ ts ρ ρ', r ts ρ = some ρ' → ts.length = es.length
  | 0, _, _, _, _, h => by simp only [trGs] at h; cases h
  | n + 1, c, es, is, r, h => by
    intro ts ρ ρ' e
    unfold trGs at h
    split at h
    · cases h
      cases ts with
      | nil => rfl
      | cons _ _ => cases e
    · cases h
    · split at h
      · rename_i p q e1 e2
        cases h
        cases ts with
        | nil => cases e
        | cons t ts =>
          obtain ⟨ρ1, h1, h2⟩ := Option.bind_eq_some_iff.mp e
          rw [List.length_cons, List.length_cons, trGs_len n c _ q.1 q.2 e2 ts ρ1 ρ' h2]
      · cases h
def noStar (es : List Expr) : Bool := es.all fun e => match e with
  | .Starred .. => false
  | _ => true
theorem trGs_star : ∀ (n : Nat) (c : Ct) (es : List Expr) (p : List Nat × (List T → Env → Option Env)) (env : PySem.Env), trGs n c es = some p → (assignEach es env).length = es.length ∧ (assignEach es env).findIdx? (·.1) = none
  | 0, _, _, _, _, h => by simp only [trGs] at h; cases h
  | n + 1, c, es, p, env, h => by
    unfold trGs at h
    split at h
    · exact ⟨rfl, rfl⟩
    · cases h
    · rename_i e es hne
      split at h
      · rename_i p1 q e1 e2
        obtain ⟨h1, h2⟩ := trGs_star n c es q env e2
        have ha : assignEach (e :: es) env = (false, assign e env) :: assignEach es env := by
          cases e <;> first | rfl | exact (hne _ _ rfl).elim
        rw [ha]
        refine ⟨by rw [List.length_cons, List.length_cons, h1], ?_⟩
        rw [List.findIdx?_cons]
        simp [h2]
      · cases h
theorem assign_no {e : Expr} {es : List Expr} {env : PySem.Env} (h : ∀ a b, e ≠ .Starred a b) : (assignEach (e :: es) env).map (·.2) = assign e env :: (assignEach es env).map (·.2) := by
  cases e <;> first | rfl | exact absurd rfl (h _ _)
mutual
theorem trG_ok {S : Sta} {Φ : Nat → List T → M T} {k : Nat} : ∀ (n : Nat) (c : Ct) (e : Expr) (p : List Nat × (T → Env → Option Env)), trG n c e = some p → ∀ (X : Cx) (W : WX), Cm S Φ k c X W → PG X e (tGv S p.1 p.2)
  | 0, _, _, _, h => by simp only [trG] at h; cases h
  | n + 1, c, e, p, h => by
    intro X W hc
    unfold trG at h
    split at h
    · split at h
      · rename_i hl
        obtain ⟨i, e1, rfl⟩ := Option.map_eq_some_iff.mp h
        exact pg_of_name hc.nodup (hc.ix e1) (hc.loc hl).1 (hc.loc hl).2
      · cases h
    · rename_i es kk pos
      obtain ⟨q, e1, rfl⟩ := Option.map_eq_some_iff.mp h
      obtain ⟨h1, h2⟩ := trGs_star n c es q X.env e1
      exact pg_of_tup hc.hK hc.calm (trGs_ok n c es q e1 X W hc) (trGs_len n c es q.1 q.2 e1) h1 h2
    · cases h
theorem trGs_ok {S : Sta} {Φ : Nat → List T → M T} {k : Nat} : ∀ (n : Nat) (c : Ct) (es : List Expr) (p : List Nat × (List T → Env → Option Env)), trGs n c es = some p → ∀ (X : Cx) (W : WX), Cm S Φ k c X W → PGs X es (tGvs S p.1 p.2)
  | 0, _, _, _, h => by simp only [trGs] at h; cases h
  | n + 1, c, es, p, h => by
    intro X W hc
    unfold trGs at h
    split at h
    · cases h; exact pgs_of_nil
    · cases h
    · rename_i e es hne
      split at h
      · rename_i p1 q e1 e2
        cases h
        exact pgs_of_cons (trG_ok n c e p1 e1 X W hc) (trGs_ok n c es q e2 X W hc) (assign_no fun a b z => hne a b z)
      · cases h
end

/-! ### the translator -/
def isStar : Expr → Bool
  | .Starred .. => true
  | _ => false
theorem star_no {e : Expr} {es : List Expr} {env : PySem.Env} (h : isStar e = false) : starEach (e :: es) env = (false, eval e env) :: starEach es env := by
  cases e <;> first | rfl | cases h
theorem star_any {pos : Pos} {env : PySem.Env} : ∀ {es : List Expr}, es.all (fun e => !isStar e) = true → (backTo pos (starEach es env)).any (·.1) = false
  | [], _ => rfl
  | e :: es, h => by
    rw [List.all_cons, Bool.and_eq_true, Bool.not_eq_true'] at h
    rw [star_no h.1]
    show (false || (backTo pos (starEach es env)).any (·.1)) = false
    rw [star_any h.2]
    rfl
def isSlice : Expr → Bool
  | .Slice .. => true
  | _ => false
theorem plainIx_of {b : Expr} (h : isSlice b = false) : PlainIx b := fun o i => by cases b <;> first | rfl | cases h
def isSetE : Expr → Bool
  | .Set .. => true
  | _ => false
theorem noMark {op : CmpOp} {b : Expr} (h : isSetE b = false) : behindInMarks op b = false := by cases b <;> first | rfl | cases h
/-- expressions whose test is their value's truth -/
def plainTest : Expr → Bool
  | .Name .. => true
  | .Call .. => true
  | .Subscript .. => true
  | .Attribute .. => true
  | .Constant .. => true
  | _ => false
theorem plainTest_of {e : Expr} {env : PySem.Env} (h : plainTest e = true) (whole : Sem Value) : isTrue e env whole = (do let v ← whole; standAt e.pos; holding [v] (truthy v)) := by cases e <;> first | rfl | cases h

/-! ### methods of built-ins by name; list(range(..)); max(.., default=..) -/
def mTab : List (Str × String × String × (T → List T → M T)) := [("append", "list", "list.append", mApp), ("update", "dict", "dict.update", mUpd)]
def MOk (X : Cx) (S : Sta) (name : Str) (Ty id : String) (g : T → List T → M T) : Prop := PlainAttrs Ty ∧ Slot Ty name id ∧ typeOf (.builtin id) = pure (.type "method_descriptor") ∧ ∃ r, MtR X id r ∧ MtT S g r
theorem mTab_ok {X : Cx} {S : Sta} (hK : X.K = S.K) (hc : X.calm = true) : ∀ p ∈ mTab, MOk X S p.1 p.2.1 p.2.2.1 p.2.2.2 := by
  intro p hp
  simp only [mTab, List.mem_cons, List.mem_nil_iff, or_false] at hp
  rcases hp with rfl | rfl
  · exact ⟨PySem.F.plainAttrs_list, PySem.F.slot_list_append, PySem.F.type_list_append, _, mt_append, mtT_app⟩
  · exact ⟨PySem.F.plainAttrs_dict, PySem.F.slot_dict_update, PySem.F.type_dict_update, _, mt_upd hc, by rw [hK]; exact mtT_upd⟩
def plainBase : Expr → Bool
  | .Call (.Name _ _) [] [] _ => false
  | _ => true
theorem plainBase_of {o : Expr} {name : Str} {env : PySem.Env} (h : plainBase o = true) : attributeBase o name env (eval o env) = eval o env := by
  unfold attributeBase
  split
  · cases h
  · rfl
theorem star_all {pos : Pos} {env : PySem.Env} : ∀ {es : List Expr}, es.all (fun e => !isStar e) = true → (backTo pos (starEach es env)).all (fun x => !x.1) = true
  | [], _ => rfl
  | e :: es, h => by
    rw [List.all_cons, Bool.and_eq_true, Bool.not_eq_true'] at h
    rw [star_no h.1]
    show (true && (backTo pos (starEach es env)).all (fun x => !x.1)) = true
    rw [star_all h.2]
    rfl
theorem few_of {pos : Pos} {env : PySem.Env} {e : Expr} {es : List Expr} (h : (e :: es).all (fun e => !isStar e) = true) (hl : (e :: es).length < 29) : ((backTo pos (starEach (e :: es) env)).all (fun x => !x.1) && (backToKw pos (keywordEach [] env)).all (fun x => x.1.isSome)
      && decide ((e :: es).length + ([] : List Keyword).length + (if ([] : List Keyword).isEmpty then 0 else 1) < 30)) = true := by
  rw [star_all h]
  show (true && true && decide ((e :: es).length + 0 + 0 < 30)) = true
  rw [decide_eq_true (by omega)]
  rfl
def rgArg : Str → List Expr → Option (Bool × List Expr)
  | x, [.Call (.Name y _) as [] _] => if y = "range" then (if x = "list" then some (true, as) else if x = "tuple" then some (false, as) else none) else none
  | _, _ => none
theorem rgArg_of {x : Str} {es as : List Expr} {k : Bool} (h : rgArg x es = some (k, as)) : ∃ q sp, es = [.Call (.Name "range" q) as [] sp] ∧ ((k = true ∧ x = "list") ∨ (k = false ∧ x = "tuple")) := by
  unfold rgArg at h
  split at h
  · split at h
    · rename_i hy
      subst hy
      split at h
      · rename_i hx
        cases h
        exact ⟨_, _, rfl, .inl ⟨rfl, hx⟩⟩
      · split at h
        · rename_i hx
          cases h
          exact ⟨_, _, rfl, .inr ⟨rfl, hx⟩⟩
        · cases h
    · cases h
  · cases h
def kwTab : List (Str × (Int → List Int → Int)) := [("max", mxI), ("min", mnI)]
theorem kwTab_ok {X : Cx} {k : Nat} (hc : X.calm = true) (hr : Room k X.A) : ∀ p ∈ kwTab, p.1 ≠ "__name__" ∧ (p.1 == ("__debug__" : Str)) = false ∧ ∃ id, bootBuiltins p.1 = some (.builtin id) ∧ CallRK X (.builtin id) ["default"] (rMMd X.K p.2) := by
  intro p hp
  simp only [kwTab, List.mem_cons, List.mem_nil_iff, or_false] at hp
  rcases hp with rfl | rfl
  · exact ⟨by decide, by decide, "max", by decide +kernel, cr_mxd hc hr.units⟩
  · exact ⟨by decide, by decide, "min", by decide +kernel, cr_mnd hc hr.units⟩
def zipP {α : Type} : List α → List α → Option (List (α × α))
  | [], [] => some []
  | a :: as, b :: bs => (zipP as bs).map ((a, b) :: ·)
  | _, _ => none
def ownOf (N : List Str) (scope : Scope) : List (Str × Nat) := scope.names.filterMap fun y => match y.2 with
  | .local => (idx N y.1).map fun i => (y.1, i)
  | .cell => (idx N y.1).map fun i => (y.1, i)
  | _ => none
def Ct.blk (c : Ct) (scope : Scope) : Ct := { c with sc := relS scope c.sc, fv := fun x => scope.names.lookup x == some .cell }
def hasIni (Cs : List CE) (i : Nat) : Bool := match Cs[i]? with
  | some e => e.ini.isSome
  | none => false
theorem hasIni_of {Cs : List CE} {i : Nat} (h : hasIni Cs i = true) : ∃ e q, Cs[i]? = some e ∧ e.ini = some q := by
  unfold hasIni at h
  split at h
  · rename_i e he
    obtain ⟨q, hq⟩ := Option.isSome_iff_exists.mp h
    exact ⟨e, q, he, hq⟩
  · cases h
theorem gl_cls {S : Sta} {Φ : Nat → List T → M T} {k : Nat} {X : Cx} {x : Str} {i : Nat} (h : GOk S Φ k X x (.kon (.cls i))) : ∃ C, X.mg x = some (.ref C) ∧ S.ca i = some C := by
  obtain ⟨u, v, h1, h2, h3⟩ := h
  have r := h3 (fun _ => none) ⟨[], []⟩
  cases r with
  | cls hc =>
    cases (show u = Value.ref _ from h2)
    exact ⟨_, h1, hc⟩
theorem CsOk.blk {S : Sta} {Φ : Nat → List T → M T} {k : Nat} {X : Cx} {Cs : List CE} (h : CsOk S Φ k X Cs) (s : Shared) (H : Hp) (scope : Scope) (env : PySem.Env) (fp : List Addr) : CsOk S Φ k (X.blk s H scope env fp) Cs := fun i e he => by
  obtain ⟨C, hC, ok⟩ := h i e he
  exact ⟨C, hC, ok.toCEok, fun m j n q => let ⟨f, F⟩ := ok.mF m j n q; ⟨f, F.fa, F.kp, F.ok⟩, fun p j q => let ⟨f, F⟩ := ok.pF p j q; ⟨f, F.fa, F.kp, F.ok⟩, fun j n kw q => let ⟨f, F⟩ := ok.iF j n kw q; ⟨f, F.fa, F.ok⟩⟩
mutual
def trE (Φ : Nat → List T → M T) : Nat → Ct → Expr → Option (Env → M T)
  | 0, _, _ => none
  | n + 1, c, e => match e with
    | .Name x _ => trName c x
    | .Constant (.int i) _ _ => some (cK (.int i))
    | .Constant (.bool i) _ _ => some (cK (.bl i))
    | .Constant .none _ _ => some (cK .non)
    | .Constant (.str i) _ _ => some (cK (.str i))
    | .BinOp (.List es _) .Mult b _ => match trA Φ n c es, trE Φ n c b with
      | some fa, some fb => some (cRepL false fa fb)
      | _, _ => none
    | .BinOp a op b _ => match gOp op, trE Φ n c a, trE Φ n c b with
      | some g, some fa, some fb => some (c2 g fa fb)
      | _, _, _ => none
    | .Compare a [op] [b] _ => if isSetE b then none else match cOp op, trE Φ n c a, trE Φ n c b with
      | some g, some fa, some fb => some (c2 g fa fb)
      | _, _, _ => none
    | .Compare a [op, op'] [b, d] _ => if isSetE d then none else match cOp op, cOp op', trE Φ n c a, trE Φ n c b, trE Φ n c d with
      | some g, some g', some fa, some fb, some fd => some (cChain g g' fa fb fd)
      | _, _, _, _, _ => none
    | .UnaryOp .Not a _ => (trE Φ n c a).map cNotT
    | .UnaryOp .USub a _ => (trE Φ n c a).map (c1 gNeg)
    | .BoolOp _ [a] _ => trE Φ n c a
    | .BoolOp .And (a :: b :: r) p => match trE Φ n c a, trE Φ n c (.BoolOp .And (b :: r) p) with
      | some fa, some fb => some (cAndT fa fb)
      | _, _ => none
    | .BoolOp .Or (a :: b :: r) p => match trE Φ n c a, trE Φ n c (.BoolOp .Or (b :: r) p) with
      | some fa, some fb => some (cOrT fa fb)
      | _, _ => none
    | .IfExp t a b _ => match trT Φ n c t, trE Φ n c a, trE Φ n c b with
      | some ft, some fa, some fb => some (cIf ft fa fb)
      | _, _, _ => none
    | .Tuple es _ _ => (trA Φ n c es).map (cN mTup)
    | .List es _ => (trA Φ n c es).map (cN mLst)
    | .Subscript a (.Slice lo hi none _) _ => match trE Φ n c a, trO Φ n c lo, trO Φ n c hi with
      | some fa, some fl, some fh => some (cSlice fa fl fh)
      | _, _, _ => none
    | .Subscript a (.Slice none none (some (.UnaryOp .USub (.Constant (.int 1) _ _) _)) _) _ => (trE Φ n c a).map (c1 mRev)
    | .Subscript a b _ => if isSlice b then none else match trE Φ n c a, trE Φ n c b with
      | some fa, some fb => some (c2 gIxD fa fb)
      | _, _ => none
    | .Call (.Name x _) [] [] _ => if isGl c.sc x && okN x then match c.G x with
        | some (.fn i 0) => some (cCall0 (Φ i))
        | _ => none else none
    | .Call (.Name x _) (a :: as) [] _ => match rgArg x (a :: as) with
      | some (k, [b]) => if isGl c.sc x && isGl c.sc "range" && !isStar b then match c.G x, c.G "range", trE Φ n c b with
          | some .blt, some .blt, some fb => some (cRgL1 (if k then .lst else .tup) fb)
          | _, _, _ => none else none
      | some (true, [b, d]) => if isGl c.sc x && isGl c.sc "range" && !isStar b && !isStar d then match c.G x, c.G "range", trE Φ n c b, trE Φ n c d with
          | some .blt, some .blt, some fb, some fd => some (cRgL2 .lst fb fd)
          | _, _, _, _ => none else none
      | some _ => none
      | none => if isGl c.sc x && okN x && (a :: as).all (fun e => !isStar e) then match c.G x, trA Φ n c (a :: as) with
          | some (.fn i m), some fa => some (cCall m (Φ i) fa)
          | some (.kon (.cls i)), some fa => if hasIni c.Cs i then some (cN (pureC (mMake c.Cs Φ i)) fa) else none
          | some .blt, some fa => ((bTab c.Cs Φ).lookup x).map fun p => cN p.2 fa
          | _, _ => none
        else none
    | .Call (.Name x _) [a] [⟨some kw, d, _⟩] _ => if kw = "default" && isGl c.sc x && !isStar a then match c.G x, kwTab.lookup x, trA Φ n c [a], trE Φ n c d with
        | some .blt, some g, some fa, some fd => some (cKw (kMM g) fa fd)
        | _, _, _, _ => none else none
    | .Call (.Name x _) (a :: as) [⟨some kw, d, _⟩] _ => if isGl c.sc x && okN x && (a :: as).all (fun e => !isStar e) then match c.G x, trA Φ n c (a :: as), trE Φ n c d with
        | some (.kon (.cls i)), some fa, some fd => if hasIni c.Cs i then some (cMkK c.Cs Φ i kw fa fd) else none
        | _, _, _ => none else none
    | .Attribute o f _ => if plainBase o then (trE Φ n c o).map (c1 (mAttr c.Cs Φ f)) else none
    | .Call (.Attribute o name apos) [] [] cpos => if plainBase o && apos.endLine == cpos.line && (mTab.lookup name).isNone then (trE Φ n c o).map fun fo => cMethO c.Cs Φ name fo aNil else none
    | .Call (.Attribute o name apos) (a :: as) [] cpos => if plainBase o && apos.endLine == cpos.line && (a :: as).all (fun e => !isStar e) && decide ((a :: as).length < 29) then match mTab.lookup name, trE Φ n c o, trA Φ n c (a :: as) with
        | some p, some fo, some fa => some (cMeth p.1 p.2.2 fo fa)
        | none, some fo, some fa => some (cMethO c.Cs Φ name fo fa)
        | _, _, _ => none else none
    | .Dict keys values _ => if keys.all (·.isSome) && decide (keys.length = values.length) && !keys.isEmpty && decide (keys.length ≤ 15) then (trP Φ n c keys values).map cDisp else none
    | .ListComp elt [⟨tg, iter, ifs, 0⟩, ⟨tg1, iter1, ifs1, 0⟩] scope _ =>
      if blkC c.N c.sc scope (ownOf c.N scope) && !isSetE iter && !isSetE iter1 then match trI Φ n c tg iter, trG n (c.blk scope) tg, trIf Φ n (c.blk scope) ifs, trI Φ n (c.blk scope) tg1 iter1, trG n (c.blk scope) tg1, trIf Φ n (c.blk scope) ifs1, trE Φ n (c.blk scope) elt with
        | some fi, some p, some fc, some fi1, some p1, some fc1, some fa => if (p.1.all fun i => decide (i ∈ (ownOf c.N scope).map (·.2))) && (p1.1.all fun i => decide (i ∈ (ownOf c.N scope).map (·.2))) then some (cLc2 fi p.2 fc fi1 p1.2 fc1 fa ((ownOf c.N scope).map (·.2)) p1.1) else none
        | _, _, _, _, _, _, _ => none
      else none
    | .ListComp elt [⟨tg, iter, ifs, 0⟩] scope _ =>
      if blkC c.N c.sc scope (ownOf c.N scope) && !isSetE iter then match trI Φ n c tg iter, trG n (c.blk scope) tg, trIf Φ n (c.blk scope) ifs, trE Φ n (c.blk scope) elt with
        | some fi, some p, some fc, some fa => if p.1.all fun i => decide (i ∈ (ownOf c.N scope).map (·.2)) then some (cLc fi p.2 fc fa ((ownOf c.N scope).map (·.2))) else none
        | _, _, _, _ => none
      else none
    | _ => none
def trT (Φ : Nat → List T → M T) : Nat → Ct → Expr → Option (Env → M Bool)
  | 0, _, _ => none
  | n + 1, c, e => match e with
    | .UnaryOp .Not a _ => (trT Φ n c a).map cNot
    | .BoolOp _ [a] _ => trT Φ n c a
    | .BoolOp .And (a :: b :: r) p => match trT Φ n c a, trT Φ n c (.BoolOp .And (b :: r) p) with
      | some fa, some fb => some (cAnd fa fb)
      | _, _ => none
    | .BoolOp .Or (a :: b :: r) p => match trT Φ n c a, trT Φ n c (.BoolOp .Or (b :: r) p) with
      | some fa, some fb => some (cOr fa fb)
      | _, _ => none
    | .Compare a [op] [b] _ => if isSetE b then none else match cOp op, trE Φ n c a, trE Φ n c b with
      | some g, some fa, some fb => some (cTest (c2 g fa fb))
      | _, _, _ => none
    | .Compare a [op, op'] [b, d] _ => if isSetE d then none else match cOp op, cOp op', trE Φ n c a, trE Φ n c b, trE Φ n c d with
      | some g, some g', some fa, some fb, some fd => some (cTest (cChain g g' fa fb fd))
      | _, _, _, _, _ => none
    | e => if plainTest e then (trE Φ n c e).map cTru else none
def trA (Φ : Nat → List T → M T) : Nat → Ct → List Expr → Option (Env → M (List T))
  | 0, _, _ => none
  | n + 1, c, es => match es with
    | [] => some aNil
    | .Starred a _ :: r => match trE Φ n c a, trA Φ n c r with
      | some fa, some fr => some (aStar fa fr)
      | _, _ => none
    | a :: r => match trE Φ n c a, trA Φ n c r with
      | some fa, some fr => some (aCons fa fr)
      | _, _ => none
def trP (Φ : Nat → List T → M T) : Nat → Ct → List (Option Expr) → List Expr → Option (List ((Env → M T) × (Env → M T)))
  | 0, _, _, _ => none
  | n + 1, c, ks, vs => match ks, vs with
    | [], [] => some []
    | some k :: ks, v :: vs => match trE Φ n c k, trE Φ n c v, trP Φ n c ks vs with
      | some fk, some fv, some r => some ((fk, fv) :: r)
      | _, _, _ => none
    | _, _ => none
def trO (Φ : Nat → List T → M T) : Nat → Ct → Option Expr → Option (Env → M (Option Int))
  | 0, _, _ => none
  | n + 1, c, o => match o with
    | none => some oNone
    | some a => (trE Φ n c a).map oSome
def trIf (Φ : Nat → List T → M T) : Nat → Ct → List Expr → Option (Env → M Bool)
  | 0, _, _ => none
  | n + 1, c, es => match es with
    | [] => some cYes
    | [a] => trT Φ n c a
    | _ => none
def trI (Φ : Nat → List T → M T) : Nat → Ct → Expr → Expr → Option (Env → M (List T))
  | 0, _, _, _ => none
  | n + 1, c, tg, e => match e with
    | .Call (.Name x _) [a] [] _ => if x = "range" then (if isGl c.sc x && !isStar a then match c.G x, trA Φ n c [a] with
        | some .blt, some fa => some (iRg1 fa)
        | _, _ => none else none)
      else if x = "enumerate" then (match tg with
        | .Tuple _ _ _ => if isGl c.sc x && !isStar a then match c.G x, trA Φ n c [a] with
          | some .blt, some fa => some (iEn fa)
          | _, _ => none else none
        | _ => none)
      else (trE Φ n c e).map iSeq
    | .Call (.Name x _) [a, b] [] _ => if x = "range" then (if isGl c.sc x && !isStar a && !isStar b then match c.G x, trA Φ n c [a, b] with
        | some .blt, some fa => some (iRg2 fa)
        | _, _ => none else none)
      else if x = "zip" then (match tg with
        | .Tuple _ _ _ => if isGl c.sc x && !isStar a && !isStar b then match c.G x, trA Φ n c [a, b] with
          | some .blt, some fa => some (iZp fa)
          | _, _ => none else none
        | _ => none)
      else (trE Φ n c e).map iSeq
    | .Call (.Name x _) [a, b, d] [] _ => if x = "range" then (if isGl c.sc x && !isStar a && !isStar b && !isStar d then match c.G x, trA Φ n c [a, b, d] with
        | some .blt, some fa => some (iRg3 fa)
        | _, _ => none else none)
      else (trE Φ n c e).map iSeq
    | e => (trE Φ n c e).map iSeq
end

/-! ### .. is right -/
theorem star1 {e : Expr} {env : PySem.Env} (h : isStar e = false) : starEach [e] env = [(false, eval e env)] := star_no h
theorem takes_w0 {X : Cx} : Takes X W0 := fun _ _ x => by
  obtain ⟨_, _, _, _, _, _, _, _, _, _, _, _, _, _, _, _, z⟩ := x
  exact z.elim
theorem Cm.blk {S : Sta} {Φ : Nat → List T → M T} {k : Nat} {c : Ct} {X : Cx} {W : WX} (h : Cm S Φ k c X W) {scope : Scope} (ok : BlkOk X.N X.env.scope scope (ownOf c.N scope)) (s : Shared) (H : Hp) (C : Addr) (cl : List (Str × Addr)) (fp : List Addr) :
    Cm S Φ k (c.blk scope) (X.blk s H scope (compEnvC scope cl C X.env) fp) W0 where
  hK := h.hK
  hN := h.hN
  nd := h.nd
  sc := by
    show relS scope X.env.scope = relS scope c.sc
    rw [h.sc]
  kd := ok.kind
  calm := h.calm
  fn := fun x e => e
  tk := takes_w0
  pass := PassesOwn.never
  room := h.room
  cls := h.cls.blk s H scope _ fp
  gl := fun x g e => by
    have q := h.gl x g e
    cases g with
    | fn i n => exact q
    | kon t => exact q
    | blt => exact q
end Tw

/-! Tw10: the translator is right -/
namespace Tw
open PySem L2
section
variable {S : Sta} {Φ : Nat → List T → M T} {k : Nat}
theorem foldSet {iter : Expr} {env : PySem.Env} (h : isSetE iter = false) (x : Value) : foldedSetIterable iter env x = pure x := by cases iter <;> first | rfl | cases h
theorem not_true {b : Bool} (h : (!b) = true) : b = false := by cases b <;> first | rfl | cases h
mutual
theorem trE_ok : ∀ (n : Nat) (c : Ct) (e : Expr) (f : Env → M T), trE Φ n c e = some f → ∀ (X : Cx) (W : WX), Cm S Φ k c X W → PV X S W e f
  | 0, _, _, _, h => by simp only [trE] at h; cases h
  | n + 1, c, e, f, h => by
    intro X W hc
    unfold trE at h
    split at h
    · exact trName_ok hc h
    · cases h; exact pv_int
    · cases h; exact pv_bl
    · cases h; exact pv_non
    · cases h; exact pv_str
    · split at h
      · rename_i fa fb ea eb
        cases h
        exact pv_repL (trA_ok n c _ _ ea X W hc) (trE_ok n c _ _ eb X W hc)
      · cases h
    · -- BinOp
      split at h
      · rename_i g fa fb eg ea eb
        cases h
        obtain ⟨r, h1, h2⟩ := gOp_ok hc.hK eg
        exact pv_op h1 h2 (trE_ok n c _ _ ea X W hc) (trE_ok n c _ _ eb X W hc)
      · cases h
    · -- Compare
      split at h
      · cases h
      · rename_i hm
        split at h
        · rename_i g fa fb eg ea eb
          cases h
          obtain ⟨r, h1, h2⟩ := cOp_ok hc.hK hc.room eg
          exact pv_cmp h1 h2 (trE_ok n c _ _ ea X W hc) (trE_ok n c _ _ eb X W hc) (noMark (by simpa using hm))
        · cases h
    · -- chain
      split at h
      · cases h
      · rename_i hm
        split at h
        · rename_i g g' fa fb fd eg eg' ea eb ed
          cases h
          obtain ⟨r, h1, h2⟩ := cOp_ok hc.hK hc.room eg
          obtain ⟨r', h1', h2'⟩ := cOp_ok hc.hK hc.room eg'
          exact pv_chain h1 h1' h2 h2' (trE_ok n c _ _ ea X W hc) (trE_ok n c _ _ eb X W hc) (trE_ok n c _ _ ed X W hc) (noMark (by simpa using hm))
        · cases h
    · -- not
      obtain ⟨fa, ea, rfl⟩ := Option.map_eq_some_iff.mp h
      exact pv_notT hc.hK (trE_ok n c _ _ ea X W hc)
    · obtain ⟨fa, ea, rfl⟩ := Option.map_eq_some_iff.mp h
      exact pv_neg (trE_ok n c _ _ ea X W hc)
    · exact pv_one (trE_ok n c _ _ h X W hc)
    · split at h
      · rename_i fa fb ea eb
        cases h
        exact pv_andT hc.hK (trE_ok n c _ _ ea X W hc) (trE_ok n c _ _ eb X W hc)
      · cases h
    · split at h
      · rename_i fa fb ea eb
        cases h
        exact pv_orT hc.hK (trE_ok n c _ _ ea X W hc) (trE_ok n c _ _ eb X W hc)
      · cases h
    · -- if
      split at h
      · rename_i ft fa fb et ea eb
        cases h
        exact pv_if (trT_ok n c _ _ et X W hc) (trE_ok n c _ _ ea X W hc) (trE_ok n c _ _ eb X W hc)
      · cases h
    · obtain ⟨fa, ea, rfl⟩ := Option.map_eq_some_iff.mp h
      exact pv_tup (trA_ok n c _ _ ea X W hc)
    · obtain ⟨fa, ea, rfl⟩ := Option.map_eq_some_iff.mp h
      exact pv_lst (trA_ok n c _ _ ea X W hc)
    · -- slice
      split at h
      · rename_i fa fl fh ea el eh
        cases h
        exact pv_slice hc.hK (trE_ok n c _ _ ea X W hc) (trO_ok n c _ _ el X W hc) (trO_ok n c _ _ eh X W hc)
      · cases h
    · obtain ⟨fa, ea, rfl⟩ := Option.map_eq_some_iff.mp h
      exact pv_rev (trE_ok n c _ _ ea X W hc)
    · -- subscript
      split at h
      · cases h
      · rename_i hm
        split at h
        · rename_i fa fb ea eb
          cases h
          exact pv_ixD hc.room hc.hK (trE_ok n c _ _ ea X W hc) (trE_ok n c _ _ eb X W hc) (plainIx_of (by simpa using hm))
        · cases h
    · split at h
      · rename_i hg
        rw [Bool.and_eq_true] at hg
        split at h
        · rename_i i eG
          cases h
          obtain ⟨fa', fd, ps, h1, h2, h3, h4, h5, h6⟩ := hc.gl _ _ eG
          have hp : ps = [] := List.eq_nil_of_length_eq_zero h6.symm
          subst hp
          exact pv_call0 h4 (hc.room.mono (by omega)) (hc.glob hg.1) h2 h3 h5 (okN_of hg.2).1
        · cases h
      · cases h
    · -- call
      split at h
      · rename_i k b er
        obtain ⟨q, sp, e1, hk⟩ := rgArg_of er
        cases e1
        split at h
        · rename_i hg
          rw [Bool.and_eq_true, Bool.and_eq_true] at hg
          split at h
          · rename_i fb eG eG2 eb
            cases h
            rcases hk with ⟨rfl, rfl⟩ | ⟨rfl, rfl⟩
            · exact pv_lstRg1 hc.calm (hc.glob hg.1.1) (hc.gl _ _ eG) (hc.glob hg.1.2) (hc.gl _ _ eG2) (trE_ok n c _ _ eb X W hc) (star1 (not_true hg.2))
            · exact pv_tupRg1 hc.calm (hc.glob hg.1.1) (hc.gl _ _ eG) (hc.glob hg.1.2) (hc.gl _ _ eG2) (trE_ok n c _ _ eb X W hc) (star1 (not_true hg.2))
          · cases h
        · cases h
      · rename_i b d er
        obtain ⟨q, sp, e1, hk⟩ := rgArg_of er
        cases e1
        split at h
        · rename_i hg
          rw [Bool.and_eq_true, Bool.and_eq_true, Bool.and_eq_true] at hg
          split at h
          · rename_i fb fd eG eG2 eb ed
            cases h
            rcases hk with ⟨_, rfl⟩ | ⟨z, _⟩
            · exact pv_lstRg2 hc.calm (hc.glob hg.1.1.1) (hc.gl _ _ eG) (hc.glob hg.1.1.2) (hc.gl _ _ eG2) (trE_ok n c _ _ eb X W hc) (trE_ok n c _ _ ed X W hc) (star_no (not_true hg.1.2)) (star1 (not_true hg.2))
            · cases z
          · cases h
        · cases h
      · cases h
      · split at h
        · rename_i hg
          rw [Bool.and_eq_true, Bool.and_eq_true] at hg
          have ha := hg.2
          rw [List.all_cons, Bool.and_eq_true] at ha
          split at h
          · rename_i i m fa eG ea
            cases h
            obtain ⟨fa', fd, ps, h1, h2, h3, h4, h5, _⟩ := hc.gl _ _ eG
            exact pv_call hc.hK hc.tk h4 (hc.room.mono (by omega)) (hc.glob hg.1.1) h2 h3 h5 (trA_ok n c _ _ ea X W hc) (okN_of hg.1.2).1 (star_no (not_true ha.1)) (star_any ha.2)
          · rename_i i fa eG ea
            split at h
            · rename_i hi
              cases h
              obtain ⟨C, h1, h2⟩ := gl_cls (hc.gl _ _ eG)
              exact pv_make hc.hK hc.cls hc.room hc.tk (hc.glob hg.1.1) h1 h2 (hasIni_of hi) (trA_ok n c _ _ ea X W hc) (okN_of hg.1.2).1 (star_no (not_true ha.1)) (star_any ha.2)
            · cases h
          · rename_i fa eG ea
            obtain ⟨p, e1, rfl⟩ := Option.map_eq_some_iff.mp h
            obtain ⟨h1, h2, h3⟩ := bTab_ok (S := S) hc.hK hc.calm hc.room hc.cls (_, p) (lookup_mem e1)
            obtain ⟨b, g⟩ := p
            cases b with
            | fn id =>
              obtain ⟨h4, r, h5, h6⟩ := h3
              exact pv_callB h5 h6 (hc.glob hg.1.1) (hc.gl _ _ eG) h4 (trA_ok n c _ _ ea X W hc) h1 h2 (star_no (not_true ha.1)) (star_any ha.2)
            | ty id =>
              obtain ⟨h4, r, h5, h6⟩ := h3
              exact pv_callTy h5 h6 (hc.glob hg.1.1) (hc.gl _ _ eG) h4 (trA_ok n c _ _ ea X W hc) h1 h2 (star_no (not_true ha.1)) (star_any ha.2)
          · cases h
        · cases h
    · -- default=
      split at h
      · rename_i hg
        rw [Bool.and_eq_true, Bool.and_eq_true, decide_eq_true_eq] at hg
        obtain ⟨⟨rfl, hg1⟩, hg2⟩ := hg
        split at h
        · rename_i g fa fd eG ek ea ed
          cases h
          obtain ⟨h1, h2, id, h3, h4⟩ := kwTab_ok (X := X) hc.calm hc.room (_, g) (lookup_mem ek)
          exact pv_mmd hc.hK h4 (hc.glob hg1) (hc.gl _ _ eG) h3 (trA_ok n c _ _ ea X W hc) (trE_ok n c _ _ ed X W hc) h1 h2 (star1 (not_true hg2))
        · cases h
      · cases h
    · -- a class, by keyword
      split at h
      · rename_i hg
        rw [Bool.and_eq_true, Bool.and_eq_true] at hg
        have ha := hg.2
        rw [List.all_cons, Bool.and_eq_true] at ha
        split at h
        · rename_i i fa fd eG ea ed
          split at h
          · rename_i hi
            cases h
            obtain ⟨C, h1, h2⟩ := gl_cls (hc.gl _ _ eG)
            exact pv_makeK hc.hK hc.cls hc.room hc.tk (hc.glob hg.1.1) h1 h2 (hasIni_of hi) (trA_ok n c _ _ ea X W hc) (trE_ok n c _ _ ed X W hc) (okN_of hg.1.2).1 (star_no (not_true ha.1)) (star_any ha.2)
          · cases h
        · cases h
      · cases h
    · -- attribute
      split at h
      · rename_i hg
        obtain ⟨fo, eo, rfl⟩ := Option.map_eq_some_iff.mp h
        exact pv_attr hc.hK hc.cls hc.room (trE_ok n c _ _ eo X W hc) (plainBase_of hg)
      · cases h
    · -- method without arguments
      split at h
      · rename_i hg
        rw [Bool.and_eq_true, Bool.and_eq_true] at hg
        obtain ⟨fo, eo, rfl⟩ := Option.map_eq_some_iff.mp h
        exact pv_methO0 hc.hK hc.cls hc.room hc.tk (trE_ok n c _ _ eo X W hc) (plainBase_of hg.1.1) hg.1.2
      · cases h
    · -- method
      split at h
      · rename_i hg
        rw [Bool.and_eq_true, Bool.and_eq_true, Bool.and_eq_true, decide_eq_true_eq] at hg
        have ha := hg.1.2
        rw [List.all_cons, Bool.and_eq_true] at ha
        split at h
        · rename_i p fo fa em eo ea
          cases h
          obtain ⟨h1, h2, h3, r, h4, h5⟩ := mTab_ok (X := X) (S := S) hc.hK hc.calm (_, p) (lookup_mem em)
          exact pv_meth hc.hK h1 h2 h3 h4 h5 (trE_ok n c _ _ eo X W hc) (trA_ok n c _ _ ea X W hc) (plainBase_of hg.1.1.1) (few_of hg.1.2 hg.2) hg.1.1.2 (star_no (not_true ha.1)) (star_any ha.2)
        · rename_i fo fa em eo ea
          cases h
          exact pv_methO hc.hK hc.cls hc.room hc.tk (trE_ok n c _ _ eo X W hc) (trA_ok n c _ _ ea X W hc) (plainBase_of hg.1.1.1) (few_of hg.1.2 hg.2) hg.1.1.2 (star_no (not_true ha.1)) (star_any ha.2)
        · cases h
      · cases h
    · -- dict
      split at h
      · rename_i hg
        rw [Bool.and_eq_true, Bool.and_eq_true, Bool.and_eq_true, decide_eq_true_eq, decide_eq_true_eq] at hg
        obtain ⟨fs, ef, rfl⟩ := Option.map_eq_some_iff.mp h
        exact pv_disp (trP_ok n c _ _ _ ef X W hc _) hg.1.1.1 hg.1.1.2 (by intro z; rw [z] at hg; simp at hg) hg.2
      · cases h
    · -- two fors
      rename_i elt tg iter ifs tg1 iter1 ifs1 scope pos
      split at h
      · rename_i hg
        rw [Bool.and_eq_true, Bool.and_eq_true] at hg
        split at h
        · rename_i fi p fc fi1 p1 fc1 fa ei ep ec ei1 ep1 ec1 ea
          split at h
          · rename_i hv
            rw [Bool.and_eq_true] at hv
            cases h
            have ok : BlkOk X.N X.env.scope scope (ownOf c.N scope) := by rw [hc.hN, hc.sc]; exact blkOk_by hg.1.1
            exact pv_lc2 hc.calm hc.nodup (trI_ok n c _ _ _ ei X W hc) ok (fun i hi => of_decide_eq_true (List.all_eq_true.mp hv.1 i hi)) (fun i hi => of_decide_eq_true (List.all_eq_true.mp hv.2 i hi))
              (fun s H C cl fp => trG_ok n (c.blk scope) tg p ep _ W0 (hc.blk ok s H C cl fp)) (fun s H C cl fp => trIf_ok n (c.blk scope) ifs fc ec _ W0 (hc.blk ok s H C cl fp))
              (fun s H C cl fp => trI_ok n (c.blk scope) tg1 iter1 fi1 ei1 _ W0 (hc.blk ok s H C cl fp)) (fun s H C cl fp => trG_ok n (c.blk scope) tg1 p1 ep1 _ W0 (hc.blk ok s H C cl fp)) (fun s H C cl fp => trIf_ok n (c.blk scope) ifs1 fc1 ec1 _ W0 (hc.blk ok s H C cl fp))
              (fun s H C cl fp => trE_ok n (c.blk scope) elt fa ea _ W0 (hc.blk ok s H C cl fp)) (foldSet (not_true hg.1.2)) (fun env x => foldSet (not_true hg.2) x)
          · cases h
        · cases h
      · cases h
    · -- comprehension
      rename_i elt tg iter ifs scope pos
      split at h
      · rename_i hg
        rw [Bool.and_eq_true] at hg
        split at h
        · rename_i fi p fc fa ei ep ec ea
          split at h
          · rename_i hv
            cases h
            have ok : BlkOk X.N X.env.scope scope (ownOf c.N scope) := by rw [hc.hN, hc.sc]; exact blkOk_by hg.1
            exact pv_lc hc.calm hc.nodup (trI_ok n c _ _ _ ei X W hc) ok (fun i hi => of_decide_eq_true (List.all_eq_true.mp hv i hi))
              (fun s H C cl fp => trG_ok n (c.blk scope) tg p ep _ W0 (hc.blk ok s H C cl fp)) (fun s H C cl fp => trIf_ok n (c.blk scope) ifs fc ec _ W0 (hc.blk ok s H C cl fp))
              (fun s H C cl fp => trE_ok n (c.blk scope) elt fa ea _ W0 (hc.blk ok s H C cl fp)) (foldSet (not_true hg.2))
          · cases h
        · cases h
      · cases h
    · cases h
theorem trT_ok : ∀ (n : Nat) (c : Ct) (e : Expr) (f : Env → M Bool), trT Φ n c e = some f → ∀ (X : Cx) (W : WX), Cm S Φ k c X W → PVt X S W e f
  | 0, _, _, _, h => by simp only [trT] at h; cases h
  | n + 1, c, e, f, h => by
    intro X W hc
    unfold trT at h
    split at h
    · obtain ⟨fa, ea, rfl⟩ := Option.map_eq_some_iff.mp h
      exact pvt_not (trT_ok n c _ _ ea X W hc)
    · exact (pvw_one (trT_ok n c _ _ h X W hc)).pt
    · split at h
      · rename_i fa fb ea eb
        cases h
        exact (pvw_and (trT_ok n c _ _ ea X W hc) (trW_ok n c _ _ _ _ eb X W hc)).pt
      · cases h
    · split at h
      · rename_i fa fb ea eb
        cases h
        exact (pvw_or (trT_ok n c _ _ ea X W hc) (trW_ok n c _ _ _ _ eb X W hc)).pt
      · cases h
    · split at h
      · cases h
      · rename_i hm
        split at h
        · rename_i g fa fb eg ea eb
          cases h
          obtain ⟨r, h1, h2⟩ := cOp_ok hc.hK hc.room eg
          exact pvt_cmp h1 h2 (trE_ok n c _ _ ea X W hc) (trE_ok n c _ _ eb X W hc) (noMark (by simpa using hm))
        · cases h
    · split at h
      · cases h
      · rename_i hm
        split at h
        · rename_i g g' fa fb fd eg eg' ea eb ed
          cases h
          obtain ⟨r, h1, h2⟩ := cOp_ok hc.hK hc.room eg
          obtain ⟨r', h1', h2'⟩ := cOp_ok hc.hK hc.room eg'
          exact pvt_chain h1 h1' h2 h2' (trE_ok n c _ _ ea X W hc) (trE_ok n c _ _ eb X W hc) (trE_ok n c _ _ ed X W hc) (noMark (by simpa using hm))
        · cases h
    · split at h
      · rename_i hp
        obtain ⟨fa, ea, rfl⟩ := Option.map_eq_some_iff.mp h
        exact pvt_tru hc.hK (trE_ok n c _ _ ea X W hc) (plainTest_of hp)
      · cases h
theorem trW_ok : ∀ (n : Nat) (c : Ct) (op : BoolOp) (vs : List Expr) (p : Pos) (f : Env → M Bool), trT Φ n c (.BoolOp op vs p) = some f → ∀ (X : Cx) (W : WX), Cm S Φ k c X W → PVw X S W (.BoolOp op vs p) f
  | 0, _, _, _, _, _, h => by simp only [trT] at h; cases h
  | n + 1, c, op, [], p, f, h => by
    cases op <;> (unfold trT at h; cases h)
  | n + 1, c, op, [a], p, f, h => by
    intro X W hc
    have h' : trT Φ n c a = some f := by cases op <;> (unfold trT at h; exact h)
    exact pvw_one (trT_ok n c _ _ h' X W hc)
  | n + 1, c, .And, a :: b :: r, p, f, h => by
    intro X W hc
    unfold trT at h
    dsimp only at h
    split at h
    · rename_i fa fb ea eb
      cases h
      exact pvw_and (trT_ok n c _ _ ea X W hc) (trW_ok n c _ _ _ _ eb X W hc)
    · cases h
  | n + 1, c, .Or, a :: b :: r, p, f, h => by
    intro X W hc
    unfold trT at h
    dsimp only at h
    split at h
    · rename_i fa fb ea eb
      cases h
      exact pvw_or (trT_ok n c _ _ ea X W hc) (trW_ok n c _ _ _ _ eb X W hc)
    · cases h
theorem trA_ok : ∀ (n : Nat) (c : Ct) (es : List Expr) (f : Env → M (List T)), trA Φ n c es = some f → ∀ (X : Cx) (W : WX), Cm S Φ k c X W → PVa X S W es f
  | 0, _, _, _, h => by simp only [trA] at h; cases h
  | n + 1, c, es, f, h => by
    intro X W hc
    unfold trA at h
    split at h
    · cases h; exact pva_nil
    · split at h
      · rename_i fa fr ea er
        cases h
        exact pva_star hc.hK (trE_ok n c _ _ ea X W hc) (trA_ok n c _ _ er X W hc)
      · cases h
    · rename_i a r hne
      split at h
      · rename_i fa fr ea er
        cases h
        exact pva_cons (trE_ok n c _ _ ea X W hc) (trA_ok n c _ _ er X W hc) (star_no (by cases a <;> first | rfl | exact (hne _ _ rfl).elim))
      · cases h
theorem trP_ok : ∀ (n : Nat) (c : Ct) (ks : List (Option Expr)) (vs : List Expr) (fs : List ((Env → M T) × (Env → M T))), trP Φ n c ks vs = some fs → ∀ (X : Cx) (W : WX), Cm S Φ k c X W → ∀ pos, PPs X pos ks vs (fs.map fun p => (tEv S W p.1, tEv S W p.2))
  | 0, _, _, _, _, h => by simp only [trP] at h; cases h
  | n + 1, c, ks, vs, fs, h => by
    intro X W hc pos
    unfold trP at h
    split at h
    · cases h; exact pps_nil
    · split at h
      · rename_i fk fv r ek ev er
        cases h
        exact pps_cons (trE_ok n c _ _ ek X W hc) (trE_ok n c _ _ ev X W hc) (trP_ok n c _ _ _ er X W hc pos)
      · cases h
    · cases h
theorem trO_ok : ∀ (n : Nat) (c : Ct) (o : Option Expr) (f : Env → M (Option Int)), trO Φ n c o = some f → ∀ (X : Cx) (W : WX), Cm S Φ k c X W → PO X o (tOv S W f)
  | 0, _, _, _, h => by simp only [trO] at h; cases h
  | n + 1, c, o, f, h => by
    intro X W hc
    unfold trO at h
    split at h
    · cases h; exact pvo_none
    · obtain ⟨fa, ea, rfl⟩ := Option.map_eq_some_iff.mp h
      exact pvo_some (trE_ok n c _ _ ea X W hc)
theorem trIf_ok : ∀ (n : Nat) (c : Ct) (es : List Expr) (f : Env → M Bool), trIf Φ n c es = some f → ∀ (X : Cx) (W : WX), Cm S Φ k c X W → PTs X es (tTv S W f)
  | 0, _, _, _, h => by simp only [trIf] at h; cases h
  | n + 1, c, es, f, h => by
    intro X W hc
    unfold trIf at h
    split at h
    · cases h; exact pts_of_nil
    · exact pts_one (trT_ok n c _ _ h X W hc)
    · cases h
theorem trI_ok : ∀ (n : Nat) (c : Ct) (tg e : Expr) (f : Env → M (List T)), trI Φ n c tg e = some f → ∀ (X : Cx) (W : WX), Cm S Φ k c X W → PVi X S W tg e f
  | 0, _, _, _, _, h => by simp only [trI] at h; cases h
  | n + 1, c, tg, e, f, h => by
    intro X W hc
    unfold trI at h
    split at h
    · split at h
      · rename_i hx
        subst hx
        split at h
        · rename_i hg
          rw [Bool.and_eq_true] at hg
          split at h
          · rename_i fa eG ea
            cases h
            exact pvi_range1 (hc.glob hg.1) (hc.gl _ _ eG) (trA_ok n c _ _ ea X W hc) (star1 (not_true hg.2))
          · cases h
        · cases h
      · split at h
        · rename_i _ hx
          subst hx
          split at h
          · split at h
            · rename_i hg
              rw [Bool.and_eq_true] at hg
              split at h
              · rename_i fa eG ea
                cases h
                exact pvi_enum hc.hK (hc.glob hg.1) (hc.gl _ _ eG) (trA_ok n c _ _ ea X W hc) (star1 (not_true hg.2))
              · cases h
            · cases h
          · cases h
        · obtain ⟨fa, ea, rfl⟩ := Option.map_eq_some_iff.mp h
          exact pvi_seq hc.hK (trE_ok n c _ _ ea X W hc)
    · split at h
      · rename_i hx
        subst hx
        split at h
        · rename_i hg
          rw [Bool.and_eq_true, Bool.and_eq_true] at hg
          split at h
          · rename_i fa eG ea
            cases h
            exact pvi_range2 (hc.glob hg.1.1) (hc.gl _ _ eG) (trA_ok n c _ _ ea X W hc) (by rw [star_no (not_true hg.1.2), star1 (not_true hg.2)]) (star1 (not_true hg.2))
          · cases h
        · cases h
      · split at h
        · rename_i _ hx
          subst hx
          split at h
          · split at h
            · rename_i hg
              rw [Bool.and_eq_true, Bool.and_eq_true] at hg
              split at h
              · rename_i fa eG ea
                cases h
                exact pvi_zip hc.hK (hc.glob hg.1.1) (hc.gl _ _ eG) (trA_ok n c _ _ ea X W hc) (star_no (not_true hg.1.2)) (star_any (by rw [List.all_cons, Bool.and_eq_true]; exact ⟨hg.2, rfl⟩))
              · cases h
            · cases h
          · cases h
        · obtain ⟨fa, ea, rfl⟩ := Option.map_eq_some_iff.mp h
          exact pvi_seq hc.hK (trE_ok n c _ _ ea X W hc)
    · split at h
      · rename_i hx
        subst hx
        split at h
        · rename_i hg
          rw [Bool.and_eq_true, Bool.and_eq_true, Bool.and_eq_true] at hg
          split at h
          · rename_i fa eG ea
            cases h
            exact pvi_range3 (hc.glob hg.1.1.1) (hc.gl _ _ eG) (trA_ok n c _ _ ea X W hc) (star_no (not_true hg.1.1.2)) (star_any (by rw [List.all_cons, List.all_cons, Bool.and_eq_true, Bool.and_eq_true]; exact ⟨hg.1.2, hg.2, rfl⟩))
          · cases h
        · cases h
      · obtain ⟨fa, ea, rfl⟩ := Option.map_eq_some_iff.mp h
        exact pvi_seq hc.hK (trE_ok n c _ _ ea X W hc)
    · obtain ⟨fa, ea, rfl⟩ := Option.map_eq_some_iff.mp h
      exact pvi_seq hc.hK (trE_ok n c _ _ ea X W hc)
end
end
end Tw

/-! Tw11: statements translated -/
namespace Tw
open PySem L2
/-- x op= e at a name -/
def sAug (i : Nat) (g : T → T → M T) (a : Env → M T) : Env → M Out := fun ρ => bndS (cVar i ρ) ρ fun x => bndS (a ρ) ρ fun y => bndS (g x y) ρ fun z => ret (.nx (ρ.set i (some z)))
section
variable {X : Cx} {S : Sta} {W : WX} {e : Expr} {fe : Env → M T} {pos : Pos}
theorem ps_of_aug {i : Nat} {x : Str} {op : Operator} {r : R2} {g : T → T → M T} {pos' : Pos} (hN : X.N.Nodup) (hi : X.N[i]? = some x) (hx : L2.Loc X.env.scope x) (he : PV X S W e fe) (ho : OpR X (inplaceOp op) r) (hg : OpT S g r) (hf : X.fn x = true ∨ X.env.scope.names.lookup x = some .local) :
    PVs X S W (.AugAssign (.Name x pos') op e pos) (sAug i g fe) :=
  PS.weak (ps_aug (ti := r) hN hi hx he (fun pins s σ H x y v u Q I r1 r2 h => ho pins s σ H x y v u Q I r1 r2 h) hf) fun D σ H ⟨ρ, ι, μ, he, hs, h⟩ => by
    have h' : PstS S W D H ι (bndS (cVar i ρ) ρ (fun x => bndS (fe ρ) ρ fun y => bndS (g x y) ρ fun z => ret (.nx (ρ.set i (some z)))) μ) := h
    cases e1 : ρ[i]? with
    | none => unfold bndS cVar at h'; rw [e1] at h'; exact h'.elim
    | some o =>
      cases o with
      | none => unfold bndS cVar at h'; rw [e1] at h'; exact h'.elim
      | some t =>
        obtain ⟨v, h1, h2⟩ := he.2 i t e1
        refine ⟨v, h1, ?_⟩
        have h3 : PstS S W D H ι (bndS (fe ρ) ρ (fun y => bndS (g t y) ρ fun z => ret (.nx (ρ.set i (some z)))) μ) := by
          unfold bndS cVar at h'
          rw [e1] at h'
          exact h'
        refine es_then he hs h3 fun y H1 ι1 μ1 u he1 hs1 f1 r1 h4 => ?_
        exact hg W σ H1 ι1 μ1 v y t u _ hs1 (h2.fut f1) r1 ((PstS.seq (rel := Rep S) he1 h4).mono fun z H2 ⟨ι2, μ2, tz, f2, hs2, r2, h5⟩ => h5 _ H2 ι2 (Fut.refl _ _) hs2 ((he1.fut f2).set r2))
end
/-- of ints alone -/
def gMulJ (x y : T) : M T := match x, y with
  | .int i, .int j => if cMulB i j then ret (.int (i * j)) else bad
  | _, _ => bad
theorem opT_mulI {S : Sta} : OpT S gMulJ (rI CMul fun i j => .int (i * j)) := by
  intro W σ H ι μ x y tx ty Q hs rx ry h
  unfold gMulJ at h
  split at h
  · cases rx; cases ry
    split at h
    · rename_i hc
      unfold cMulB at hc
      rw [Bool.or_eq_true, Bool.and_eq_true, Bool.and_eq_true, decide_eq_true_eq, decide_eq_true_eq, decide_eq_true_eq, decide_eq_true_eq] at hc
      exact ⟨_, _, rfl, rfl, hc, Pst.now h hs (.int _)⟩
    · exact h.elim
  · exact h.elim
def iOp : Operator → Option (T → T → M T)
  | .Add => some fun x y => match x, y with
    | .int i, .int j => ret (.int (i + j))
    | _, _ => bad
  | .Sub => some gSub
  | .Mult => some gMulJ
  | _ => none
theorem iOp_ok {X : Cx} {S : Sta} {op : Operator} {g : T → T → M T} (e : iOp op = some g) : ∃ r, OpR X (inplaceOp op) r ∧ OpT S g r := by
  cases op <;> first | (cases e; done) | skip
  · cases e
    refine ⟨_, iop_add, ?_⟩
    intro W σ H ι μ x y tx ty Q hs rx ry h
    dsimp only at h
    split at h
    · cases rx; cases ry
      exact ⟨_, _, rfl, rfl, Pst.now h hs (.int _)⟩
    · exact h.elim
  · cases e; exact ⟨_, iop_sub, opT_sub⟩
  · cases e; exact ⟨_, iop_mul, opT_mulI⟩

def isComp : Expr → Bool
  | .ListComp .. => true
  | .SetComp .. => true
  | .DictComp .. => true
  | _ => false
theorem noSwap {e : Expr} {t : Option Expr} {l : Nat} {env : PySem.Env} (h : isComp e = false) : swapsWith e t l env = pure false := by cases e <;> first | rfl | cases h
def isTupE : Expr → Bool
  | .Tuple .. => true
  | _ => false
theorem noPar {tg e : Expr} {env : PySem.Env} (h : isTupE e = false) : swappedStores [tg] e env = pure none := by
  cases e <;> first | (cases tg <;> rfl) | exact Bool.noConfusion h
theorem noSwapS {t e : Expr} {l : Nat} {env : PySem.Env} (h : isComp e = false) : swapsWithSole [t] e l env = pure false := by
  show swapsWith e (some t) l env = pure false
  exact noSwap h
theorem noParS (a b e : Expr) (p : Pos) (env : PySem.Env) : swappedStores [.Subscript a b p] e env = pure none := by cases e <;> rfl
theorem assignSub {a b : Expr} {p2 : Pos} {env : PySem.Env} (h : isSlice b = false) : ∀ v, assign (.Subscript a b p2) env v = (do
      let ov ← holding [v] (eval a env)
      let iv ← holding [v, ov] (eval b env)
      standAt p2
      holding [v, ov, iv] (setItem ov iv v)
      release [v, ov, iv] []) := fun v => by cases b <;> first | rfl | cases h
theorem noStarG {n : Nat} {c : Ct} {e : Expr} {p : List Nat × (T → Env → Option Env)} (h : trG n c e = some p) : ∀ a b, e ≠ .Starred a b := by
  rintro a b rfl
  cases n with
  | zero => simp only [trG] at h; cases h
  | succ n => simp only [trG] at h; cases h
theorem sw_cell {elt : Expr} {gs : List Comprehension} {scope : Scope} {pos py : Pos} {y : Str} {l : Nat} {env : PySem.Env} (hy : env.scope.names.lookup y = some .cell) : swapsWith (.ListComp elt gs scope pos) (some (.Name y py)) l env = pure false := by
  have ky : env.kindOf y = some .cell := hy
  unfold swapsWith
  simp only [ky]
  have : ((some NameKind.cell : Option NameKind) == some NameKind.local) = false := rfl
  simp [this]
/-- a list written out that is changed later on -/
def trNewP (Φ : Nat → List T → M T) (n : Nat) (c : Ct) (x : Str) (e : Expr) : Option (Env → M T) := match e with
  | .List es _ => if c.chg.contains x then (trA Φ n c es).map (cN mNew) else trE Φ (n + 1) c e
  | .BinOp (.List es p2) .Mult b pos => if c.chg.contains x then (match trA Φ n c es, trE Φ n c b with
      | some fa, some fb => some (cRepL true fa fb)
      | _, _ => none) else trE Φ n c e
  | .Call (.Name y p) [a] [] pos => if c.chg.contains x && decide (y = "list") && isGl c.sc y && !isStar a then (match c.G y, trA Φ n c [a] with
      | some .blt, some fa => some (cN bListN fa)
      | _, _ => none) else trE Φ n c e
  | e => trE Φ n c e
def trNew (Φ : Nat → List T → M T) (n : Nat) (c : Ct) (x : Str) (e : Expr) : Option (Env → M T) := if isComp e then none else trNewP Φ n c x e
/-- .. in a field -/
def trNewA (Φ : Nat → List T → M T) (n : Nat) (c : Ct) (f : Str) (e : Expr) : Option (Env → M T) := match e with
  | .List es _ => if c.chg.contains ("." ++ f) then (trA Φ n c es).map (cN mNew) else trE Φ (n + 1) c e
  | e => trE Φ n c e
theorem noSwapA {e o : Expr} {f : Str} {p : Pos} {l : Nat} {env : PySem.Env} : swapsWith e (some (.Attribute o f p)) l env = pure false := by cases e <;> rfl
def swC (c : Ct) (x : Str) (py p : Pos) (scope : Scope) : Bool := match c.sc.names.lookup x with
  | some .local => (py.line == p.line) && !(scope.names.any fun (n, k) => n == x && (k == .local || k == .cell))
  | some .cell => true
  | _ => false
/-- what is let go ahead of a statement -/
def frzAll : List Nat → (Env → M Out) → Env → M Out
  | [], f => f
  | i :: is, f => sFrz i (frzAll is f)
def frzAt (c : Ct) (st : Stmt) : List Nat := c.frz.filterMap fun p => if p.1 == st.pos.line then some p.2 else none
theorem pss_frzAll {X : Cx} {S : Sta} {W : WX} {sts : List Stmt} {f : Env → M Out} (h : PVss X S W sts f) : ∀ is : List Nat, PVss X S W sts (frzAll is f)
  | [] => h
  | _ :: is => pss_frz (pss_frzAll h is)
mutual
def trS (Φ : Nat → List T → M T) (fu : Nat) : Nat → Ct → Stmt → Option (Env → M Out)
  | 0, _, _ => none
  | n + 1, c, st => match st with
    | .Expr e _ => if isComp e then none else (trE Φ n c e).map sExpr
    | .Return (some e) _ => (trE Φ n c e).map sRet
    | .Return none _ => some sRetN
    | .Pass _ => some sPass
    | .Break _ => some sBreak
    | .Continue _ => some sCont
    | .Raise _ _ _ => some sBad
    | .If t a b _ => match trT Φ n c t, trSs Φ fu n c a, trSs Φ fu n c b with
      | some ft, some fa, some fb => some (sIf ft fa fb)
      | _, _, _ => none
    | .Assign [.Name x py] (.ListComp elt gs scope p) _ => if isLoc c x && swC c x py p scope then match idx c.N x, trE Φ n c (.ListComp elt gs scope p) with
        | some i, some fe => some (sSet i fe)
        | _, _ => none else none
    | .Assign [.Name x _] e _ => if isLoc c x then match idx c.N x, trNew Φ n c x e with
        | some i, some fe => some (sSet i fe)
        | _, _ => none else none
    | .Assign [.Subscript a b _] e _ => if isSlice b || isComp e then none else match trE Φ n c e, trE Φ n c a, trE Φ n c b with
      | some fe, some fa, some fb => some (sStore fe fa fb)
      | _, _, _ => none
    | .Assign [.Attribute o f _] e _ => match trE Φ n c o, trNewA Φ n c f e with
      | some fo, some fe => some (sSetA c.Cs f fo fe)
      | _, _ => none
    | .Assign [.Tuple ts kt pt] (.Tuple vs k2 p2) _ => match swK c.sc ts vs with
      | some none => match trG n c (.Tuple ts kt pt), trE Φ n c (.Tuple vs k2 p2) with
        | some p, some fe => some (sAsg fe p.2)
        | _, _ => none
      | some (some ns) => match ts, vs with
        | [.Name x _, .Name y _], [a, b] => if decide (ns = [x, y]) && !isStar a && !isStar b then match idx c.N x, idx c.N y, trNewP Φ n c x a, trNewP Φ n c y b with
          | some i, some j, some fa, some fb => if decide (i ≠ j) && (c.sc.names.lookup x == some .local) && (c.sc.names.lookup y == some .local) then some (sPar i j fa fb) else none
          | _, _, _, _ => none else none
        | [.Name x _, .Name y _, .Name z _], [a, b, d] => if decide (ns = [x, y, z]) && !isStar a && !isStar b && !isStar d then match idx c.N x, idx c.N y, idx c.N z, trNewP Φ n c x a, trNewP Φ n c y b, trNewP Φ n c z d with
          | some i, some j, some l, some fa, some fb, some fd => if decide (i ≠ j) && decide (i ≠ l) && decide (j ≠ l) && (c.sc.names.lookup x == some .local) && (c.sc.names.lookup y == some .local) && (c.sc.names.lookup z == some .local) then some (sPar3 i j l fa fb fd) else none
          | _, _, _, _, _, _ => none else none
        | _, _ => none
      | none => none
    | .Assign [tg] e _ => if isTupE e || isComp e then none else match trG n c tg, trE Φ n c e with
      | some p, some fe => some (sAsg fe p.2)
      | _, _ => none
    | .AugAssign (.Name x _) op e _ => if isLoc c x then match idx c.N x, iOp op, trE Φ n c e with
        | some i, some g, some fe => some (sAug i g fe)
        | _, _, _ => none else none
    | .AugAssign (.Attribute o f _) op e _ => match trE Φ n c o, iOp op, trE Φ n c e with
      | some fo, some g, some fe => some (sAugA c.Cs f g fo fe)
      | _, _, _ => none
    | .For tg iter body [] _ => if isSetE iter then none else match trI Φ n c tg iter, trG n c tg, trSs Φ fu n c body with
      | some fi, some p, some fb => some (sFor fi p.2 fb)
      | _, _, _ => none
    | .While t body [] _ => match trT Φ n c t, trSs Φ fu n c body with
      | some ft, some fb => some (whileL fu ft fb)
      | _, _ => none
    | _ => none
def trSs (Φ : Nat → List T → M T) (fu : Nat) : Nat → Ct → List Stmt → Option (Env → M Out)
  | 0, _, _ => none
  | n + 1, c, sts => match sts with
    | [] => some sNil
    | st :: r => match trS Φ fu n c st, trSs Φ fu n c r with
      | some f, some g => some (frzAll (frzAt c st) (sSeq f g))
      | _, _ => none
end
section
variable {S : Sta} {Φ : Nat → List T → M T} {k fu : Nat}
theorem trNewP_ok {n : Nat} {c : Ct} {x : Str} {e : Expr} {f : Env → M T} (h : trNewP Φ n c x e = some f) {X : Cx} {W : WX} (hc : Cm S Φ k c X W) : PV X S W e f := by
  unfold trNewP at h
  split at h
  · split at h
    · obtain ⟨fa, ea, rfl⟩ := Option.map_eq_some_iff.mp h
      exact pv_new (trA_ok n c _ _ ea X W hc)
    · exact trE_ok (n + 1) c _ _ h X W hc
  · split at h
    · split at h
      · rename_i fa fb ea eb
        cases h
        exact pv_repL (trA_ok n c _ _ ea X W hc) (trE_ok n c _ _ eb X W hc)
      · cases h
    · exact trE_ok n c _ _ h X W hc
  · split at h
    · rename_i hg
      rw [Bool.and_eq_true, Bool.and_eq_true, Bool.and_eq_true, decide_eq_true_eq] at hg
      obtain ⟨⟨⟨_, rfl⟩, h1⟩, h2⟩ := hg
      split at h
      · rename_i fa eG ea
        cases h
        exact pv_callTy call_list_of (by rw [hc.hK]; exact callT_listN) (hc.glob h1) (hc.gl _ _ eG) PyProof.Rows.boot_list (trA_ok n c _ _ ea X W hc) (by decide) (by decide) (star_no (not_true h2)) rfl
      · cases h
    · exact trE_ok n c _ _ h X W hc
  · exact trE_ok n c _ _ h X W hc
theorem trNew_ok {n : Nat} {c : Ct} {x : Str} {e : Expr} {f : Env → M T} (h : trNew Φ n c x e = some f) {X : Cx} {W : WX} (hc : Cm S Φ k c X W) : PV X S W e f ∧ isComp e = false := by
  unfold trNew at h
  split at h
  · cases h
  · rename_i hq
    exact ⟨trNewP_ok h hc, by simpa using hq⟩
theorem trNewA_ok {n : Nat} {c : Ct} {x : Str} {e : Expr} {f : Env → M T} (h : trNewA Φ n c x e = some f) {X : Cx} {W : WX} (hc : Cm S Φ k c X W) : PV X S W e f := by
  unfold trNewA at h
  split at h
  · split at h
    · obtain ⟨fa, ea, rfl⟩ := Option.map_eq_some_iff.mp h
      exact pv_new (trA_ok n c _ _ ea X W hc)
    · exact trE_ok (n + 1) c _ _ h X W hc
  · exact trE_ok n c _ _ h X W hc
/-- name = [..] -/
theorem setComp_ok {n : Nat} {c : Ct} {x : Str} {py p pos : Pos} {elt : Expr} {gs : List Comprehension} {scope : Scope} {i : Nat} {fe : Env → M T} (hl : isLoc c x = true)
    (hq : swC c x py p scope = true)
    (hi : idx c.N x = some i) (h : trE Φ n c (.ListComp elt gs scope p) = some fe) {X : Cx} {W : WX} (hc : Cm S Φ k c X W) : PVs X S W (.Assign [.Name x py] (.ListComp elt gs scope p) pos) (sSet i fe) := by
  unfold swC at hq
  split at hq
  · rename_i hk
    rw [Bool.and_eq_true, Bool.not_eq_true'] at hq
    cases n with
    | zero => simp only [trE] at h; cases h
    | succ n =>
      unfold trE at h
      split at h <;> first | (rename_i q; cases q; done) | skip
      all_goals first
        | (rename_i q; injection q; done)
        | skip
      · rename_i elt' tg iter ifs tg1 iter1 ifs1 scope' pos' q
        cases q
        split at h
        · rename_i hg
          rw [Bool.and_eq_true, Bool.and_eq_true] at hg
          split at h
          · rename_i fi pp fc fi1 p1 fc1 fa ei ep ec ei1 ep1 ec1 ea
            split at h
            · rename_i hv
              rw [Bool.and_eq_true] at hv
              cases h
              have ok : BlkOk X.N X.env.scope scope (ownOf c.N scope) := by rw [hc.hN, hc.sc]; exact blkOk_by hg.1.1
              have hkx : X.env.scope.names.lookup x = some .local := by rw [hc.sc]; exact hk
              exact ps_of_setLc2 hc.calm hc.nodup (hc.ix hi) hkx (sw_true (by rw [hc.sc]; exact hc.kd) hkx hq.1 hq.2) (trI_ok n c _ _ _ ei X W hc) ok (fun i hi => of_decide_eq_true (List.all_eq_true.mp hv.1 i hi)) (fun i hi => of_decide_eq_true (List.all_eq_true.mp hv.2 i hi))
                (fun s H C cl fp => trG_ok n (c.blk scope) tg pp ep _ W0 (hc.blk ok s H C cl fp)) (fun s H C cl fp => trIf_ok n (c.blk scope) ifs fc ec _ W0 (hc.blk ok s H C cl fp))
                (fun s H C cl fp => trI_ok n (c.blk scope) tg1 iter1 fi1 ei1 _ W0 (hc.blk ok s H C cl fp)) (fun s H C cl fp => trG_ok n (c.blk scope) tg1 p1 ep1 _ W0 (hc.blk ok s H C cl fp)) (fun s H C cl fp => trIf_ok n (c.blk scope) ifs1 fc1 ec1 _ W0 (hc.blk ok s H C cl fp))
                (fun s H C cl fp => trE_ok n (c.blk scope) elt fa ea _ W0 (hc.blk ok s H C cl fp)) (foldSet (not_true hg.1.2)) (fun env x => foldSet (not_true hg.2) x)
            · cases h
          · cases h
        · cases h
      · rename_i elt' tg iter ifs scope' pos' q
        cases q
        split at h
        · rename_i hg
          rw [Bool.and_eq_true] at hg
          split at h
          · rename_i fi pp fc fa ei ep ec ea
            split at h
            · rename_i hv
              cases h
              have ok : BlkOk X.N X.env.scope scope (ownOf c.N scope) := by rw [hc.hN, hc.sc]; exact blkOk_by hg.1
              have hkx : X.env.scope.names.lookup x = some .local := by rw [hc.sc]; exact hk
              exact ps_of_setLc hc.calm hc.nodup (hc.ix hi) hkx (sw_true (by rw [hc.sc]; exact hc.kd) hkx hq.1 hq.2) (trI_ok n c _ _ _ ei X W hc) ok (fun i hi => of_decide_eq_true (List.all_eq_true.mp hv i hi))
                (fun s H C cl fp => trG_ok n (c.blk scope) tg pp ep _ W0 (hc.blk ok s H C cl fp)) (fun s H C cl fp => trIf_ok n (c.blk scope) ifs fc ec _ W0 (hc.blk ok s H C cl fp))
                (fun s H C cl fp => trE_ok n (c.blk scope) elt fa ea _ W0 (hc.blk ok s H C cl fp)) (foldSet (not_true hg.2))
            · cases h
          · cases h
        · cases h
      · cases h
  · rename_i hk
    exact ps_of_set hc.nodup (hc.ix hi) (hc.loc hl).1 (trE_ok n c _ _ h X W hc) (sw_cell (by rw [hc.sc]; exact hk)) (hc.loc hl).2
  · cases hq
mutual
theorem trS_ok : ∀ (n : Nat) (c : Ct) (st : Stmt) (f : Env → M Out), trS Φ fu n c st = some f → ∀ (X : Cx) (W : WX), Cm S Φ k c X W → PVs X S W st f
  | 0, _, _, _, h => by simp only [trS] at h; cases h
  | n + 1, c, st, f, h => by
    intro X W hc
    unfold trS at h
    split at h
    · split at h
      · cases h
      · rename_i hq
        obtain ⟨fa, ea, rfl⟩ := Option.map_eq_some_iff.mp h
        exact ps_of_expr (trE_ok n c _ _ ea X W hc) (noSwap (by simpa using hq))
    · obtain ⟨fa, ea, rfl⟩ := Option.map_eq_some_iff.mp h
      exact ps_of_ret (trE_ok n c _ _ ea X W hc)
    · cases h; exact ps_of_retN
    · cases h; exact ps_of_pass
    · cases h; exact ps_of_break
    · cases h; exact ps_of_cont
    · cases h; exact ps_of_bad
    · split at h
      · rename_i ft fa fb et ea eb
        cases h
        exact ps_of_if (trT_ok n c _ _ et X W hc) (trSs_ok n c _ _ ea X W hc) (trSs_ok n c _ _ eb X W hc)
      · cases h
    · split at h
      · rename_i hq
        rw [Bool.and_eq_true] at hq
        split at h
        · rename_i i fe ei ee
          cases h
          exact setComp_ok hq.1 hq.2 ei ee hc
        · cases h
      · cases h
    · split at h
      · rename_i hl
        split at h
        · rename_i i fe ei ee
          cases h
          obtain ⟨h1, h2⟩ := trNew_ok ee hc
          exact ps_of_set hc.nodup (hc.ix ei) (hc.loc hl).1 h1 (noSwap h2) (hc.loc hl).2
        · cases h
      · cases h
    · -- x[i] = e
      split at h
      · cases h
      · rename_i hq
        rw [Bool.or_eq_true, not_or] at hq
        split at h
        · rename_i fe fa fb ee ea eb
          cases h
          exact ps_of_store hc.room (trE_ok n c _ _ ee X W hc) (trE_ok n c _ _ ea X W hc) (trE_ok n c _ _ eb X W hc) (noSwapS (by simpa using hq.2)) (noParS _ _ _ _ _) (assignSub (by simpa using hq.1))
        · cases h
    · -- o.f = e
      split at h
      · rename_i fo fe eo ee
        cases h
        exact ps_of_setA hc.hK hc.cls (trE_ok n c _ _ eo X W hc) (trNewA_ok ee hc) noSwapA
      · cases h
    · -- a, b = x, y
      rename_i ts kt pt vs k2 p2 pos
      split at h
      · rename_i es
        split at h
        · rename_i p fe ep ee
          cases h
          exact ps_of_asg (trE_ok n c _ _ ee X W hc) (trG_ok n c _ p ep X W hc) rfl (swK_ok hc.sc es) (assign_no (noStarG ep))
        · cases h
      · rename_i ns es
        split at h
        · split at h
          · rename_i hq
            rw [Bool.and_eq_true, Bool.and_eq_true, decide_eq_true_eq] at hq
            obtain ⟨⟨rfl, h1⟩, h2⟩ := hq
            split at h
            · rename_i i j fa fb ei ej ea eb
              split at h
              · rename_i hl
                rw [Bool.and_eq_true, Bool.and_eq_true, decide_eq_true_eq, beq_iff_eq, beq_iff_eq] at hl
                cases h
                exact ps_of_par hc.calm hc.nodup (hc.ix ei) (hc.ix ej) hl.1.1 (by rw [hc.sc]; exact hl.1.2) (by rw [hc.sc]; exact hl.2) (pva_cons (trNewP_ok ea hc) (pva_cons (trNewP_ok eb hc) pva_nil (star_no (not_true h2))) (star_no (not_true h1))) (swK_ok hc.sc es) rfl
              · cases h
            · cases h
          · cases h
        · split at h
          · rename_i hq
            rw [Bool.and_eq_true, Bool.and_eq_true, Bool.and_eq_true, decide_eq_true_eq] at hq
            obtain ⟨⟨⟨rfl, h1⟩, h2⟩, h3⟩ := hq
            split at h
            · rename_i i j l fa fb fd ei ej el ea eb ed
              split at h
              · rename_i hl
                rw [Bool.and_eq_true, Bool.and_eq_true, Bool.and_eq_true, Bool.and_eq_true, Bool.and_eq_true, decide_eq_true_eq, decide_eq_true_eq, decide_eq_true_eq, beq_iff_eq, beq_iff_eq, beq_iff_eq] at hl
                cases h
                exact ps_of_par3 hc.calm hc.nodup (hc.ix ei) (hc.ix ej) (hc.ix el) hl.1.1.1.1.1 hl.1.1.1.1.2 hl.1.1.1.2 (by rw [hc.sc]; exact hl.1.1.2) (by rw [hc.sc]; exact hl.1.2) (by rw [hc.sc]; exact hl.2) (pva_cons (trNewP_ok ea hc) (pva_cons (trNewP_ok eb hc) (pva_cons (trNewP_ok ed hc) pva_nil (star_no (not_true h3))) (star_no (not_true h2))) (star_no (not_true h1))) (swK_ok hc.sc es) rfl
              · cases h
            · cases h
          · cases h
        · cases h
      · cases h
    · split at h
      · cases h
      · rename_i hq
        split at h
        · rename_i p fe ep ee
          cases h
          rw [Bool.or_eq_true, not_or] at hq
          exact ps_of_asg (trE_ok n c _ _ ee X W hc) (trG_ok n c _ p ep X W hc) (noSwap (by simpa using hq.2)) (noPar (by simpa using hq.1)) (assign_no (noStarG ep))
        · cases h
    · split at h
      · rename_i hl
        split at h
        · rename_i i g fe ei eg ee
          cases h
          obtain ⟨r, h1, h2⟩ := iOp_ok (X := X) (S := S) eg
          exact ps_of_aug hc.nodup (hc.ix ei) (hc.loc hl).1 (trE_ok n c _ _ ee X W hc) h1 h2 (hc.loc hl).2
        · cases h
      · cases h
    · split at h
      · rename_i fo g fe eo eg ee
        cases h
        obtain ⟨r, h1, h2⟩ := iOp_ok (X := X) (S := S) eg
        exact ps_of_augA hc.hK hc.cls (trE_ok n c _ _ eo X W hc) (trE_ok n c _ _ ee X W hc) h1 h2
      · cases h
    · split at h
      · cases h
      · rename_i hq
        split at h
        · rename_i fi p fb ei ep eb
          cases h
          exact ps_of_for hc.pass hc.calm (trI_ok n c _ _ _ ei X W hc) (trG_ok n c _ p ep X W hc) (trSs_ok n c _ _ eb X W hc) (foldSet (by simpa using hq))
        · cases h
    · split at h
      · rename_i ft fb et eb
        cases h
        exact ps_of_while fu hc.pass (trT_ok n c _ _ et X W hc) (trSs_ok n c _ _ eb X W hc)
      · cases h
    · cases h
theorem trSs_ok : ∀ (n : Nat) (c : Ct) (sts : List Stmt) (f : Env → M Out), trSs Φ fu n c sts = some f → ∀ (X : Cx) (W : WX), Cm S Φ k c X W → PVss X S W sts f
  | 0, _, _, _, h => by simp only [trSs] at h; cases h
  | n + 1, c, sts, f, h => by
    intro X W hc
    unfold trSs at h
    split at h
    · cases h; exact pss_of_nil
    · split at h
      · rename_i f g ef eg
        cases h
        exact pss_frzAll (pss_of_cons (trS_ok n c _ _ ef X W hc) (trSs_ok n c _ _ eg X W hc)) _
      · cases h
end
end
end Tw

/-! Tw12: a program of defs, a law's end -/
namespace Tw
open PySem L2
/-- a def of the text: its slots (parameters first), the names of lists that are changed, what it does -/
structure FE where
  x : Str
  qual : Str
  st : Stmt
  ps : List Str
  N : List Str
  chg : List Str
  frz : List (Nat × Nat)
  kw : Option Str
  b : Option ((Nat → List T → M T) → Env → M Out)
def Ph0 (tab : List FE) : Nat → Nat → List T → M T
  | 0, _ => fun _ => bad
  | k + 1, i => match tab[i]? with
    | some e => match e.b with
      | some b => pureC (fnD e.N.length (b (Ph0 tab k)))
      | none => fun _ => bad
    | none => fun _ => bad
@[irreducible] def Ph (tab : List FE) (k i : Nat) : List T → M T := Ph0 tab k i
theorem Ph_eq : @Ph = @Ph0 := by funext tab k i; unfold Ph; rfl
theorem Ph_zero (tab : List FE) (i : Nat) : Ph tab 0 i = fun _ => bad := by rw [Ph_eq]; rfl
theorem Ph_succ (tab : List FE) (k i : Nat) : Ph tab (k + 1) i = match tab[i]? with
    | some e => match e.b with
      | some b => pureC (fnD e.N.length (b (Ph tab k)))
      | none => fun _ => bad
    | none => fun _ => bad := by rw [Ph_eq]; rfl
def ctOf (G : Str → Option Gl0) (Cs : List CE) (e : FE) : Ct := { N := e.N, sc := defScope e.st, fv := fun _ => true, G := G, chg := e.chg, frz := e.frz, Cs := Cs }
/-- the text's own facts of a def -/
structure FEok (S : Sta) (e : FE) (f : Addr) (fd : FuncData) : Prop where
  fn : ∃ dvs, FunD S.K e.x e.qual (defArgs e.st) (defBody e.st) (defScope e.st) dvs [] f fd
  sc : FnScope e.N e.ps (defScope e.st)
  bd : Binds S.K fd e.ps []
  kw : ∀ x, e.kw = some x → Binds S.K fd e.ps [Value.none] ∧ ∀ m, e.ps.length = m + 1 → KBn S.K fd e.ps m [x] (fun us ws => us ++ ws) (fun vs zs => vs ++ zs)
theorem funD_of {K : PySem.W.Frag} {x qual : Str} {st : Stmt} {f : Addr} {fd : FuncData} (F : Fun K x qual st f fd) : FunD K x qual (defArgs st) (defBody st) (defScope st) [] [] f fd := by
  obtain ⟨oc, od, kV, doc, pm, an, cdv, ct, osl, h1, h2, h3⟩ := F.ex
  exact ⟨⟨oc, od, .none, kV, doc, pm, an, cdv, ct, osl, h1, h2, h3, .inl ⟨rfl, rfl⟩, .inl rfl⟩, F.kp⟩
/-- a def whose last parameter has None as its default -/
theorem funD_mk {K : PySem.W.Frag} {x qual : Str} {st : Stmt} {f T : Addr} {oc : Value} {od an dd : Option Addr} {osl sl2 : Array (Option Value)} {kV doc pm cdv ct tc : Value} {n : Nat} (l : K.lookup f = some ⟨oc, od, .func (PySem.W.fnOf x qual (defArgs st) (defBody st) (defScope st) (.ref T) kV doc pm an cdv ct), osl⟩)
    (c : PySem.W.codeIn K cdv qual = true) (k : PySem.W.keepIn K (.ref f) = true) (lT : K.lookup T = some ⟨tc, dd, .seq #[Value.none] n, sl2⟩) : FunD K x qual (defArgs st) (defBody st) (defScope st) [.non] [] f (PySem.W.fnOf x qual (defArgs st) (defBody st) (defScope st) (.ref T) kV doc pm an cdv ct) :=
  ⟨⟨oc, od, .ref T, kV, doc, pm, an, cdv, ct, osl, rfl, l, c, .inr ⟨by simp, T, _, [Value.none], n, rfl, lT, rfl, .cons rfl .nil⟩, .inl rfl⟩, k⟩
theorem fn_okD {S : Sta} {P : Program} {w : World} {mg : Str → Option Value} {base : Heap} {x qual : Str} {st : Stmt} {f : Addr} {fd : FuncData} {N ps : List Str} {k : Nat} {b : Env → M Out} {dvs : List V} (F : FunD S.K x qual (defArgs st) (defBody st) (defScope st) dvs [] f fd) (Sc : FnScope N ps (defScope st))
    (body : ∀ (cdv : Value) (A : Around) (outer : List PySem.Env) (s : Shared) (H : Hp) (E : XK), Room k (A.deeper (PyProof.Rows.envOfC qual (defScope st) s.heap.objs.size f cdv)) →
      PVss (cxOf (L2.CX P w) P w S.K mg base N qual (defScope st) f cdv A outer s H E) S (fun cls d _ H => E cls d H) (defBody st) b) :
    FnOk P w S.K mg base (L2.CX P w) (k + 1) f fd ps (spT S ps.length (fnD N.length b)) := by
  refine F.ok Sc (fun vs H Q E h => h.1) (fun cdv A outer s H vs Q E hr h => ?_)
  obtain ⟨hl, ts, ι, μ, r, hs, h⟩ := h
  refine ⟨_, body cdv A outer s H E hr, _, ι, μ, start_rep r, hs, ?_⟩
  unfold fnD at h
  cases e : b (ts.map some ++ List.replicate (N.length - ts.length) none) μ with
  | bad => rw [e] at h; exact h.elim
  | ex x μ1 =>
    rw [e] at h
    exact h.elim
  | ok o μ1 =>
    rw [e] at h
    cases o with
    | nx ρ => exact fun σ' H' ι' f' s' r' => h .non H' ι' f' s' .non
    | rt t => exact h
    | xx ρ x => exact fun σ' cls d H' ι' f' s' r' rx => h cls d H' ι' f' s' rx
    | bk ρ => exact h.elim
    | ct ρ => exact h.elim
/-- the classes' defs are those of the table -/
def csB (tab : List FE) (Cs : List CE) : Bool := Cs.all fun e => (e.ms.all fun p => match tab[p.2.1]? with | some f => f.ps.length == p.2.2 | none => false) && (e.pr.all fun p => match tab[p.2]? with | some f => f.ps.length == 1 | none => false) &&
  (match e.ini with | some (j, n, kw) => (match tab[j]? with | some f => f.ps.length == n && f.kw == kw | none => false) | none => true)
def GG (S : Sta) (mg : Str → Option Value) (tab : List FE) (x : Str) : Gl0 → Prop
  | .fn i n => ∃ e f, tab[i]? = some e ∧ n = e.ps.length ∧ S.fa i = some f ∧ mg x = some (.ref f)
  | .kon t => ∃ u v, mg x = some u ∧ RelV v u ∧ ∀ H ι, Rep S H ι v t
  | .blt => mg x = none
theorem fn_bad {P : Program} {w : World} {K : PySem.W.Frag} {mg : Str → Option Value} {base : Heap} {CX : CXT} {k : Nat} {f : Addr} {fd : FuncData} {ps : List Str} {S : Sta} : FnOk P w K mg base CX k f fd ps (spT S ps.length fun _ => bad) :=
  ⟨fun vs H Q E h => h.1, fun A outer s H args us vs Q E _ _ _ _ h => by
    obtain ⟨_, _, _, _, _, _, z⟩ := h
    exact z.elim⟩
theorem all_ok {S : Sta} {P : Program} {w : World} {mg : Str → Option Value} {base : Heap} {tab : List FE} {G : Str → Option Gl0} {Cs : List CE} {fu : Nat}
    (facts : ∀ (i : Nat) (e : FE), tab[i]? = some e → ∃ f fd, S.fa i = some f ∧ FEok S e f fd)
    (tr : ∀ (i : Nat) (e : FE), tab[i]? = some e → ∀ b, e.b = some b → ∀ Φ, trSs Φ fu 200 (ctOf G Cs e) (defBody e.st) = some (b Φ))
    (hG : ∀ x g, G x = some g → GG S mg tab x g) (hB : csB tab Cs = true) (hCs : ∀ (i : Nat) e, Cs[i]? = some e → ∃ C, S.ca i = some C ∧ CEok S e C) :
    ∀ (k i : Nat) (e : FE), tab[i]? = some e → ∃ f fd, S.fa i = some f ∧ FEok S e f fd ∧ FnOk P w S.K mg base (L2.CX P w) (2 * k) f fd e.ps (spT S e.ps.length (Ph tab k i)) := by
  intro k
  induction k with
  | zero =>
    intro i e hi
    obtain ⟨f, fd, h1, h2⟩ := facts i e hi
    exact ⟨f, fd, h1, h2, by rw [Ph_zero]; exact fn_bad⟩
  | succ k ih =>
    intro i e hi
    obtain ⟨f, fd, h1, h2⟩ := facts i e hi
    refine ⟨f, fd, h1, h2, ?_⟩
    cases eb : e.b with
    | none =>
      have : Ph tab (k + 1) i = fun _ => bad := by
        rw [Ph_succ, hi]
        dsimp only
        rw [eb]
      rw [this]
      exact fn_bad
    | some b =>
      have : Ph tab (k + 1) i = pureC (fnD e.N.length (b (Ph tab k))) := by
        rw [Ph_succ, hi]
        dsimp only
        rw [eb]
      rw [this]
      obtain ⟨dvs, h2f⟩ := h2.fn
      refine FnOk.imp (fn_okD (b := b (Ph tab k)) (k := 2 * k + 1) h2f h2.sc fun cdv A outer s H E hr => ?_) spT_pure
      refine trSs_ok (k := 2 * k) 200 (ctOf G Cs e) (defBody e.st) (b (Ph tab k)) (tr i e hi b eb (Ph tab k)) _ _ ?_
      refine ⟨rfl, rfl, h2.sc.nd, rfl, h2.sc.kind, rfl, fun _ _ => rfl, takes_of rfl rfl rfl rfl, passes_of rfl, hr, ?_, fun x g eg => ?_⟩
      · intro ci ce hce
        obtain ⟨C, hC, ok⟩ := hCs ci ce hce
        have hb := List.all_eq_true.mp hB ce (List.mem_iff_getElem?.mpr ⟨ci, hce⟩)
        rw [Bool.and_eq_true, Bool.and_eq_true] at hb
        refine ⟨C, hC, ok, fun m j n hm => ?_, fun p j hm => ?_, fun j n kw hm => ?_⟩
        · have q := List.all_eq_true.mp hb.1.1 _ hm
          dsimp only at q
          split at q
          · rename_i e' hj
            obtain ⟨f2, fd2, g1, g2, g3⟩ := ih j e' hj
            rw [beq_iff_eq] at q
            subst q
            exact ⟨f2, g1, (let ⟨_, z⟩ := g2.fn; z.kp), fd2, e'.ps, g3, g2.bd⟩
          · cases q
        · have q := List.all_eq_true.mp hb.1.2 _ hm
          dsimp only at q
          split at q
          · rename_i e' hj
            obtain ⟨f2, fd2, g1, g2, g3⟩ := ih j e' hj
            rw [beq_iff_eq] at q
            rw [q] at g3
            exact ⟨f2, g1, (let ⟨_, z⟩ := g2.fn; z.kp), fd2, e'.ps, g3, g2.bd⟩
          · cases q
        · have q := hb.2
          rw [hm] at q
          dsimp only at q
          split at q
          · rename_i e' hj
            obtain ⟨f2, fd2, g1, g2, g3⟩ := ih j e' hj
            rw [Bool.and_eq_true, beq_iff_eq, beq_iff_eq] at q
            obtain ⟨q1, q2⟩ := q
            subst q1
            exact ⟨f2, g1, fd2, e'.ps, g3, g2.bd, fun x hx => g2.kw x (q2.trans hx)⟩
          · cases q
      · have q := hG x g eg
        cases g with
        | fn j n =>
          obtain ⟨e', f', hj, rfl, hf, hm⟩ := q
          obtain ⟨f2, fd2, g1, g2, g3⟩ := ih j e' hj
          rw [hf] at g1
          cases g1
          exact ⟨f', fd2, e'.ps, hf, hm, (let ⟨_, z⟩ := g2.fn; z.kp), g3, g2.bd, rfl⟩
        | kon t => exact q
        | blt => exact q
/-- the law's promise: a list of at most 63 ints is handed in, True comes out -/
def spLaw (K : PySem.W.Frag) : Sp := fun vs H Q _ => ∃ (a : Addr) (ns : List Int), vs = [.ref a] ∧ SqL K H a (ns.map V.int) ∧ ns.length ≤ 63 ∧ ∀ H', Q (.bl true) H'
theorem law_sp {S : Sta} {g : List T → M T} (plain : ∀ ns : List Int, ns.length ≤ 63 → ∃ μ, g [.scr (ns.map T.int)] [] = .ok (.bl true) μ) (vs : List V) (H : Hp) (Q : VK) (E : XK) (h : spLaw S.K vs H Q E) : spT S 1 g vs H Q E := by
  obtain ⟨a, ns, rfl, hS, hl, q⟩ := h
  obtain ⟨μ, e⟩ := plain ns hl
  refine ⟨rfl, [.scr (ns.map T.int)], ⟨[], []⟩, [], .cons (.scr ?_ (reps_of_ints ns)) .nil, ⟨rfl, fun m n a h => by simp at h, fun n o h => by simp at h, fun n h => by simp at h, fun a h => by simp at h⟩, ?_⟩
  · rcases hS with h | h
    · exact .inl ⟨fun z => by rcases z with z | z <;> simp at z, h⟩
    · exact .inr h
  · rw [e]
    intro v H' ι' _ _ r
    cases r
    exact q H'
theorem no_cx {P : Program} {w : World} {H : Hp} {s : Shared} {e : Value} {s' : Shared} (h : L2.CX P w [] H s (fun _ _ _ => False) e s') : False := by
  obtain ⟨_, _, _, _, _, _, _, _, _, _, _, _, z⟩ := h
  exact z
theorem fd_inj {S : Sta} {e : FE} {f : Addr} {fd : FuncData} {fd' : FuncData} {oc : Value} {od : Option Addr} {sl : Array (Option Value)} (F : FEok S e f fd) (l : S.K.lookup f = some ⟨oc, od, .func fd', sl⟩) : fd = fd' := by
  obtain ⟨_, F⟩ := F.fn
  obtain ⟨_, _, _, _, _, _, _, _, _, _, _, h, _⟩ := F.ex
  rw [l] at h
  cases h
  rfl
theorem walkT {l : PySem.W.OpenLaw} {q : Program} {loose : List Str} {XP : (Str → Option Value) → Heap → Prop} {YP : World → Heap → Prop} {d : DefRec} {K : Params → PySem.W.Frag} {x : Str} (hn : l.most = some 63) (hdf : d.params.defaults = [])
    (hY : ∀ (w : World) (h : Heap), YP w h → (K w.params).In h)
    (F : ∀ (w : World) (mg : Str → Option Value) (fa : Addr) (h : Heap), (K w.params).In h → h.Ns mainGlobals mg → mg d.name = some (.ref fa) →
      ∃ fd : FuncData, (∀ (s : Shared) (u : Value), BindsTo s fd ⟨[u], []⟩ [(x, u)]) ∧ ∀ base : Heap, (K w.params).In base → base.Ns mainGlobals mg → FnOk l.prog w (K w.params) mg base (L2.CX l.prog w) 80 fa fd [x] (spLaw (K w.params))) :
    PySem.W.WalkO q loose XP YP l.row.toRowW d [] (fun f vs => PySem.call f vs) :=
  L2.walk_of (n := 63) (k := 80) (x := x) (CX := fun w => L2.CX l.prog w) (sp := fun w => spLaw (K w.params)) hn (by decide) hdf ⟨rfl, by decide, by decide⟩ hY F (fun _ _ a ns hl _ hS => ⟨a, ns, rfl, hS, hl, fun _ => rfl⟩) fun _ _ _ _ _ z => no_cx z
end Tw

/-! TwL: laws of the combinators, for the plain part -/
namespace Tw
open PySem L2
def Ok {α : Type} (r : Res α) (P : α → Store → Prop) (E : Exc → Store → Prop) : Prop := match r with
  | .ok a μ => P a μ
  | .ex e μ => E e μ
  | .bad => False
section
variable {α β : Type} {P : α → Store → Prop} {E : Exc → Store → Prop} {μ : Store}
theorem Ok.mono {r : Res α} {Q : α → Store → Prop} {F : Exc → Store → Prop} (h : Ok r P E) (q : ∀ a μ, P a μ → Q a μ) (x : ∀ e μ, E e μ → F e μ) : Ok r Q F := by
  cases r with
  | ok a μ => exact q a μ h
  | ex e μ => exact x e μ h
  | bad => exact h
theorem Ok.imp {r : Res α} {Q : α → Store → Prop} {F : Exc → Store → Prop} (h : Ok r P fun _ _ => False) (q : ∀ a μ, P a μ → Q a μ) : Ok r Q F := h.mono q fun _ _ z => z.elim
theorem Ok.of_eq {r : Res α} {a : α} (e : r = .ok a μ) (h : P a μ) : Ok r P E := by rw [e]; exact h
theorem Ok.ex {r : Res α} {a : α} (h : Ok r (fun t _ => t = a) fun _ _ => False) : ∃ μ, r = .ok a μ := by
  cases r with
  | ok b μ => cases h; exact ⟨μ, rfl⟩
  | ex e μ => exact h.elim
  | bad => exact h.elim
theorem ok_ok {a : α} : Ok (.ok a μ) P E = P a μ := rfl
theorem ok_ex {e : Exc} : Ok (.ex e μ) P E = E e μ := rfl
theorem ok_no : Ok (Res.bad : Res α) P E = False := rfl
theorem ok_ret {a : α} : Ok (ret a μ) P E = P a μ := rfl
theorem ok_bad : Ok (bad (α := α) μ) P E = False := rfl
theorem ok_bnd {m : M β} {k : β → M α} : Ok (bnd m k μ) P E = Ok (m μ) (fun a μ' => Ok (k a μ') P E) E := by
  unfold bnd
  cases m μ <;> rfl
theorem ok_bndS {Q : Out → Store → Prop} {m : M β} {k : β → M Out} {ρ : Env} : Ok (bndS m ρ k μ) Q E = Ok (m μ) (fun a μ' => Ok (k a μ') Q E) (fun e μ' => Q (.xx ρ e) μ') := by
  unfold bndS
  cases m μ <;> rfl
theorem ok_if {c : Bool} {a b : M α} : Ok ((if c then a else b) μ) P E = if c then Ok (a μ) P E else Ok (b μ) P E := by cases c <;> rfl
theorem ok_noX {m : M α} : Ok (noX m μ) P E = Ok (m μ) P (fun _ _ => False) := by
  unfold noX
  cases m μ <;> rfl
end
section
variable {μ : Store} {ρ : Env} {P : T → Store → Prop} {E : Exc → Store → Prop} {a b c : Env → M T} {as : Env → M (List T)}
theorem ok_cVar {i : Nat} {t : T} (h : ρ[i]? = some (some t)) : Ok (cVar i ρ μ) P E = P t μ := by unfold cVar; rw [h]; rfl
theorem cVar_eq {i : Nat} : cVar i ρ μ = match ρ[i]? with
  | some (some t) => .ok t μ
  | _ => .bad := by
  unfold cVar
  cases ρ[i]? with
  | none => rfl
  | some o => cases o <;> rfl
theorem ok_cK {t : T} : Ok (cK t ρ μ) P E = P t μ := rfl
theorem ok_c1 {g : T → M T} : Ok (c1 g a ρ μ) P E = Ok (a ρ μ) (fun x μ' => Ok (g x μ') P E) E := ok_bnd
theorem ok_c2 {g : T → T → M T} : Ok (c2 g a b ρ μ) P E = Ok (a ρ μ) (fun x μ' => Ok (b ρ μ') (fun y μ'' => Ok (g x y μ'') P E) E) E := by
  unfold c2; rw [ok_bnd]; simp only [ok_bnd]
theorem ok_cN {g : List T → M T} : Ok (cN g as ρ μ) P E = Ok (as ρ μ) (fun x μ' => Ok (g x μ') P E) E := ok_bnd
theorem ok_aNil {P : List T → Store → Prop} : Ok (aNil ρ μ) P E = P [] μ := rfl
theorem ok_aCons {P : List T → Store → Prop} : Ok (aCons a as ρ μ) P E = Ok (a ρ μ) (fun x μ' => Ok (as ρ μ') (fun y μ'' => P (x :: y) μ'') E) E := by
  unfold aCons; rw [ok_bnd]; simp only [ok_bnd, ok_ret]
theorem ok_aStar {P : List T → Store → Prop} : Ok (aStar a as ρ μ) P E = Ok (a ρ μ) (fun x μ' => Ok (mSeq x μ') (fun xs μ1 => Ok (as ρ μ1) (fun y μ'' => P (xs ++ y) μ'') E) E) E := by
  unfold aStar; rw [ok_bnd]; simp only [ok_bnd, ok_ret]
theorem ok_cTest {P : Bool → Store → Prop} : Ok (cTest a ρ μ) P E = Ok (a ρ μ) (fun x μ' => match x with
  | .bl b => P b μ'
  | _ => False) E := by
  unfold cTest; rw [ok_bnd]; congr 1; funext x μ'; cases x <;> rfl
theorem ok_cTru {P : Bool → Store → Prop} : Ok (cTru a ρ μ) P E = Ok (a ρ μ) (fun x μ' => Ok (mTru x μ') P E) E := ok_bnd
theorem ok_cAnd {x y : Env → M Bool} {P : Bool → Store → Prop} : Ok (cAnd x y ρ μ) P E = Ok (x ρ μ) (fun k μ' => if k then Ok (y ρ μ') P E else P false μ') E := by
  unfold cAnd; rw [ok_bnd]; congr 1; funext k μ'; cases k <;> rfl
theorem ok_cOr {x y : Env → M Bool} {P : Bool → Store → Prop} : Ok (cOr x y ρ μ) P E = Ok (x ρ μ) (fun k μ' => if k then P true μ' else Ok (y ρ μ') P E) E := by
  unfold cOr; rw [ok_bnd]; congr 1; funext k μ'; cases k <;> rfl
theorem ok_cNot {x : Env → M Bool} {P : Bool → Store → Prop} : Ok (cNot x ρ μ) P E = Ok (x ρ μ) (fun k μ' => P (!k) μ') E := ok_bnd
theorem ok_cYes {P : Bool → Store → Prop} : Ok (cYes ρ μ) P E = P true μ := rfl
theorem ok_cIf {x : Env → M Bool} : Ok (cIf x a b ρ μ) P E = Ok (x ρ μ) (fun k μ' => if k then Ok (a ρ μ') P E else Ok (b ρ μ') P E) E := by
  unfold cIf; rw [ok_bnd]; congr 1; funext k μ'; cases k <;> rfl
theorem ok_cAndT : Ok (cAndT a b ρ μ) P E = Ok (a ρ μ) (fun x μ' => Ok (mTru x μ') (fun k μ1 => if k then Ok (b ρ μ1) P E else P x μ1) E) E := by
  unfold cAndT; rw [ok_bnd]; congr 1; funext x μ'; rw [ok_bnd]; congr 1; funext k μ1; cases k <;> rfl
theorem ok_cOrT : Ok (cOrT a b ρ μ) P E = Ok (a ρ μ) (fun x μ' => Ok (mTru x μ') (fun k μ1 => if k then P x μ1 else Ok (b ρ μ1) P E) E) E := by
  unfold cOrT; rw [ok_bnd]; congr 1; funext x μ'; rw [ok_bnd]; congr 1; funext k μ1; cases k <;> rfl
theorem ok_cNotT : Ok (cNotT a ρ μ) P E = Ok (a ρ μ) (fun x μ' => Ok (mTru x μ') (fun k μ1 => P (.bl (!k)) μ1) E) E := by
  unfold cNotT; rw [ok_bnd]; congr 1; funext x μ'; rw [ok_bnd]; rfl
theorem ok_cChain {g g' : T → T → M T} : Ok (cChain g g' a b c ρ μ) P E = Ok (a ρ μ) (fun x μ1 => Ok (b ρ μ1) (fun y μ2 => Ok (g x y μ2) (fun z μ3 => match z with
    | .bl true => Ok (c ρ μ3) (fun w μ4 => Ok (g' y w μ4) P E) E
    | .bl false => P (.bl false) μ3
    | _ => False) E) E) E := by
  unfold cChain; rw [ok_bnd]; congr 1; funext x μ1; rw [ok_bnd]; congr 1; funext y μ2; rw [ok_bnd]; congr 1; funext z μ3
  cases z with
  | bl k => cases k with
    | true => exact ok_bnd
    | false => rfl
  | _ => rfl
theorem ok_cCall {n : Nat} {g : List T → M T} : Ok (cCall n g as ρ μ) P E = Ok (as ρ μ) (fun ts μ' => if ts.length = n then Ok (g ts μ') P E else False) E := by
  unfold cCall; rw [ok_bnd]; congr 1; funext ts μ'
  split <;> rfl
theorem ok_cSlice {lo hi : Env → M (Option Int)} : Ok (cSlice a lo hi ρ μ) P E = Ok (a ρ μ) (fun x μ1 => Ok (lo ρ μ1) (fun l μ2 => Ok (hi ρ μ2) (fun h μ3 => Ok (mCut x l h μ3) P E) E) E) E := by
  unfold cSlice; rw [ok_bnd]; congr 1; funext x μ1; rw [ok_bnd]; congr 1; funext l μ2; exact ok_bnd
theorem ok_oNone {P : Option Int → Store → Prop} : Ok (oNone ρ μ) P E = P none μ := rfl
theorem ok_oSome {P : Option Int → Store → Prop} : Ok (oSome a ρ μ) P E = Ok (a ρ μ) (fun x μ' => match x with
  | .int i => P (some i) μ'
  | _ => False) E := by
  unfold oSome; rw [ok_bnd]; congr 1; funext x μ'; cases x <;> rfl
theorem ok_cKw {g : List T → T → M T} {d : Env → M T} : Ok (cKw g as d ρ μ) P E = Ok (as ρ μ) (fun ts μ1 => Ok (d ρ μ1) (fun u μ2 => Ok (g ts u μ2) P E) E) E := by
  unfold cKw; rw [ok_bnd]; congr 1; funext x μ1; exact ok_bnd
theorem ok_cMeth {Ty : String} {g : T → List T → M T} : Ok (cMeth Ty g a as ρ μ) P E = Ok (a ρ μ) (fun x μ1 => Ok (mTy Ty x μ1) (fun _ μ2 => Ok (as ρ μ2) (fun ts μ3 => Ok (g x ts μ3) P E) E) E) E := by
  unfold cMeth; rw [ok_bnd]; congr 1; funext x μ1; rw [ok_bnd]; congr 1; funext _ μ2; exact ok_bnd
theorem ok_cRgL1 {mk : List T → T} : Ok (cRgL1 mk a ρ μ) P E = Ok (a ρ μ) (fun x μ' => Ok (mRgL mk (.int 0) x μ') P E) E := ok_bnd
theorem ok_cRgL2 {mk : List T → T} : Ok (cRgL2 mk a b ρ μ) P E = Ok (a ρ μ) (fun x μ1 => Ok (b ρ μ1) (fun y μ' => Ok (mRgL mk x y μ') P E) E) E := by
  unfold cRgL2; rw [ok_bnd]; congr 1; funext x μ1; exact ok_bnd
theorem ok_iSeq {P : List T → Store → Prop} : Ok (iSeq a ρ μ) P E = Ok (a ρ μ) (fun x μ' => Ok (mIt x μ') P E) E := ok_bnd
theorem ok_iRg1 {P : List T → Store → Prop} : Ok (iRg1 as ρ μ) P E = Ok (as ρ μ) (fun x μ' => Ok (mRg1 x μ') P E) E := ok_bnd
theorem ok_iRg2 {P : List T → Store → Prop} : Ok (iRg2 as ρ μ) P E = Ok (as ρ μ) (fun x μ' => Ok (mRg2 x μ') P E) E := ok_bnd
theorem ok_iZp {P : List T → Store → Prop} : Ok (iZp as ρ μ) P E = Ok (as ρ μ) (fun x μ' => Ok (mZip x μ') P E) E := ok_bnd
theorem ok_iEn {P : List T → Store → Prop} : Ok (iEn as ρ μ) P E = Ok (as ρ μ) (fun x μ' => Ok (mEnu x μ') P E) E := ok_bnd
theorem ok_cLc {it : Env → M (List T)} {f : T → Env → Option Env} {t : Env → M Bool} {vs : List Nat} : Ok (cLc it f t a vs ρ μ) P E = Ok (it ρ μ) (fun ts μ1 => Ok (lcL ts (lcT f t a (wipeE ρ vs)) [] μ1) (fun us μ2 => P (.lst us) μ2) E) E := by
  unfold cLc; rw [ok_bnd]; congr 1; funext x μ1; exact ok_bnd
theorem ok_cLc2 {it it1 : Env → M (List T)} {f f1 : T → Env → Option Env} {t t1 : Env → M Bool} {vs vs1 : List Nat} : Ok (cLc2 it f t it1 f1 t1 a vs vs1 ρ μ) P E = Ok (it ρ μ) (fun ts μ1 => Ok (lcO ts (lcB2 f t it1 f1 t1 a vs1 (wipeE ρ vs)) [] μ1) (fun us μ2 => P (.lst us) μ2) E) E := by
  unfold cLc2; rw [ok_bnd]; congr 1; funext x μ1; exact ok_bnd
/-! ### statements -/
variable {Q : Out → Store → Prop} {s s' : Env → M Out}
theorem ok_sNil : Ok (sNil ρ μ) Q E = Q (.nx ρ) μ := rfl
theorem ok_sPass : Ok (sPass ρ μ) Q E = Q (.nx ρ) μ := rfl
theorem ok_sBreak : Ok (sBreak ρ μ) Q E = Q (.bk ρ) μ := rfl
theorem ok_sCont : Ok (sCont ρ μ) Q E = Q (.ct ρ) μ := rfl
theorem ok_sBad : Ok (sBad ρ μ) Q E = False := rfl
theorem ok_sRetN : Ok (sRetN ρ μ) Q E = Q (.rt .non) μ := rfl
theorem ok_sSeq : Ok (sSeq s s' ρ μ) Q E = Ok (s ρ μ) (fun o μ' => match o with
  | .nx ρ' => Ok (s' ρ' μ') Q E
  | .bk ρ' => Q (.bk ρ') μ'
  | .ct ρ' => Q (.ct ρ') μ'
  | .rt t => Q (.rt t) μ'
  | .xx ρ' e => Q (.xx ρ' e) μ') E := by
  unfold sSeq; rw [ok_bnd]; congr 1; funext o μ'; cases o <;> rfl
theorem ok_sExpr : Ok (sExpr a ρ μ) Q E = Ok (a ρ μ) (fun _ μ' => Q (.nx ρ) μ') (fun e μ' => Q (.xx ρ e) μ') := ok_bndS
theorem ok_sRet : Ok (sRet a ρ μ) Q E = Ok (a ρ μ) (fun t μ' => Q (.rt t) μ') (fun e μ' => Q (.xx ρ e) μ') := ok_bndS
theorem ok_sSet {i : Nat} : Ok (sSet i a ρ μ) Q E = Ok (a ρ μ) (fun t μ' => Q (.nx (ρ.set i (some t))) μ') (fun e μ' => Q (.xx ρ e) μ') := ok_bndS
theorem ok_sIf {x : Env → M Bool} : Ok (sIf x s s' ρ μ) Q E = Ok (x ρ μ) (fun k μ' => if k then Ok (s ρ μ') Q E else Ok (s' ρ μ') Q E) (fun e μ' => Q (.xx ρ e) μ') := by
  unfold sIf; rw [ok_bndS]; congr 1; funext k μ'; cases k <;> rfl
theorem ok_sAsg {f : T → Env → Option Env} : Ok (sAsg a f ρ μ) Q E = Ok (a ρ μ) (fun t μ' => match f t ρ with
  | some ρ' => Q (.nx ρ') μ'
  | none => False) (fun e μ' => Q (.xx ρ e) μ') := by
  unfold sAsg; rw [ok_bndS]; congr 1; funext t μ'; cases f t ρ <;> rfl
theorem ok_sStore {i : Env → M T} : Ok (sStore a b i ρ μ) Q E = Ok (a ρ μ) (fun v μ1 => Ok (b ρ μ1) (fun o μ2 => Ok (i ρ μ2) (fun k μ3 => Ok (mPut o k v μ3) (fun _ μ4 => Q (.nx ρ) μ4) (fun e μ' => Q (.xx ρ e) μ')) (fun e μ' => Q (.xx ρ e) μ')) (fun e μ' => Q (.xx ρ e) μ')) (fun e μ' => Q (.xx ρ e) μ') := by
  unfold sStore; rw [ok_bndS]; congr 1; funext v μ1; rw [ok_bndS]; congr 1; funext o μ2; rw [ok_bndS]; congr 1; funext k μ3; rw [ok_bndS]; rfl
theorem ok_sPar {i j : Nat} : Ok (sPar i j a b ρ μ) Q E = Ok (a ρ μ) (fun x μ1 => Ok (b ρ μ1) (fun y μ2 => Q (.nx ((ρ.set i (some x)).set j (some y))) μ2) (fun e μ' => Q (.xx ρ e) μ')) (fun e μ' => Q (.xx ρ e) μ') := by
  unfold sPar; rw [ok_bndS, ok_aCons]; congr 1; funext x μ1; rw [ok_aCons]; rfl
theorem ok_sPar3 {i j l : Nat} : Ok (sPar3 i j l a b c ρ μ) Q E = Ok (a ρ μ) (fun x μ1 => Ok (b ρ μ1) (fun y μ2 => Ok (c ρ μ2) (fun z μ3 => Q (.nx (((ρ.set i (some x)).set j (some y)).set l (some z))) μ3) (fun e μ' => Q (.xx ρ e) μ')) (fun e μ' => Q (.xx ρ e) μ')) (fun e μ' => Q (.xx ρ e) μ') := by
  unfold sPar3; rw [ok_bndS, ok_aCons]; congr 1; funext x μ1; rw [ok_aCons]; congr 1; funext y μ2; rw [ok_aCons]; rfl
theorem ok_sAug {i : Nat} {g : T → T → M T} : Ok (sAug i g a ρ μ) Q E = Ok (cVar i ρ μ) (fun x μ1 => Ok (a ρ μ1) (fun y μ2 => Ok (g x y μ2) (fun z μ3 => Q (.nx (ρ.set i (some z))) μ3) (fun e μ' => Q (.xx ρ e) μ')) (fun e μ' => Q (.xx ρ e) μ')) (fun e μ' => Q (.xx ρ e) μ') := by
  unfold sAug; rw [ok_bndS]; congr 1; funext v μ1; rw [ok_bndS]; congr 1; funext o μ2; rw [ok_bndS]; rfl
theorem ok_sFor {it : Env → M (List T)} {f : T → Env → Option Env} : Ok (sFor it f s ρ μ) Q E = Ok (it ρ μ) (fun ts μ' => Ok (forL ts (stp f s) ρ μ') Q E) (fun e μ' => Q (.xx ρ e) μ') := ok_bndS
theorem ok_stp {f : T → Env → Option Env} {t : T} : Ok (stp f s t ρ μ) Q E = match f t ρ with
  | some ρ' => Ok (s ρ' μ) Q E
  | none => False := by
  unfold stp; cases f t ρ <;> rfl
theorem ok_fnD {N : Nat} {ts : List T} : Ok (fnD N s ts μ) P E = Ok (s (ts.map some ++ List.replicate (N - ts.length) none) μ) (fun o μ' => match o with
  | .nx _ => P .non μ'
  | .rt t => P t μ'
  | .xx _ e => E e μ'
  | _ => False) (fun _ _ => False) := by
  unfold fnD
  cases s (ts.map some ++ List.replicate (N - ts.length) none) μ with
  | ok o μ' => cases o <;> rfl
  | ex e μ' => rfl
  | bad => rfl
end
/-! ### loops -/
section
variable {E : Exc → Store → Prop} {Q : Out → Store → Prop}
theorem ok_forL {step : T → Env → M Out} {I : Nat → Env → Store → Prop} : ∀ {ts : List T} {ρ : Env} {μ : Store} (i : Nat), I i ρ μ →
    (∀ j t ρ μ, ts[j]? = some t → I (i + j) ρ μ → Ok (step t ρ μ) (fun o μ' => match o with
      | .nx ρ' => I (i + j + 1) ρ' μ'
      | .ct ρ' => I (i + j + 1) ρ' μ'
      | .bk ρ' => Q (.nx ρ') μ'
      | .rt u => Q (.rt u) μ'
      | .xx ρ' e => Q (.xx ρ' e) μ') E) → (∀ ρ μ, I (i + ts.length) ρ μ → Q (.nx ρ) μ) → Ok (forL ts step ρ μ) Q E
  | [], ρ, μ, i, h0, _, he => he ρ μ h0
  | t :: ts, ρ, μ, i, h0, hs, he => by
    unfold forL
    rw [ok_bnd]
    refine Ok.mono (hs 0 t ρ μ rfl h0) (fun o μ' h => ?_) fun _ _ z => z
    have again : ∀ ρ' μ', I (i + 1) ρ' μ' → Ok (forL ts step ρ' μ') Q E := fun ρ' μ' h' => ok_forL (i + 1) h' (fun j t' ρ2 μ2 e hI => by
      have e1 : i + 1 + j = i + (j + 1) := by omega
      rw [e1] at hI ⊢
      exact hs (j + 1) t' ρ2 μ2 (by simpa using e) hI) fun ρ2 μ2 hI => he ρ2 μ2 (by
      have e1 : i + 1 + ts.length = i + (t :: ts).length := by simp; omega
      rw [e1] at hI
      exact hI)
    cases o with
    | nx ρ' => exact again ρ' μ' h
    | ct ρ' => exact again ρ' μ' h
    | bk ρ' => exact h
    | rt u => exact h
    | xx ρ' e => exact h
theorem ok_for {step : T → Env → M Out} {ts : List T} {ρ : Env} {μ : Store} (I : Nat → Env → Store → Prop) (h0 : I 0 ρ μ)
    (hs : ∀ j t ρ μ, ts[j]? = some t → I j ρ μ → Ok (step t ρ μ) (fun o μ' => match o with
      | .nx ρ' => I (j + 1) ρ' μ'
      | .ct ρ' => I (j + 1) ρ' μ'
      | .bk ρ' => Q (.nx ρ') μ'
      | .rt u => Q (.rt u) μ'
      | .xx ρ' e => Q (.xx ρ' e) μ') E) (he : ∀ ρ μ, I ts.length ρ μ → Q (.nx ρ) μ) : Ok (forL ts step ρ μ) Q E :=
  ok_forL 0 h0 (fun j t ρ μ e hI => by rw [Nat.zero_add] at hI ⊢; exact hs j t ρ μ e hI) fun ρ μ hI => he ρ μ (by rw [Nat.zero_add] at hI; exact hI)
theorem ok_while {c : Env → M Bool} {b : Env → M Out} (I : Nat → Env → Store → Prop) (hs : ∀ n ρ μ, I (n + 1) ρ μ → Ok (c ρ μ) (fun k μ1 => if k then Ok (b ρ μ1) (fun o μ' => match o with
      | .nx ρ' => I n ρ' μ'
      | .ct ρ' => I n ρ' μ'
      | .bk ρ' => Q (.nx ρ') μ'
      | .rt u => Q (.rt u) μ'
      | .xx ρ' e => Q (.xx ρ' e) μ') E else Q (.nx ρ) μ1) (fun e μ' => Q (.xx ρ e) μ')) (h0 : ∀ ρ μ, ¬ I 0 ρ μ) : ∀ (n : Nat) (ρ : Env) (μ : Store), I n ρ μ → Ok (whileL n c b ρ μ) Q E
  | 0, ρ, μ, h => (h0 ρ μ h).elim
  | n + 1, ρ, μ, h => by
    unfold whileL
    rw [ok_bndS]
    refine Ok.mono (hs n ρ μ h) (fun k μ1 hk => ?_) fun _ _ z => z
    cases k with
    | false => exact hk
    | true =>
      show Ok (bnd (b ρ) _ μ1) Q E
      rw [ok_bnd]
      refine Ok.mono (show Ok (b ρ μ1) _ E from hk) (fun o μ' h' => ?_) fun _ _ z => z
      cases o with
      | nx ρ' => exact ok_while I hs h0 n ρ' μ' h'
      | ct ρ' => exact ok_while I hs h0 n ρ' μ' h'
      | bk ρ' => exact h'
      | rt u => exact h'
      | xx ρ' e => exact h'
end
/-! ### comprehensions -/
section
variable {E : Exc → Store → Prop} {P : List T → Store → Prop}
/-- nothing is changed: each turn gives g t -/
theorem lcL_pure {b : T → M (Option T)} {g : T → Option T} {μ : Store} : ∀ {ts : List T} {acc : List T}, (∀ t ∈ ts, b t μ = .ok (g t) μ) → acc.length + ts.length ≤ lim → lcL ts b acc μ = .ok (acc ++ ts.filterMap g) μ
  | [], acc, _, _ => by simp [lcL]
  | t :: ts, acc, h, hl => by
    unfold lcL
    rw [bnd_ok (h t List.mem_cons_self)]
    rw [List.length_cons] at hl
    cases e : g t with
    | none =>
      show lcL ts b acc μ = _
      rw [lcL_pure (fun u hu => h u (List.mem_cons_of_mem _ hu)) (by omega), List.filterMap_cons_none e]
    | some y =>
      show (if acc.length < lim then lcL ts b (acc ++ [y]) else bad) μ = _
      rw [if_pos (by omega), lcL_pure (fun u hu => h u (List.mem_cons_of_mem _ hu)) (by rw [List.length_append, List.length_singleton]; omega), List.filterMap_cons_some e]
      simp
theorem ok_lcL_pure {b : T → M (Option T)} (g : T → Option T) {μ : Store} {ts : List T} (h : ∀ t ∈ ts, b t μ = .ok (g t) μ) (hl : ts.length ≤ lim) (hP : P (ts.filterMap g) μ) : Ok (lcL ts b [] μ) P E :=
  Ok.of_eq (lcL_pure h (by simpa using hl)) (by simpa using hP)
/-- with an invariant: every turn gives one item -/
theorem ok_lcL_inv {b : T → M (Option T)} {I : Nat → List T → Store → Prop} : ∀ {ts : List T} {acc : List T} {μ : Store} (i : Nat), I i acc μ → acc.length + ts.length ≤ lim →
    (∀ j t acc μ, ts[j]? = some t → I (i + j) acc μ → Ok (b t μ) (fun o μ' => match o with
      | some y => I (i + j + 1) (acc ++ [y]) μ'
      | none => I (i + j + 1) acc μ') E) → (∀ acc μ, I (i + ts.length) acc μ → P acc μ) → Ok (lcL ts b acc μ) P E
  | [], acc, μ, i, h0, _, _, he => he acc μ h0
  | t :: ts, acc, μ, i, h0, hl, hs, he => by
    unfold lcL
    rw [ok_bnd]
    rw [List.length_cons] at hl
    refine Ok.mono (hs 0 t acc μ rfl h0) (fun o μ' h => ?_) fun _ _ z => z
    have again : ∀ acc' μ', I (i + 1) acc' μ' → acc'.length + ts.length ≤ lim → Ok (lcL ts b acc' μ') P E := fun acc' μ' h' hl' => ok_lcL_inv (i + 1) h' hl' (fun j t' a2 μ2 e hI => by
      have e1 : i + 1 + j = i + (j + 1) := by omega
      rw [e1] at hI ⊢
      exact hs (j + 1) t' a2 μ2 (by simpa using e) hI) fun a2 μ2 hI => he a2 μ2 (by
      have e1 : i + 1 + ts.length = i + (t :: ts).length := by simp; omega
      rw [e1] at hI
      exact hI)
    cases o with
    | none => exact again acc μ' h (by omega)
    | some y =>
      show Ok ((if acc.length < lim then lcL ts b (acc ++ [y]) else bad) μ') P E
      rw [if_pos (by omega)]
      exact again (acc ++ [y]) μ' h (by rw [List.length_append, List.length_singleton]; omega)
theorem ok_lcL {b : T → M (Option T)} {ts : List T} {μ : Store} (I : Nat → List T → Store → Prop) (h0 : I 0 [] μ) (hl : ts.length ≤ lim)
    (hs : ∀ j t acc μ, ts[j]? = some t → I j acc μ → Ok (b t μ) (fun o μ' => match o with
      | some y => I (j + 1) (acc ++ [y]) μ'
      | none => I (j + 1) acc μ') E) (he : ∀ acc μ, I ts.length acc μ → P acc μ) : Ok (lcL ts b [] μ) P E :=
  ok_lcL_inv 0 h0 (by simpa using hl) (fun j t ρ μ e hI => by rw [Nat.zero_add] at hI ⊢; exact hs j t ρ μ e hI) fun ρ μ hI => he ρ μ (by rw [Nat.zero_add] at hI; exact hI)
theorem ok_lcT {f : T → Env → Option Env} {c : Env → M Bool} {a : Env → M T} {ρ : Env} {t : T} {μ : Store} {P : Option T → Store → Prop} : Ok (lcT f c a ρ t μ) P E = match f t ρ with
  | some ρ' => Ok (c ρ' μ) (fun k μ1 => if k then Ok (a ρ' μ1) (fun y μ2 => P (some y) μ2) (fun _ _ => False) else P none μ1) (fun _ _ => False)
  | none => False := by
  unfold lcT
  rw [ok_noX]
  unfold lcB
  cases f t ρ with
  | none => rfl
  | some ρ' =>
    dsimp only
    rw [ok_bnd]
    congr 1; funext k μ1
    cases k with
    | true => exact ok_bnd
    | false => rfl
/-- two fors, nothing changed -/
theorem lcO_pure {b : T → List T → M (List T)} {g : T → List T} {μ : Store} : ∀ {ts : List T} {acc : List T}, (∀ t ∈ ts, ∀ acc, acc.length + (g t).length ≤ lim → b t acc μ = .ok (acc ++ g t) μ) → acc.length + (ts.flatMap g).length ≤ lim → lcO ts b acc μ = .ok (acc ++ ts.flatMap g) μ
  | [], acc, _, _ => by simp [lcO]
  | t :: ts, acc, h, hl => by
    unfold lcO
    rw [List.flatMap_cons, List.length_append] at hl
    rw [bnd_ok (h t List.mem_cons_self acc (by omega)), lcO_pure (fun u hu => h u (List.mem_cons_of_mem _ hu)) (by rw [List.length_append]; omega), List.flatMap_cons, List.append_assoc]
end
/-- from an Ok to the result itself -/
theorem eq_of_ok {α : Type} {r : Res α} {a : α} {μ : Store} (h : Ok r (fun x μ' => x = a ∧ μ' = μ) fun _ _ => False) : r = .ok a μ := by
  cases r with
  | ok b μ' => obtain ⟨rfl, rfl⟩ := h; rfl
  | ex e μ' => exact h.elim
  | bad => exact h.elim
/-! ### equality of data without bools -/
mutual
def dat : Nat → T → Bool
  | _, .non => true
  | _, .int _ => true
  | n + 1, .tup ts => dats n ts
  | n + 1, .lst ts => dats n ts
  | _, _ => false
def dats : Nat → List T → Bool
  | _, [] => true
  | n, t :: ts => dat n t && dats n ts
end
theorem dat_pd : (∀ (t : T) (n : Nat), dat n t = true → ∃ d, pd t = some d ∧ d.canLay0 = true ∧ d.depth ≤ n) := by
  intro t
  refine T.rec (motive_1 := fun t => ∀ n, dat n t = true → ∃ d, pd t = some d ∧ d.canLay0 = true ∧ d.depth ≤ n) (motive_2 := fun ts => ∀ n, dats n ts = true → ∃ ds, pds ts = some ds ∧ PyData.canLayAll0 ds = true ∧ PyData.depthAll ds ≤ n) ?_ ?_ ?_ ?_ ?_ ?_ ?_ ?_ ?_ ?_ ?_ ?_ ?_ ?_ ?_ t
  · intro n _; exact ⟨.none, by simp only [pd], by simp only [PyData.canLay0], by simp only [PyData.depth]; omega⟩
  · intro b n h; simp [dat] at h
  · intro i n _; exact ⟨.int i, by simp only [pd], by simp only [PyData.canLay0], by simp only [PyData.depth]; omega⟩
  · intro b n h; simp [dat] at h
  · intro b n h; simp [dat] at h
  · intro b n h; simp [dat] at h
  · intro b n h; simp [dat] at h
  · intro ts ih n h
    cases n with
    | zero => simp [dat] at h
    | succ n =>
      obtain ⟨ds, h1, h2, h3⟩ := ih n (by simpa [dat] using h)
      exact ⟨.tuple ds, by simp only [pd, h1, Option.map_some], by simp only [PyData.canLay0]; exact h2, by simp only [PyData.depth]; omega⟩
  · intro ts ih n h
    cases n with
    | zero => simp [dat] at h
    | succ n =>
      obtain ⟨ds, h1, h2, h3⟩ := ih n (by simpa [dat] using h)
      exact ⟨.list ds, by simp only [pd, h1, Option.map_some], by simp only [PyData.canLay0]; exact h2, by simp only [PyData.depth]; omega⟩
  · intro ks ts _ n h; simp [dat] at h
  · intro ks ts _ n h; simp [dat] at h
  · intro ks n h; simp [dat] at h
  · intro ts _ n h; simp [dat] at h
  · intro n _; exact ⟨[], by simp only [pds], by simp only [PyData.canLayAll0], by simp only [PyData.depthAll]; omega⟩
  · intro t ts iht ihts n h
    rw [dats, Bool.and_eq_true] at h
    obtain ⟨d, h1, h2, h3⟩ := iht n h.1
    obtain ⟨ds, k1, k2, k3⟩ := ihts n h.2
    exact ⟨d :: ds, by simp only [pds, h1, k1], by simp only [PyData.canLayAll0, h2, k2, Bool.and_self], by simp only [PyData.depthAll]; omega⟩
theorem pds_nil {ts : List T} (h : pds ts = some []) : ts = [] := by
  cases ts with
  | nil => rfl
  | cons a b =>
    simp only [pds] at h
    split at h <;> cases h
mutual
theorem eqv_dat : ∀ (t u : T) (n : Nat) (d e : PyData), dat n t = true → dat n u = true → pd t = some d → pd u = some e → (PyData.eqv d e = true ↔ t = u)
  | .non, u, n, d, e, _, hu, h1, h2 => by
    simp only [pd] at h1; cases h1
    cases u <;> first | (simp [dat] at hu; done) | skip
    · simp only [pd] at h2; cases h2; simp [PyData.eqv]
    · simp only [pd] at h2; cases h2; simp [PyData.eqv]
    · simp only [pd, Option.map_eq_some_iff] at h2; obtain ⟨_, _, rfl⟩ := h2; simp [PyData.eqv]
    · simp only [pd, Option.map_eq_some_iff] at h2; obtain ⟨_, _, rfl⟩ := h2; simp [PyData.eqv]
  | .int i, u, n, d, e, _, hu, h1, h2 => by
    simp only [pd] at h1; cases h1
    cases u <;> first | (simp [dat] at hu; done) | skip
    · simp only [pd] at h2; cases h2; simp [PyData.eqv]
    · simp only [pd] at h2; cases h2; simp [PyData.eqv]
    · simp only [pd, Option.map_eq_some_iff] at h2; obtain ⟨_, _, rfl⟩ := h2; simp [PyData.eqv]
    · simp only [pd, Option.map_eq_some_iff] at h2; obtain ⟨_, _, rfl⟩ := h2; simp [PyData.eqv]
  | .tup ts, u, n, d, e, ht, hu, h1, h2 => by
    simp only [pd, Option.map_eq_some_iff] at h1
    obtain ⟨ds, h1, rfl⟩ := h1
    cases n with
    | zero => simp [dat] at ht
    | succ n =>
      cases u <;> first | (simp [dat] at hu; done) | skip
      · simp only [pd] at h2; cases h2; simp [PyData.eqv]
      · simp only [pd] at h2; cases h2; simp [PyData.eqv]
      · rename_i us
        simp only [pd, Option.map_eq_some_iff] at h2
        obtain ⟨es, h2, rfl⟩ := h2
        have := eqvs_dat ts us n ds es (by simpa [dat] using ht) (by simpa [dat] using hu) h1 h2
        simpa [PyData.eqv] using this
      · simp only [pd, Option.map_eq_some_iff] at h2; obtain ⟨_, _, rfl⟩ := h2; simp [PyData.eqv]
  | .lst ts, u, n, d, e, ht, hu, h1, h2 => by
    simp only [pd, Option.map_eq_some_iff] at h1
    obtain ⟨ds, h1, rfl⟩ := h1
    cases n with
    | zero => simp [dat] at ht
    | succ n =>
      cases u <;> first | (simp [dat] at hu; done) | skip
      · simp only [pd] at h2; cases h2; simp [PyData.eqv]
      · simp only [pd] at h2; cases h2; simp [PyData.eqv]
      · simp only [pd, Option.map_eq_some_iff] at h2; obtain ⟨_, _, rfl⟩ := h2; simp [PyData.eqv]
      · rename_i us
        simp only [pd, Option.map_eq_some_iff] at h2
        obtain ⟨es, h2, rfl⟩ := h2
        have := eqvs_dat ts us n ds es (by simpa [dat] using ht) (by simpa [dat] using hu) h1 h2
        simpa [PyData.eqv] using this
  | .bl _, _, _, _, _, h, _, _, _ => by simp [dat] at h
  | .str _, _, _, _, _, h, _, _, _ => by simp [dat] at h
  | .ty _, _, _, _, _, h, _, _, _ => by simp [dat] at h
  | .cls _, _, _, _, _, h, _, _, _ => by simp [dat] at h
  | .fn _, _, _, _, _, h, _, _, _ => by simp [dat] at h
  | .dic _ _, _, _, _, _, h, _, _, _ => by simp [dat] at h
  | .ins _ _, _, _, _, _, h, _, _, _ => by simp [dat] at h
  | .obj _, _, _, _, _, h, _, _, _ => by simp [dat] at h
  | .scr _, _, _, _, _, h, _, _, _ => by simp [dat] at h
theorem eqvs_dat : ∀ (ts us : List T) (n : Nat) (ds es : List PyData), dats n ts = true → dats n us = true → pds ts = some ds → pds us = some es → (PyData.eqvAll ds es = true ↔ ts = us)
  | [], us, n, ds, es, _, _, h1, h2 => by
    simp only [pds] at h1; cases h1
    cases us with
    | nil => simp only [pds] at h2; cases h2; simp [PyData.eqvAll]
    | cons u us =>
      simp only [pds] at h2
      split at h2
      · cases h2; simp [PyData.eqvAll]
      · cases h2
  | t :: ts, us, n, ds, es, ht, hu, h1, h2 => by
    simp only [pds] at h1
    split at h1
    · rename_i d ds' e1 e2
      cases h1
      rw [dats, Bool.and_eq_true] at ht
      cases us with
      | nil => simp only [pds] at h2; cases h2; simp [PyData.eqvAll]
      | cons u us =>
        rw [dats, Bool.and_eq_true] at hu
        simp only [pds] at h2
        split at h2
        · rename_i e es' f1 f2
          cases h2
          have a := eqv_dat t u n d e ht.1 hu.1 e1 f1
          have b := eqvs_dat ts us n ds' es' ht.2 hu.2 e2 f2
          simp [PyData.eqvAll, a, b]
        · cases h2
    · cases h1
end
mutual
def eqT : T → T → Bool
  | .non, .non => true
  | .bl a, .bl b => a == b
  | .int a, .int b => a == b
  | .str a, .str b => decide (a = b)
  | .ty a, .ty b => a == b
  | .cls a, .cls b => a == b
  | .fn a, .fn b => a == b
  | .tup a, .tup b => eqTs a b
  | .lst a, .lst b => eqTs a b
  | .dic k a, .dic l b => decide (k = l) && eqTs a b
  | .ins c a, .ins d b => (c == d) && eqTs a b
  | .obj a, .obj b => a == b
  | .scr a, .scr b => eqTs a b
  | _, _ => false
def eqTs : List T → List T → Bool
  | [], [] => true
  | a :: as, b :: bs => eqT a b && eqTs as bs
  | _, _ => false
end
mutual
theorem eqT_iff : ∀ (a b : T), eqT a b = true ↔ a = b
  | .non, b => by cases b <;> simp [eqT]
  | .bl a, b => by cases b <;> simp [eqT]
  | .int a, b => by cases b <;> simp [eqT]
  | .str a, b => by cases b <;> simp [eqT]
  | .ty a, b => by cases b <;> simp [eqT]
  | .cls a, b => by cases b <;> simp [eqT]
  | .fn a, b => by cases b <;> simp [eqT]
  | .tup a, b => by cases b <;> simp [eqT, eqTs_iff a]
  | .lst a, b => by cases b <;> simp [eqT, eqTs_iff a]
  | .dic k a, b => by cases b <;> simp [eqT, eqTs_iff a]
  | .ins c a, b => by cases b <;> simp [eqT, eqTs_iff a]
  | .obj a, b => by cases b <;> simp [eqT]
  | .scr a, b => by cases b <;> simp [eqT, eqTs_iff a]
theorem eqTs_iff : ∀ (a b : List T), eqTs a b = true ↔ a = b
  | [], b => by cases b <;> simp [eqTs]
  | x :: a, b => by
    cases b with
    | nil => simp [eqTs]
    | cons y b => simp [eqTs, eqT_iff x, eqTs_iff a]
end
instance instDecT : DecidableEq T := fun a b => decidable_of_iff _ (eqT_iff a b)
theorem pdOf_dat {t : T} {n : Nat} {μ : Store} (h : dat n t = true) : pdOf t μ = pd t := by
  cases t <;> first | rfl | (simp [dat] at h)
theorem gEqD_dat {neg : Bool} {x y : T} {μ : Store} {n : Nat} (hn : n ≤ 64) (hx : dat n x = true) (hy : dat n y = true) : gEqD neg x y μ = .ok (.bl (if neg then !decide (x = y) else decide (x = y))) μ := by
  obtain ⟨d, h1, h2, h3⟩ := dat_pd x n hx
  obtain ⟨e, k1, k2, k3⟩ := dat_pd y n hy
  unfold gEqD
  rw [pdOf_dat hx, pdOf_dat hy, h1, k1]
  have s1 : SeqAt.shaped d = true := by unfold SeqAt.shaped; rw [h2]; simp; omega
  have s2 : SeqAt.shaped e = true := by unfold SeqAt.shaped; rw [k2]; simp; omega
  have e1 : PyData.eqv d e = decide (x = y) := by
    have := eqv_dat x y n d e hx hy h1 k1
    by_cases c : x = y
    · rw [decide_eq_true c]; exact this.mpr c
    · rw [decide_eq_false c]
      cases q : PyData.eqv d e with
      | false => rfl
      | true => exact absurd (this.mp q) c
  dsimp only
  rw [s1, s2, e1]
  rfl
theorem dats_mem {n : Nat} : ∀ {ts : List T}, dats n ts = true ↔ ∀ t ∈ ts, dat n t = true
  | [] => by simp [dats]
  | t :: ts => by rw [dats, Bool.and_eq_true, dats_mem]; simp
theorem dats_ints {n : Nat} (ns : List Int) : dats n (ns.map T.int) = true := dats_mem.mpr fun t ht => by
  obtain ⟨i, _, rfl⟩ := List.mem_map.mp ht
  cases n <;> simp [dat]
theorem dat_row {n : Nat} (r : List Int) : dat (n + 1) (rowT r) = true := by unfold rowT; rw [dat]; exact dats_ints r
theorem dat_rows {n : Nat} (rs : List (List Int)) : dat (n + 2) (.lst (rs.map rowT)) = true := by
  rw [dat]
  exact dats_mem.mpr fun t ht => by
    obtain ⟨i, _, rfl⟩ := List.mem_map.mp ht
    exact dat_row i
theorem dat_int {n : Nat} (i : Int) : dat n (.int i) = true := by cases n <;> simp [dat]
theorem dat_non {n : Nat} : dat n .non = true := by cases n <;> simp [dat]
theorem dat_nil {n : Nat} : dat (n + 1) (.lst []) = true := by rw [dat, dats]
theorem map_inj' {α β : Type} {f : α → β} (hf : ∀ x y, f x = f y → x = y) : ∀ {a b : List α}, a.map f = b.map f → a = b
  | [], [], _ => rfl
  | [], _ :: _, h => by simp at h
  | _ :: _, [], h => by simp at h
  | x :: a, y :: b, h => by
    rw [List.map_cons, List.map_cons] at h
    injection h with h1 h2
    rw [hf x y h1, map_inj' hf h2]
theorem map_int_inj {a b : List Int} (h : a.map T.int = b.map T.int) : a = b := map_inj' (fun x y e => by cases e; rfl) h
theorem rowT_inj {a b : List Int} (h : rowT a = rowT b) : a = b := by
  unfold rowT at h
  injection h with h
  exact map_int_inj h
theorem map_row_inj {a b : List (List Int)} (h : a.map rowT = b.map rowT) : a = b := map_inj' (fun x y e => rowT_inj e) h
end Tw

/-! TwK: the laws as rules, and those of the primitives -/
namespace Tw
open PySem L2
namespace R
section
variable {μ : Store} {ρ : Env} {P : T → Store → Prop} {PL : List T → Store → Prop} {PB : Bool → Store → Prop} {E : Exc → Store → Prop} {a b c : Env → M T} {as : Env → M (List T)} {Q : Out → Store → Prop} {s s' : Env → M Out}
end
@[irreducible] def IsBl (x : T) (P : Bool → Prop) : Prop := ∃ k, x = .bl k ∧ P k
@[irreducible] def IsInt (x : T) (P : Int → Prop) : Prop := ∃ k, x = .int k ∧ P k
@[irreducible] def IsI1 (x : List T) (P : Int → Prop) : Prop := ∃ k, x = [.int k] ∧ P k
@[irreducible] def IsI2 (x : List T) (P : Int → Int → Prop) : Prop := ∃ i j, x = [.int i, .int j] ∧ P i j
@[irreducible] def Len (ts : List T) (n : Nat) (A : Prop) : Prop := ts.length = n ∧ A
theorem isBl {k : Bool} {P : Bool → Prop} (h : P k) : IsBl (.bl k) P := by unfold IsBl; exact ⟨k, rfl, h⟩
theorem IsBl.get {x : T} {P : Bool → Prop} (h : IsBl x P) : ∃ k, x = .bl k ∧ P k := by unfold IsBl at h; exact h
theorem isInt {k : Int} {P : Int → Prop} (h : P k) : IsInt (.int k) P := by unfold IsInt; exact ⟨k, rfl, h⟩
theorem IsInt.get {x : T} {P : Int → Prop} (h : IsInt x P) : ∃ k, x = .int k ∧ P k := by unfold IsInt at h; exact h
theorem isI1 {k : Int} {P : Int → Prop} (h : P k) : IsI1 [.int k] P := by unfold IsI1; exact ⟨k, rfl, h⟩
theorem IsI1.get {x : List T} {P : Int → Prop} (h : IsI1 x P) : ∃ k, x = [.int k] ∧ P k := by unfold IsI1 at h; exact h
theorem isI2 {i j : Int} {P : Int → Int → Prop} (h : P i j) : IsI2 [.int i, .int j] P := by unfold IsI2; exact ⟨i, j, rfl, h⟩
theorem IsI2.get {x : List T} {P : Int → Int → Prop} (h : IsI2 x P) : ∃ i j, x = [.int i, .int j] ∧ P i j := by unfold IsI2 at h; exact h
theorem len {ts : List T} {n : Nat} {A : Prop} (e : ts.length = n) (h : A) : Len ts n A := by unfold Len; exact ⟨e, h⟩
theorem Len.get {ts : List T} {n : Nat} {A : Prop} (h : Len ts n A) : ts.length = n ∧ A := by unfold Len at h; exact h
def dfl (g : Int → List Int → Int) (ns : List Int) (d : T) : T := match ns with
  | [] => d
  | n :: r => .int (g n r)
theorem chk {b : Bool} {A : Prop} (e : b = true) (h : A) : b = true ∧ A := ⟨e, h⟩
section
variable {μ : Store} {ρ : Env} {P : T → Store → Prop} {PL : List T → Store → Prop} {PB : Bool → Store → Prop} {E : Exc → Store → Prop} {a b c : Env → M T} {as : Env → M (List T)} {Q : Out → Store → Prop} {s s' : Env → M Out}
theorem now {α : Type} {x : α} {P : α → Store → Prop} (h : P x μ) : Ok (.ok x μ) P E := h
theorem cVar {i : Nat} {t : T} (e : ρ[i]? = some (some t)) (h : P t μ) : Ok (Tw.cVar i ρ μ) P E := by rw [ok_cVar e]; exact h
theorem cK {t : T} (h : P t μ) : Ok (Tw.cK t ρ μ) P E := h
theorem c1 {g : T → M T} (h : Ok (a ρ μ) (fun x μ' => Ok (g x μ') P E) E) : Ok (Tw.c1 g a ρ μ) P E := by rw [ok_c1]; exact h
theorem c2 {g : T → T → M T} (h : Ok (a ρ μ) (fun x μ' => Ok (b ρ μ') (fun y μ'' => Ok (g x y μ'') P E) E) E) : Ok (Tw.c2 g a b ρ μ) P E := by rw [ok_c2]; exact h
theorem cN {g : List T → M T} (h : Ok (as ρ μ) (fun x μ' => Ok (g x μ') P E) E) : Ok (Tw.cN g as ρ μ) P E := by rw [ok_cN]; exact h
theorem aNil (h : PL [] μ) : Ok (Tw.aNil ρ μ) PL E := h
theorem aCons (h : Ok (a ρ μ) (fun x μ' => Ok (as ρ μ') (fun y μ'' => PL (x :: y) μ'') E) E) : Ok (Tw.aCons a as ρ μ) PL E := by rw [ok_aCons]; exact h
theorem aStar (h : Ok (a ρ μ) (fun x μ' => Ok (mSeq x μ') (fun xs μ1 => Ok (as ρ μ1) (fun y μ'' => PL (xs ++ y) μ'') E) E) E) : Ok (Tw.aStar a as ρ μ) PL E := by rw [ok_aStar]; exact h
theorem cTest (h : Ok (a ρ μ) (fun x μ' => IsBl x fun k => PB k μ') E) : Ok (Tw.cTest a ρ μ) PB E := by
  rw [ok_cTest]
  exact h.mono (fun x μ' h => by
    obtain ⟨k, e, q⟩ := h.get
    subst e
    exact q) fun _ _ z => z
theorem cTru (h : Ok (a ρ μ) (fun x μ' => Ok (mTru x μ') PB E) E) : Ok (Tw.cTru a ρ μ) PB E := by rw [ok_cTru]; exact h
theorem cAnd {x y : Env → M Bool} (h : Ok (x ρ μ) (fun k μ' => (k = true → Ok (y ρ μ') PB E) ∧ (k = false → PB false μ')) E) : Ok (Tw.cAnd x y ρ μ) PB E := by
  rw [ok_cAnd]
  refine h.mono (fun k μ' q => ?_) fun _ _ z => z
  cases k with
  | true => exact q.1 rfl
  | false => exact q.2 rfl
theorem cOr {x y : Env → M Bool} (h : Ok (x ρ μ) (fun k μ' => (k = true → PB true μ') ∧ (k = false → Ok (y ρ μ') PB E)) E) : Ok (Tw.cOr x y ρ μ) PB E := by
  rw [ok_cOr]
  refine h.mono (fun k μ' q => ?_) fun _ _ z => z
  cases k with
  | true => exact q.1 rfl
  | false => exact q.2 rfl
theorem cNot {x : Env → M Bool} (h : Ok (x ρ μ) (fun k μ' => PB (!k) μ') E) : Ok (Tw.cNot x ρ μ) PB E := by rw [ok_cNot]; exact h
theorem cYes (h : PB true μ) : Ok (Tw.cYes ρ μ) PB E := h
theorem cIf {x : Env → M Bool} (h : Ok (x ρ μ) (fun k μ' => (k = true → Ok (a ρ μ') P E) ∧ (k = false → Ok (b ρ μ') P E)) E) : Ok (Tw.cIf x a b ρ μ) P E := by
  rw [ok_cIf]
  refine h.mono (fun k μ' q => ?_) fun _ _ z => z
  cases k with
  | true => exact q.1 rfl
  | false => exact q.2 rfl
theorem cAndT (h : Ok (a ρ μ) (fun x μ' => Ok (mTru x μ') (fun k μ1 => (k = true → Ok (b ρ μ1) P E) ∧ (k = false → P x μ1)) E) E) : Ok (Tw.cAndT a b ρ μ) P E := by
  rw [ok_cAndT]
  refine h.mono (fun x μ' q => q.mono (fun k μ1 q => ?_) fun _ _ z => z) fun _ _ z => z
  cases k with
  | true => exact q.1 rfl
  | false => exact q.2 rfl
theorem cOrT (h : Ok (a ρ μ) (fun x μ' => Ok (mTru x μ') (fun k μ1 => (k = true → P x μ1) ∧ (k = false → Ok (b ρ μ1) P E)) E) E) : Ok (Tw.cOrT a b ρ μ) P E := by
  rw [ok_cOrT]
  refine h.mono (fun x μ' q => q.mono (fun k μ1 q => ?_) fun _ _ z => z) fun _ _ z => z
  cases k with
  | true => exact q.1 rfl
  | false => exact q.2 rfl
theorem cNotT (h : Ok (a ρ μ) (fun x μ' => Ok (mTru x μ') (fun k μ1 => P (.bl (!k)) μ1) E) E) : Ok (Tw.cNotT a ρ μ) P E := by rw [ok_cNotT]; exact h
theorem cChain {g g' : T → T → M T} (h : Ok (a ρ μ) (fun x μ1 => Ok (b ρ μ1) (fun y μ2 => Ok (g x y μ2) (fun z μ3 => IsBl z fun k => (k = true → Ok (c ρ μ3) (fun w μ4 => Ok (g' y w μ4) P E) E) ∧ (k = false → P (.bl false) μ3)) E) E) E) : Ok (Tw.cChain g g' a b c ρ μ) P E := by
  rw [ok_cChain]
  refine h.mono (fun x μ1 q => q.mono (fun y μ2 q => q.mono (fun z μ3 h => ?_) fun _ _ z => z) fun _ _ z => z) fun _ _ z => z
  obtain ⟨k, e, q1, q2⟩ := h.get
  subst e
  cases k with
  | true => exact q1 rfl
  | false => exact q2 rfl
theorem cCall {n : Nat} {g : List T → M T} (h : Ok (as ρ μ) (fun ts μ' => Len ts n (Ok (g ts μ') P E)) E) : Ok (Tw.cCall n g as ρ μ) P E := by
  rw [ok_cCall]
  refine h.mono (fun ts μ' h => ?_) fun _ _ z => z
  obtain ⟨e, q⟩ := h.get
  rw [if_pos e]; exact q
theorem cSlice {lo hi : Env → M (Option Int)} (h : Ok (a ρ μ) (fun x μ1 => Ok (lo ρ μ1) (fun l μ2 => Ok (hi ρ μ2) (fun h μ3 => Ok (mCut x l h μ3) P E) E) E) E) : Ok (Tw.cSlice a lo hi ρ μ) P E := by rw [ok_cSlice]; exact h
theorem oNone {P : Option Int → Store → Prop} (h : P none μ) : Ok (Tw.oNone ρ μ) P E := h
theorem oSome {P : Option Int → Store → Prop} (h : Ok (a ρ μ) (fun x μ' => IsInt x fun i => P (some i) μ') E) : Ok (Tw.oSome a ρ μ) P E := by
  rw [ok_oSome]
  exact h.mono (fun x μ' h => by
    obtain ⟨k, e, q⟩ := h.get
    subst e
    exact q) fun _ _ z => z
theorem cKw {g : List T → T → M T} {d : Env → M T} (h : Ok (as ρ μ) (fun ts μ1 => Ok (d ρ μ1) (fun u μ2 => Ok (g ts u μ2) P E) E) E) : Ok (Tw.cKw g as d ρ μ) P E := by rw [ok_cKw]; exact h
theorem cMeth {Ty : String} {g : T → List T → M T} (h : Ok (a ρ μ) (fun x μ1 => tyOk Ty x μ1 = true ∧ Ok (as ρ μ1) (fun ts μ3 => Ok (g x ts μ3) P E) E) E) : Ok (Tw.cMeth Ty g a as ρ μ) P E := by
  rw [ok_cMeth]
  refine h.mono (fun x μ1 ⟨e, q⟩ => ?_) fun _ _ z => z
  unfold mTy
  rw [e]; exact q
theorem cRgL1 {mk : List T → T} (h : Ok (a ρ μ) (fun x μ' => IsInt x fun j => rgOk 0 j = true ∧ P (mk (rgT 0 j)) μ') E) : Ok (Tw.cRgL1 mk a ρ μ) P E := by
  rw [ok_cRgL1]
  refine h.mono (fun x μ' h => ?_) fun _ _ z => z
  obtain ⟨j, e, q, r⟩ := h.get
  subst e
  unfold mRgL
  dsimp only
  rw [q]; exact r
theorem cRgL2 {mk : List T → T} (h : Ok (a ρ μ) (fun x μ1 => Ok (b ρ μ1) (fun y μ' => IsI2 [x, y] fun i j => rgOk i j = true ∧ P (mk (rgT i j)) μ') E) E) : Ok (Tw.cRgL2 mk a b ρ μ) P E := by
  rw [ok_cRgL2]
  refine h.mono (fun x μ1 q => q.mono (fun y μ' h => ?_) fun _ _ z => z) fun _ _ z => z
  obtain ⟨i, j, e1, q', r⟩ := h.get
  cases e1
  unfold mRgL
  dsimp only
  rw [q']; exact r
theorem iSeq (h : Ok (a ρ μ) (fun x μ' => Ok (mIt x μ') PL E) E) : Ok (Tw.iSeq a ρ μ) PL E := by rw [ok_iSeq]; exact h
theorem mItT {ts : List T} (h : PL ts μ) : Ok (mIt (.tup ts) μ) PL E := h
theorem mItL {ts : List T} (h : PL ts μ) : Ok (mIt (.lst ts) μ) PL E := h
theorem iRg1 (h : Ok (as ρ μ) (fun x μ' => IsI1 x fun j => inR j = true ∧ PL (rgT 0 j) μ') E) : Ok (Tw.iRg1 as ρ μ) PL E := by
  rw [ok_iRg1]
  refine h.mono (fun x μ' h => ?_) fun _ _ z => z
  obtain ⟨j, e, q, r⟩ := h.get
  subst e
  unfold mRg1
  dsimp only
  rw [q]; exact r
theorem iRg2 (h : Ok (as ρ μ) (fun x μ' => IsI2 x fun i j => inR i = true ∧ inR j = true ∧ PL (rgT i j) μ') E) : Ok (Tw.iRg2 as ρ μ) PL E := by
  rw [ok_iRg2]
  refine h.mono (fun x μ' h => ?_) fun _ _ z => z
  obtain ⟨i, j, e, q, q2, r⟩ := h.get
  subst e
  unfold mRg2
  dsimp only
  rw [q, q2]; exact r
theorem iZp (h : Ok (as ρ μ) (fun x μ' => Ok (mZip x μ') PL E) E) : Ok (Tw.iZp as ρ μ) PL E := by rw [ok_iZp]; exact h
theorem iEn (h : Ok (as ρ μ) (fun x μ' => Ok (mEnu x μ') PL E) E) : Ok (Tw.iEn as ρ μ) PL E := by rw [ok_iEn]; exact h
theorem mEnuT {ts : List T} (h : PL (enT ts) μ) : Ok (mEnu [.tup ts] μ) PL E := h
theorem mEnuL {ts : List T} (h : PL (enT ts) μ) : Ok (mEnu [.lst ts] μ) PL E := h
theorem mZipT {ts us : List T} (h : PL (prs ts us) μ) : Ok (mZip [.tup ts, .tup us] μ) PL E := h
theorem mZipL {ts us : List T} (h : PL (prs ts us) μ) : Ok (mZip [.lst ts, .lst us] μ) PL E := h
theorem cLc {it : Env → M (List T)} {f : T → Env → Option Env} {t : Env → M Bool} {vs : List Nat} (h : Ok (it ρ μ) (fun ts μ1 => Ok (lcL ts (lcT f t a (wipeE ρ vs)) [] μ1) (fun us μ2 => P (.lst us) μ2) E) E) : Ok (Tw.cLc it f t a vs ρ μ) P E := by rw [ok_cLc]; exact h
theorem cLc2 {it it1 : Env → M (List T)} {f f1 : T → Env → Option Env} {t t1 : Env → M Bool} {vs vs1 : List Nat} (h : Ok (it ρ μ) (fun ts μ1 => Ok (lcO ts (lcB2 f t it1 f1 t1 a vs1 (wipeE ρ vs)) [] μ1) (fun us μ2 => P (.lst us) μ2) E) E) : Ok (Tw.cLc2 it f t it1 f1 t1 a vs vs1 ρ μ) P E := by rw [ok_cLc2]; exact h
theorem lcT {f : T → Env → Option Env} {c : Env → M Bool} {a : Env → M T} {ρ ρ' : Env} {t : T} {μ : Store} {P : Option T → Store → Prop} (e : f t ρ = some ρ') (h : Ok (c ρ' μ) (fun k μ1 => (k = true → Ok (a ρ' μ1) (fun y μ2 => P (some y) μ2) (fun _ _ => False)) ∧ (k = false → P none μ1)) (fun _ _ => False)) : Ok (Tw.lcT f c a ρ t μ) P E := by
  rw [ok_lcT, e]
  refine h.mono (fun k μ' q => ?_) fun _ _ z => z
  cases k with
  | true => exact q.1 rfl
  | false => exact q.2 rfl
/-! statements -/
theorem sNil (h : Q (.nx ρ) μ) : Ok (Tw.sNil ρ μ) Q E := h
theorem sPass (h : Q (.nx ρ) μ) : Ok (Tw.sPass ρ μ) Q E := h
theorem sBreak (h : Q (.bk ρ) μ) : Ok (Tw.sBreak ρ μ) Q E := h
theorem sCont (h : Q (.ct ρ) μ) : Ok (Tw.sCont ρ μ) Q E := h
theorem sRetN (h : Q (.rt .non) μ) : Ok (Tw.sRetN ρ μ) Q E := h
@[irreducible] def seqQ (s' : Env → M Out) (Q : Out → Store → Prop) (E : Exc → Store → Prop) : Out → Store → Prop := fun o μ' => match o with
  | .nx ρ' => Ok (s' ρ' μ') Q E
  | .bk ρ' => Q (.bk ρ') μ'
  | .ct ρ' => Q (.ct ρ') μ'
  | .rt t => Q (.rt t) μ'
  | .xx ρ' e => Q (.xx ρ' e) μ'
theorem sSeq (h : Ok (s ρ μ) (seqQ s' Q E) E) : Ok (Tw.sSeq s s' ρ μ) Q E := by unfold seqQ at h; rw [ok_sSeq]; exact h
theorem qnx (h : Ok (s' ρ μ) Q E) : seqQ s' Q E (.nx ρ) μ := by unfold seqQ; exact h
theorem qbk (h : Q (.bk ρ) μ) : seqQ s' Q E (.bk ρ) μ := by unfold seqQ; exact h
theorem qct (h : Q (.ct ρ) μ) : seqQ s' Q E (.ct ρ) μ := by unfold seqQ; exact h
theorem qrt {t : T} (h : Q (.rt t) μ) : seqQ s' Q E (.rt t) μ := by unfold seqQ; exact h
theorem qxx {e : Exc} (h : Q (.xx ρ e) μ) : seqQ s' Q E (.xx ρ e) μ := by unfold seqQ; exact h
theorem sExpr (h : Ok (a ρ μ) (fun _ μ' => Q (.nx ρ) μ') (fun e μ' => Q (.xx ρ e) μ')) : Ok (Tw.sExpr a ρ μ) Q E := by rw [ok_sExpr]; exact h
theorem sRet (h : Ok (a ρ μ) (fun t μ' => Q (.rt t) μ') (fun e μ' => Q (.xx ρ e) μ')) : Ok (Tw.sRet a ρ μ) Q E := by rw [ok_sRet]; exact h
theorem sSet {i : Nat} (h : Ok (a ρ μ) (fun t μ' => Q (.nx (ρ.set i (some t))) μ') (fun e μ' => Q (.xx ρ e) μ')) : Ok (Tw.sSet i a ρ μ) Q E := by rw [ok_sSet]; exact h
theorem sIf {x : Env → M Bool} (h : Ok (x ρ μ) (fun k μ' => (k = true → Ok (s ρ μ') Q E) ∧ (k = false → Ok (s' ρ μ') Q E)) (fun e μ' => Q (.xx ρ e) μ')) : Ok (Tw.sIf x s s' ρ μ) Q E := by
  rw [ok_sIf]
  refine h.mono (fun k μ' q => ?_) fun _ _ z => z
  cases k with
  | true => exact q.1 rfl
  | false => exact q.2 rfl
theorem sAsg {f : T → Env → Option Env} (h : Ok (a ρ μ) (fun t μ' => ∃ ρ', f t ρ = some ρ' ∧ Q (.nx ρ') μ') (fun e μ' => Q (.xx ρ e) μ')) : Ok (Tw.sAsg a f ρ μ) Q E := by
  rw [ok_sAsg]
  refine h.mono (fun t μ' ⟨ρ', e, q⟩ => ?_) fun _ _ z => z
  rw [e]; exact q
theorem sStore {i : Env → M T} (h : Ok (a ρ μ) (fun v μ1 => Ok (b ρ μ1) (fun o μ2 => Ok (i ρ μ2) (fun k μ3 => Ok (mPut o k v μ3) (fun _ μ4 => Q (.nx ρ) μ4) (fun e μ' => Q (.xx ρ e) μ')) (fun e μ' => Q (.xx ρ e) μ')) (fun e μ' => Q (.xx ρ e) μ')) (fun e μ' => Q (.xx ρ e) μ')) : Ok (Tw.sStore a b i ρ μ) Q E := by rw [ok_sStore]; exact h
theorem sPar {i j : Nat} (h : Ok (a ρ μ) (fun x μ1 => Ok (b ρ μ1) (fun y μ2 => Q (.nx ((ρ.set i (some x)).set j (some y))) μ2) (fun e μ' => Q (.xx ρ e) μ')) (fun e μ' => Q (.xx ρ e) μ')) : Ok (Tw.sPar i j a b ρ μ) Q E := by rw [ok_sPar]; exact h
theorem sFor {it : Env → M (List T)} {f : T → Env → Option Env} (h : Ok (it ρ μ) (fun ts μ' => Ok (forL ts (stp f s) ρ μ') Q E) (fun e μ' => Q (.xx ρ e) μ')) : Ok (Tw.sFor it f s ρ μ) Q E := by rw [ok_sFor]; exact h
theorem stp {f : T → Env → Option Env} {t : T} {ρ' : Env} (e : f t ρ = some ρ') (h : Ok (s ρ' μ) Q E) : Ok (Tw.stp f s t ρ μ) Q E := by rw [ok_stp, e]; exact h
@[irreducible] def fnQ (P : T → Store → Prop) (E : Exc → Store → Prop) : Out → Store → Prop := fun o μ' => match o with
  | .nx _ => P .non μ'
  | .rt t => P t μ'
  | .xx _ e => E e μ'
  | _ => False
theorem fnD {N : Nat} {ts : List T} (h : Ok (s (ts.map some ++ List.replicate (N - ts.length) none) μ) (fnQ P E) (fun _ _ => False)) : Ok (Tw.fnD N s ts μ) P E := by unfold fnQ at h; rw [ok_fnD]; exact h
theorem fnx (h : P .non μ) : fnQ P E (.nx ρ) μ := by unfold fnQ; exact h
theorem frt {t : T} (h : P t μ) : fnQ P E (.rt t) μ := by unfold fnQ; exact h
theorem fxx {e : Exc} (h : E e μ) : fnQ P E (.xx ρ e) μ := by unfold fnQ; exact h
/-! primitives -/
theorem ite_true {A B : Prop} {k : Bool} (h1 : k = true → A) (h2 : k = false → B) : (k = true → A) ∧ (k = false → B) := ⟨h1, h2⟩
theorem brT {A B : Prop} (h : A) : (true = true → A) ∧ (true = false → B) := ⟨fun _ => h, fun z => by cases z⟩
theorem brF {A B : Prop} (h : B) : (false = true → A) ∧ (false = false → B) := ⟨fun z => (by cases z), fun _ => h⟩
theorem brNT {A B : Prop} (h : B) : ((!true) = true → A) ∧ ((!true) = false → B) := ⟨fun z => (by cases z), fun _ => h⟩
theorem brNF {A B : Prop} (h : A) : ((!false) = true → A) ∧ ((!false) = false → B) := ⟨fun _ => h, fun z => by cases z⟩
theorem atI_lt {ts : List T} {i : Int} (h0 : 0 ≤ i) (h1 : i < ts.length) : ∃ t, atI ts i = some t ∧ ts[i.toNat]? = some t := by
  have hl : i.toNat < ts.length := by omega
  refine ⟨ts[i.toNat], ?_, List.getElem?_eq_getElem hl⟩
  unfold atI ixN
  rw [if_pos h0, if_pos h1]
  exact List.getElem?_eq_getElem hl
theorem atI_0 {a : T} {l : List T} : atI (a :: l) 0 = some a := by
  unfold atI ixN
  rw [if_pos (by omega), if_pos (by rw [List.length_cons]; omega)]
  rfl
theorem gIx0 {a : T} {l : List T} (h : P a μ) : Ok (gIxD (.lst (a :: l)) (.int 0) μ) P E := by
  unfold gIxD gIx
  simp only [dicOf, seqOf, lstOf, atI_0]
  exact h
theorem gIxO {n : Nat} {ts : List T} {i : Int} {t : T} (hm : μ[n]? = some (some (.lst ts))) (hi : atI ts i = some t) (h : P t μ) : Ok (gIxD (.obj n) (.int i) μ) P E := by
  unfold gIxD gIx
  simp only [dicOf, seqOf, lstOf, hm, hi]
  exact h
theorem gIxT {ts : List T} {i : Int} {t : T} (hi : atI ts i = some t) (h : P t μ) : Ok (gIxD (.tup ts) (.int i) μ) P E := by
  unfold gIxD gIx
  simp only [dicOf, seqOf, lstOf, hi]
  exact h
theorem gIxL {ts : List T} {i : Int} {t : T} (hi : atI ts i = some t) (h : P t μ) : Ok (gIxD (.lst ts) (.int i) μ) P E := by
  unfold gIxD gIx
  simp only [dicOf, seqOf, lstOf, hi]
  exact h
theorem gIxS {ts : List T} {i : Int} {t : T} (hi : atI ts i = some t) (h : P t μ) : Ok (gIxD (.scr ts) (.int i) μ) P E := by
  unfold gIxD gIx
  simp only [dicOf, seqOf, lstOf, hi]
  exact h
theorem gAddI {i j : Int} (h : P (.int (i + j)) μ) : Ok (gAdd (.int i) (.int j) μ) P E := h
theorem gAddT {i j : List T} (hl : i.length + j.length ≤ lim) (h : P (.tup (i ++ j)) μ) : Ok (gAdd (.tup i) (.tup j) μ) P E := by unfold gAdd; dsimp only; rw [if_pos hl]; exact h
theorem gAddL {i j : List T} (hl : i.length + j.length ≤ lim) (h : P (.lst (i ++ j)) μ) : Ok (gAdd (.lst i) (.lst j) μ) P E := by unfold gAdd; simp only [lstOf]; rw [if_pos hl]; exact h
theorem gSub {i j : Int} (h : P (.int (i - j)) μ) : Ok (Tw.gSub (.int i) (.int j) μ) P E := h
theorem gMul {i j : Int} (hc : cMulB i j = true) (h : P (.int (i * j)) μ) : Ok (gMulI (.int i) (.int j) μ) P E := by unfold gMulI; dsimp only; rw [hc]; exact h
theorem mulR {i j : Int} (h : (decide (-(2 ^ 64) < j) && decide (j < 2 ^ 64)) = true) : cMulB i j = true := by unfold cMulB; rw [h, Bool.or_true]
theorem mulL {i j : Int} (h : (decide (-(2 ^ 64) < i) && decide (i < 2 ^ 64)) = true) : cMulB i j = true := by unfold cMulB; rw [h, Bool.true_or]
theorem gFdiv {i j : Int} (h0 : 0 < j) (h1 : j < 1073741824) (h : P (.int (i / j)) μ) : Ok (Tw.gFdiv (.int i) (.int j) μ) P E := by unfold Tw.gFdiv; dsimp only; rw [decide_eq_true h0, decide_eq_true h1]; exact h
theorem gMod {i j : Int} (h0 : 0 < j) (h : P (.int (i % j)) μ) : Ok (Tw.gMod (.int i) (.int j) μ) P E := by unfold Tw.gMod; dsimp only; rw [decide_eq_true h0]; exact h
theorem gPow {i j : Int} (h0 : (decide (0 ≤ j) && decide (j ≤ 1000000) && decide (i.natAbs < 2 ^ 64)) = true) (h : P (.int (i ^ j.toNat)) μ) : Ok (Tw.gPow (.int i) (.int j) μ) P E := by unfold Tw.gPow; dsimp only; rw [h0]; exact h
theorem gLt {i j : Int} (h : P (.bl (decide (i < j))) μ) : Ok (Tw.gLt (.int i) (.int j) μ) P E := h
theorem gLe {i j : Int} (h : P (.bl (decide (i ≤ j))) μ) : Ok (Tw.gLe (.int i) (.int j) μ) P E := h
theorem gGt {i j : Int} (h : P (.bl (decide (j < i))) μ) : Ok (Tw.gGt (.int i) (.int j) μ) P E := h
theorem gGe {i j : Int} (h : P (.bl (decide (j ≤ i))) μ) : Ok (Tw.gGe (.int i) (.int j) μ) P E := h
theorem gNeg {i : Int} (h : P (.int (-i)) μ) : Ok (Tw.gNeg (.int i) μ) P E := h
theorem eqI {neg : Bool} {i j : Int} (h : P (.bl (if neg then !decide (i = j) else decide (i = j))) μ) : Ok (gEqD neg (.int i) (.int j) μ) P E := by
  rw [gEqD_dat (n := 1) (by omega) (dat_int i) (dat_int j)]
  have : decide (T.int i = T.int j) = decide (i = j) := by
    by_cases e : i = j
    · subst e; simp
    · rw [decide_eq_false e, decide_eq_false (fun z => e (by cases z; rfl))]
  rw [this]; exact h
theorem eqD {neg : Bool} {x y : T} {n : Nat} (hn : n ≤ 64) (hx : dat n x = true) (hy : dat n y = true) (h : P (.bl (if neg then !decide (x = y) else decide (x = y))) μ) : Ok (gEqD neg x y μ) P E := by
  rw [gEqD_dat hn hx hy]; exact h
theorem eqI0 {i j : Int} (h : P (.bl (decide (i = j))) μ) : Ok (gEqD false (.int i) (.int j) μ) P E := eqI h
theorem eqI1 {i j : Int} (h : P (.bl (!decide (i = j))) μ) : Ok (gEqD true (.int i) (.int j) μ) P E := eqI h
theorem eqD0 {x y : T} {n : Nat} (hn : n ≤ 64) (hx : dat n x = true) (hy : dat n y = true) (h : P (.bl (decide (x = y))) μ) : Ok (gEqD false x y μ) P E := eqD hn hx hy h
theorem eqD1 {x y : T} {n : Nat} (hn : n ≤ 64) (hx : dat n x = true) (hy : dat n y = true) (h : P (.bl (!decide (x = y))) μ) : Ok (gEqD true x y μ) P E := eqD hn hx hy h
theorem bLenT {ts : List T} (h : P (.int ts.length) μ) : Ok (bLen [.tup ts] μ) P E := h
theorem bLenL {ts : List T} (h : P (.int ts.length) μ) : Ok (bLen [.lst ts] μ) P E := h
theorem bLenS {ts : List T} (h : P (.int ts.length) μ) : Ok (bLen [.scr ts] μ) P E := h
theorem bLenO {n : Nat} {ts : List T} (hm : μ[n]? = some (some (.lst ts))) (h : P (.int ts.length) μ) : Ok (bLen [.obj n] μ) P E := by
  unfold bLen
  simp only [seqOf, lstOf, hm]
  exact h
theorem bInt {i : Int} (h : P (.int i) μ) : Ok (Tw.bInt [.int i] μ) P E := h
theorem bIntB {k : Bool} (h : P (.int (if k then 1 else 0)) μ) : Ok (Tw.bInt [.bl k] μ) P E := h
theorem bTupL {ts : List T} (h : P (.tup ts) μ) : Ok (bTuple [.lst ts] μ) P E := h
theorem bTupT {ts : List T} (h : P (.tup ts) μ) : Ok (bTuple [.tup ts] μ) P E := h
theorem bLstT {ts : List T} (h : P (.lst ts) μ) : Ok (bListD [.tup ts] μ) P E := h
theorem bLstL {ts : List T} (h : P (.lst ts) μ) : Ok (bListD [.lst ts] μ) P E := h
theorem bLstD {n : Nat} {ks : List Key} {ts : List T} (hm : μ[n]? = some (some (.dic ks ts))) (h : P (.lst (ks.map unKey)) μ) : Ok (bListD [.obj n] μ) P E := by
  unfold bListD
  simp only [hm]
  exact h
theorem mTup {ts : List T} (hl : ts.length ≤ lim) (h : P (.tup ts) μ) : Ok (Tw.mTup ts μ) P E := by unfold Tw.mTup; rw [if_pos hl]; exact h
theorem mLst {ts : List T} (hl : ts.length ≤ lim) (h : P (.lst ts) μ) : Ok (Tw.mLst ts μ) P E := by unfold Tw.mLst; rw [if_pos hl]; exact h
theorem mNew {ts : List T} (hl : ts.length ≤ lim) (h : P (.obj μ.length) (μ ++ [some (.lst ts)])) : Ok (Tw.mNew ts μ) P E := by unfold Tw.mNew; rw [if_pos hl]; exact h
theorem mSeqT {ts : List T} (h : PL ts μ) : Ok (mSeq (.tup ts) μ) PL E := h
theorem mSeqL {ts : List T} (h : PL ts μ) : Ok (mSeq (.lst ts) μ) PL E := h
theorem mTruB {k : Bool} (h : PB k μ) : Ok (mTru (.bl k) μ) PB E := h
theorem mTruI {k : Int} (h : PB (k != 0) μ) : Ok (mTru (.int k) μ) PB E := h
theorem mTruT {ts : List T} (h : PB (!ts.isEmpty) μ) : Ok (mTru (.tup ts) μ) PB E := h
theorem mTruL {ts : List T} (h : PB (!ts.isEmpty) μ) : Ok (mTru (.lst ts) μ) PB E := h
theorem mTruN (h : PB false μ) : Ok (mTru .non μ) PB E := h
theorem mCutT {ts : List T} {l u : Option Int} (h : P (.tup (cutT ts l u)) μ) : Ok (mCut (.tup ts) l u μ) P E := h
theorem mCutL {ts : List T} {l u : Option Int} (h : P (.lst (cutT ts l u)) μ) : Ok (mCut (.lst ts) l u μ) P E := h
theorem mPutL {n : Nat} {ts : List T} {k : Int} {j : Nat} {v : T} {PU : Unit → Store → Prop} (hm : μ[n]? = some (some (.lst ts))) (hj : ixN ts.length k = some j) (h : ∀ μ', μ' = μ.set n (some (.lst (ts.set j v))) → μ'[n]? = some (some (.lst (ts.set j v))) → PU () μ') : Ok (mPut (.obj n) (.int k) v μ) PU E := by
  unfold mPut
  simp only [hm, hj]
  exact h _ rfl (List.getElem?_set_self (List.getElem?_eq_some_iff.mp hm).1)
theorem bAll {bs : List Bool} (h : P (.bl (bs.all id)) μ) : Ok (Tw.bAll [.lst (bs.map T.bl)] μ) P E := by
  unfold Tw.bAll
  simp only [lstOf, Option.bind_some, blsT_map]
  exact h
theorem bSum {ns : List Int} (h : P (.int ns.sum) μ) : Ok (Tw.bSum [.lst (ns.map T.int)] μ) P E := by
  unfold Tw.bSum
  simp only [lstOf, Option.bind_some, intsT_map]
  exact h
theorem bSortR {rs : List (List Int)} (h : P (.lst ((rs.mergeSort leRow).map rowT)) μ) : Ok (Tw.bSorted [.lst (rs.map rowT)] μ) P E := by
  unfold Tw.bSorted
  simp only [lstOf, rowsT_map]
  rw [srtR]
  exact h
theorem kMax {g : Int → List Int → Int} {ns : List Int} {d : T} (h : P (dfl g ns d) μ) : Ok (kMM g [.tup (ns.map T.int)] d μ) P E := by
  unfold kMM
  simp only [seqOf, Option.bind_some, intsT_map]
  cases ns <;> exact h
/-! objects -/
theorem mAttrF {Cs : List CE} {Φ : Nat → List T → M T} {f : Str} {c : Nat} {ts : List T} {e : CE} {t : T} (hc : Cs[c]? = some e) (hp : e.pr.lookup f = none) (hg : IK.get e f (.sl c ts) = some t) (h : P t μ) : Ok (Tw.mAttr Cs Φ f (.ins c ts) μ) P E := by
  unfold Tw.mAttr
  simp only [ikOf, IK.cls, hc, hp, hg]
  exact h
theorem mAttrFP {Cs : List CE} {Φ : Nat → List T → M T} {f : Str} {c j : Nat} {ts : List T} {e : CE} (hc : Cs[c]? = some e) (hp : e.pr.lookup f = some j) (h : Ok (Φ j [.ins c ts] μ) P fun _ _ => False) : Ok (Tw.mAttr Cs Φ f (.ins c ts) μ) P E := by
  unfold Tw.mAttr
  simp only [ikOf, IK.cls, hc, hp]
  rw [ok_noX]
  exact h
theorem mAttrO {Cs : List CE} {Φ : Nat → List T → M T} {f : Str} {n c : Nat} {ns : List Str} {ts : List T} {e : CE} {t : T} (hm : μ[n]? = some (some (.ins c ns ts))) (hc : Cs[c]? = some e) (hp : e.pr.lookup f = none) (hg : IK.get e f (.dc c ns ts) = some t) (h : P t μ) : Ok (Tw.mAttr Cs Φ f (.obj n) μ) P E := by
  unfold Tw.mAttr
  simp only [ikOf, hm, IK.cls, hc, hp, hg]
  exact h
theorem mAttrS {Cs : List CE} {Φ : Nat → List T → M T} {f : Str} {n c : Nat} {ts : List T} {e : CE} {t : T} (hm : μ[n]? = some (some (.sl c ts))) (hc : Cs[c]? = some e) (hp : e.pr.lookup f = none) (hg : IK.get e f (.sl c ts) = some t) (h : P t μ) : Ok (Tw.mAttr Cs Φ f (.obj n) μ) P E := by
  unfold Tw.mAttr
  simp only [ikOf, hm, IK.cls, hc, hp, hg]
  exact h
theorem cMethO {Cs : List CE} {Φ : Nat → List T → M T} {m : Str} (h : Ok (a ρ μ) (fun t μ1 => ∃ j n, gMeth Cs μ1 t m = some (j, n + 1) ∧ Ok (as ρ μ1) (fun ts μ2 => Len ts n (Ok (Φ j (t :: ts) μ2) P E)) E) E) : Ok (Tw.cMethO Cs Φ m a as ρ μ) P E := by
  unfold Tw.cMethO
  rw [ok_bnd]
  refine h.mono (fun t μ1 ⟨j, n, e, q⟩ => ?_) fun _ _ z => z
  rw [e]
  dsimp only
  rw [ok_bnd]
  refine q.mono (fun ts μ2 h => ?_) fun _ _ z => z
  obtain ⟨e1, h⟩ := h.get
  rw [if_pos (by omega)]
  exact h
theorem lenT {Cs : List CE} {Φ : Nat → List T → M T} {ts : List T} (h : P (.int ts.length) μ) : Ok (Tw.bLenO Cs Φ [.tup ts] μ) P E := h
theorem lenL {Cs : List CE} {Φ : Nat → List T → M T} {ts : List T} (h : P (.int ts.length) μ) : Ok (Tw.bLenO Cs Φ [.lst ts] μ) P E := h
theorem lenS {Cs : List CE} {Φ : Nat → List T → M T} {ts : List T} (h : P (.int ts.length) μ) : Ok (Tw.bLenO Cs Φ [.scr ts] μ) P E := h
theorem lenO {Cs : List CE} {Φ : Nat → List T → M T} {n : Nat} {ts : List T} (hm : μ[n]? = some (some (.lst ts))) (h : P (.int ts.length) μ) : Ok (Tw.bLenO Cs Φ [.obj n] μ) P E := by
  unfold Tw.bLenO
  simp only [ikOf, hm]
  unfold Tw.bLen
  simp only [seqOf, lstOf, hm]
  exact h
theorem lenF {Cs : List CE} {Φ : Nat → List T → M T} {c j : Nat} {ts : List T} {e : CE} {n : Int} (hc : Cs[c]? = some e) (hp : e.ms.lookup ("__len__" : Str) = some (j, 1)) (hj : Φ j [.ins c ts] μ = .ok (.int n) μ) (h0 : 0 ≤ n) (h1 : n < 1000000) (h : P (.int n) μ) : Ok (Tw.bLenO Cs Φ [.ins c ts] μ) P E := by
  unfold Tw.bLenO
  have : gMeth Cs μ (.ins c ts) "__len__" = some (j, 1) := by
    unfold gMeth
    simp only [ikOf, Option.bind_some, IK.cls, hc, IK.has]
    exact hp
  simp only [ikOf, this, hj]
  rw [if_pos trivial, if_pos ⟨h0, by omega⟩]
  exact h
/-! further -/
theorem sFrzL {i n : Nat} {ts : List T} {ρ' : Env} (hr : ρ[i]? = some (some (.obj n))) (hm : μ[n]? = some (some (.lst ts))) (e : ρ.set i (some (.lst ts)) = ρ') (h : Ok (s ρ' (μ.set n none)) Q E) : Ok (Tw.sFrz i s ρ μ) Q E := by
  unfold Tw.sFrz frz1
  simp only [hr, hm]
  rw [e]
  exact h
theorem sFrzT {i : Nat} {t : T} (hr : ρ[i]? = some (some t)) (hn : ∀ n, t ≠ .obj n) (h : Ok (s ρ μ) Q E) : Ok (Tw.sFrz i s ρ μ) Q E := by
  have : frz1 i ρ μ = (ρ, μ) := by
    unfold frz1
    split
    · rename_i n hi
      rw [hr] at hi
      cases hi
      exact absurd rfl (hn n)
    · rfl
  unfold Tw.sFrz
  rw [this]
  exact h
theorem cRepL {new : Bool} (h : Ok (as ρ μ) (fun ts μ1 => ts.length ≤ lim ∧ Ok (b ρ μ1) (fun y μ2 => Ok (Tw.mRepL new ts y μ2) P E) E) E) : Ok (Tw.cRepL new as b ρ μ) P E := by
  unfold Tw.cRepL
  rw [ok_bnd]
  refine h.mono (fun ts μ1 ⟨q, r⟩ => ?_) fun _ _ z => z
  rw [if_pos q, ok_bnd]
  exact r
theorem mRep0 {t : T} {k : Int} (h0 : 0 ≤ k) (h1 : k ≤ 1000000) (h : P (.lst (List.replicate k.toNat t)) μ) : Ok (Tw.mRepL false [t] (.int k) μ) P E := by
  have e : (List.replicate k.toNat [t]).flatten = List.replicate k.toNat t := by
    generalize k.toNat = n
    induction n with
    | zero => rfl
    | succ n ih => rw [List.replicate_succ, List.flatten_cons, ih, List.replicate_succ]; rfl
  unfold Tw.mRepL
  dsimp only
  rw [if_pos, if_neg (by decide), e]
  · exact h
  · rw [Bool.and_eq_true, Bool.and_eq_true, Bool.and_eq_true, decide_eq_true_eq, decide_eq_true_eq, decide_eq_true_eq, decide_eq_true_eq]
    simp only [List.length_singleton, lim]
    omega
theorem mRep1 {t : T} {k : Int} (h0 : 0 ≤ k) (h1 : k ≤ 1000000) (h : P (.obj μ.length) (μ ++ [some (.lst (List.replicate k.toNat t))])) : Ok (Tw.mRepL true [t] (.int k) μ) P E := by
  have e : (List.replicate k.toNat [t]).flatten = List.replicate k.toNat t := by
    generalize k.toNat = n
    induction n with
    | zero => rfl
    | succ n ih => rw [List.replicate_succ, List.flatten_cons, ih, List.replicate_succ]; rfl
  unfold Tw.mRepL
  dsimp only
  rw [if_pos, if_pos rfl, e]
  · exact h
  · rw [Bool.and_eq_true, Bool.and_eq_true, Bool.and_eq_true, decide_eq_true_eq, decide_eq_true_eq, decide_eq_true_eq, decide_eq_true_eq]
    simp only [List.length_singleton, lim]
    omega
theorem mRevL {ts : List T} (h : P (.lst ts.reverse) μ) : Ok (Tw.mRev (.lst ts) μ) P E := h
theorem iRg3 (h : Ok (as ρ μ) (fun x μ' => ∃ i j c, x = [.int i, .int j, .int c] ∧ rg3B i j c = true ∧ PL (rg3T i j c) μ') E) : Ok (Tw.iRg3 as ρ μ) PL E := by
  unfold Tw.iRg3
  rw [ok_bnd]
  refine h.mono (fun x μ' ⟨i, j, c, e, q, r⟩ => ?_) fun _ _ z => z
  subst e
  unfold Tw.mRg3
  dsimp only
  rw [if_pos q]
  exact r
theorem cCall0 {g : List T → M T} (h : Ok (g [] μ) P fun _ _ => False) : Ok (Tw.cCall0 g ρ μ) P E := by
  unfold Tw.cCall0
  rw [ok_noX]
  exact h
theorem bListNT {ts : List T} (h : P (.obj μ.length) (μ ++ [some (.lst ts)])) : Ok (Tw.bListN [.tup ts] μ) P E := h
theorem bListNL {ts : List T} (h : P (.obj μ.length) (μ ++ [some (.lst ts)])) : Ok (Tw.bListN [.lst ts] μ) P E := h
theorem gMulT1 {ts : List T} (h : P (.tup ts) μ) : Ok (Tw.gMulI (.tup ts) (.int 1) μ) P E := h
theorem gMulT {t : T} {k : Int} (h0 : 1 ≤ k) (h1 : k ≤ 1000) (h : P (.tup (List.replicate k.toNat t)) μ) : Ok (Tw.gMulI (.tup [t]) (.int k) μ) P E := by
  have e : (List.replicate k.toNat [t]).flatten = List.replicate k.toNat t := by
    generalize k.toNat = n
    induction n with
    | zero => rfl
    | succ n ih => rw [List.replicate_succ, List.flatten_cons, ih, List.replicate_succ]; rfl
  unfold Tw.gMulI
  dsimp only
  by_cases hk : k = 1
  · subst hk
    exact h
  · rw [if_neg hk, if_pos, e]
    · exact h
    · rw [Bool.and_eq_true, Bool.and_eq_true, Bool.and_eq_true, decide_eq_true_eq, decide_eq_true_eq, decide_eq_true_eq]
      refine ⟨⟨⟨rfl, by omega⟩, h1⟩, by simp⟩
theorem isiTup {ts : List T} (h : P (.bl true) μ) : Ok (bIsi [.tup ts, .ty "tuple"] μ) P E := h
theorem isiInt {i : Int} (h : P (.bl true) μ) : Ok (bIsi [.int i, .ty "int"] μ) P E := h
theorem isiIntB {i : Int} (h : P (.bl false) μ) : Ok (bIsi [.int i, .ty "bool"] μ) P E := h
end
theorem fT {ρ' : Env} : True := trivial
end R
end Tw
namespace Tw
open PySem L2
section
variable {α : Type} {E : Exc → Store → Prop} {P : List T → Store → Prop} {b : T → M (Option T)} {μ : Store}
theorem lcL_map_eq {enc : α → T} (f : α → T) : ∀ (l : List α) (acc : List T), (∀ a ∈ l, Ok (b (enc a) μ) (fun o μ' => o = some (f a) ∧ μ' = μ) fun _ _ => False) → acc.length + l.length ≤ lim → lcL (l.map enc) b acc μ = .ok (acc ++ l.map f) μ
  | [], acc, _, _ => by simp [lcL]
  | a :: l, acc, h, hl => by
    rw [List.length_cons] at hl
    rw [List.map_cons]
    unfold lcL
    rw [bnd_ok (eq_of_ok (h a List.mem_cons_self))]
    show (if acc.length < lim then lcL (l.map enc) b (acc ++ [f a]) else bad) μ = _
    rw [if_pos (by omega), lcL_map_eq f l _ (fun u hu => h u (List.mem_cons_of_mem _ hu)) (by rw [List.length_append, List.length_singleton]; omega), List.map_cons]
    simp
theorem lc_filter {enc : α → T} (p : α → Bool) (f : α → T) {l : List α} (h : ∀ a ∈ l, Ok (b (enc a) μ) (fun o μ' => o = (if p a then some (f a) else none) ∧ μ' = μ) fun _ _ => False) (hl : l.length ≤ lim) (hP : P ((l.filter p).map f) μ) : Ok (lcL (l.map enc) b [] μ) P E := by
  have key : ∀ (l : List α) (acc : List T), (∀ a ∈ l, Ok (b (enc a) μ) (fun o μ' => o = (if p a then some (f a) else none) ∧ μ' = μ) fun _ _ => False) → acc.length + l.length ≤ lim → lcL (l.map enc) b acc μ = .ok (acc ++ (l.filter p).map f) μ := by
    intro l
    induction l with
    | nil => intro acc _ _; simp [lcL]
    | cons a l ih =>
      intro acc h hl
      rw [List.length_cons] at hl
      rw [List.map_cons]
      unfold lcL
      rw [bnd_ok (eq_of_ok (h a List.mem_cons_self))]
      by_cases hp : p a = true
      · rw [if_pos hp]
        show (if acc.length < lim then lcL (l.map enc) b (acc ++ [f a]) else bad) μ = _
        rw [if_pos (by omega), ih _ (fun u hu => h u (List.mem_cons_of_mem _ hu)) (by rw [List.length_append, List.length_singleton]; omega), List.filter_cons_of_pos hp, List.map_cons]
        simp
      · rw [if_neg hp]
        show lcL (l.map enc) b acc μ = _
        rw [ih _ (fun u hu => h u (List.mem_cons_of_mem _ hu)) (by omega), List.filter_cons_of_neg hp]
  exact Ok.of_eq (key l [] h (by simpa using hl)) (by simpa using hP)
theorem lc_map {enc : α → T} (f : α → T) {l : List α} (h : ∀ a ∈ l, Ok (b (enc a) μ) (fun o μ' => o = some (f a) ∧ μ' = μ) fun _ _ => False) (hl : l.length ≤ lim) (hP : P (l.map f) μ) : Ok (lcL (l.map enc) b [] μ) P E := by
  refine lc_filter (fun _ => true) f (fun a ha => (h a ha).mono (fun o μ' ⟨e1, e2⟩ => ⟨by rw [e1]; rfl, e2⟩) fun _ _ z => z) hl ?_
  rw [List.filter_eq_self.mpr (fun _ _ => rfl)]
  exact hP
end
/-- the ints a .. b - 1 -/
def rgI (a b : Int) : List Int := (List.range (b - a).toNat).map fun k => a + (k : Nat)
theorem rgT_eq (a b : Int) : rgT a b = (rgI a b).map T.int := by
  unfold rgT rgI
  rw [List.map_map]
  rfl
theorem mem_rgI {a b x : Int} : x ∈ rgI a b ↔ a ≤ x ∧ x < b := by
  unfold rgI
  rw [List.mem_map]
  constructor
  · rintro ⟨k, hk, rfl⟩
    rw [List.mem_range] at hk
    omega
  · intro h
    exact ⟨(x - a).toNat, by rw [List.mem_range]; omega, by omega⟩
theorem rgI_length (a b : Int) : (rgI a b).length = (b - a).toNat := by unfold rgI; rw [List.length_map, List.length_range]
/-! ### dicts with int keys -/
theorem hasL_mem {ks : List Key} {k : Key} : hasL ks k = true ↔ k ∈ ks := by
  unfold hasL
  rw [List.any_eq_true]
  constructor
  · rintro ⟨x, h1, h2⟩
    rw [decide_eq_true_eq] at h2
    exact h2 ▸ h1
  · intro h
    exact ⟨k, h, decide_eq_true rfl⟩
theorem putL_mem {α : Type} {ks : List Key} {xs : List α} {k k' : Key} {y : α} : k' ∈ (putL ks xs k y).1 ↔ k' ∈ ks ∨ k' = k := by
  unfold putL
  split
  · rename_i h
    rw [hasL_mem] at h
    constructor
    · exact .inl
    · rintro (h1 | rfl)
      · exact h1
      · exact h
  · show k' ∈ ks ++ [k] ↔ _
    rw [List.mem_append, List.mem_singleton]
theorem putL_le {α : Type} {ks : List Key} {xs : List α} {k : Key} {y : α} : (putL ks xs k y).1.length ≤ ks.length + 1 := by
  unfold putL
  split
  · exact Nat.le_succ _
  · show (ks ++ [k]).length ≤ _
    rw [List.length_append]
    exact Nat.le_refl _
theorem mergeL_mem {α : Type} : ∀ {ps : List (Key × α)} {p : List Key × List α} {k : Key}, k ∈ (mergeL ps p).1 ↔ k ∈ p.1 ∨ k ∈ ps.map (·.1)
  | [], p, k => by show k ∈ p.1 ↔ _; simp
  | (k', v) :: ps, p, k => by
    show k ∈ (mergeL ps (putL p.1 p.2 k' v)).1 ↔ _
    rw [mergeL_mem, putL_mem]
    simp only [List.map_cons, List.mem_cons]
    constructor
    · rintro ((h | h) | h)
      · exact .inl h
      · exact .inr (.inl h)
      · exact .inr (.inr h)
    · rintro (h | h | h)
      · exact .inl (.inl h)
      · exact .inl (.inr h)
      · exact .inr h
theorem mergeL_le {α : Type} : ∀ {ps : List (Key × α)} {p : List Key × List α}, (mergeL ps p).1.length ≤ p.1.length + ps.length
  | [], p => Nat.le_refl _
  | (k', v) :: ps, p => by
    have h1 := mergeL_le (ps := ps) (p := putL p.1 p.2 k' v)
    have h2 := putL_le (ks := p.1) (xs := p.2) (k := k') (y := v)
    show (mergeL ps (putL p.1 p.2 k' v)).1.length ≤ _
    rw [List.length_cons]
    omega
theorem getL_mem {α : Type} : ∀ {ks : List Key} {xs : List α} {k : Key}, ks.length = xs.length → ((getL ks xs k).isSome = true ↔ k ∈ ks)
  | [], [], _, _ => by simp [getL]
  | k' :: ks, x :: xs, k, h => by
    unfold getL
    by_cases e : k' = k
    · rw [if_pos e]; simp [e]
    · rw [if_neg e, getL_mem (by simpa using h)]
      simp only [List.mem_cons]
      constructor
      · exact .inr
      · rintro (h1 | h1)
        · exact absurd h1.symm e
        · exact h1
  | [], _ :: _, _, h => by simp at h
  | _ :: _, [], _, h => by simp at h
end Tw
namespace Tw
open PySem L2
theorem flats_ints : ∀ l : List Int, flatsT (l.map T.int) = some (l.map V.int)
  | [] => rfl
  | i :: l => by rw [List.map_cons]; unfold flatsT; rw [flats_ints l]; rfl
theorem inV_ints {d : Int} : ∀ l : List Int, inV (.int d) (l.map V.int) = decide (d ∈ l)
  | [] => by simp [inV]
  | i :: l => by
    have ih := inV_ints (d := d) l
    unfold inV at ih ⊢
    rw [List.map_cons, List.any_cons, ih]
    have : eqV (V.int i) (V.int d) = decide (d = i) := by
      show (i == d) = _
      by_cases e : d = i
      · subst e; simp
      · rw [decide_eq_false e]; simp; exact fun z => e z.symm
    rw [this]
    simp
theorem all_flat : ∀ l : List Int, (l.map V.int).all flatV = true
  | [] => rfl
  | _ :: l => by rw [List.map_cons, List.all_cons, all_flat l]; rfl
theorem gIn_seq {neg : Bool} {d : Int} {l : List Int} {y : T} {μ : Store} (hd : dicOf y μ = none) (hy : seqOf y μ = some (l.map T.int)) : gIn neg (.int d) y μ = .ok (.bl (if neg then !decide (d ∈ l) else decide (d ∈ l))) μ := by
  have h : gInS neg (.int d) y μ = .ok (.bl (if neg then !decide (d ∈ l) else decide (d ∈ l))) μ := by
    unfold gInS
    rw [hy]
    simp only [flatT, Option.bind_some, flats_ints]
    rw [all_flat, inV_ints]
    rfl
  unfold gIn
  rw [hd]
  simp only
  rw [h]
theorem R.inL1 {d : Int} {l : List Int} {μ : Store} {P : T → Store → Prop} {E : Exc → Store → Prop} (h : P (.bl (!decide (d ∈ l))) μ) : Ok (gIn true (.int d) (.lst (l.map T.int)) μ) P E := Ok.of_eq (gIn_seq rfl rfl) h
theorem R.inL0 {d : Int} {l : List Int} {μ : Store} {P : T → Store → Prop} {E : Exc → Store → Prop} (h : P (.bl (decide (d ∈ l))) μ) : Ok (gIn false (.int d) (.lst (l.map T.int)) μ) P E := Ok.of_eq (gIn_seq rfl rfl) h
theorem R.inT1 {d : Int} {l : List Int} {μ : Store} {P : T → Store → Prop} {E : Exc → Store → Prop} (h : P (.bl (!decide (d ∈ l))) μ) : Ok (gIn true (.int d) (.tup (l.map T.int)) μ) P E := Ok.of_eq (gIn_seq rfl rfl) h
theorem R.inT0 {d : Int} {l : List Int} {μ : Store} {P : T → Store → Prop} {E : Exc → Store → Prop} (h : P (.bl (decide (d ∈ l))) μ) : Ok (gIn false (.int d) (.tup (l.map T.int)) μ) P E := Ok.of_eq (gIn_seq rfl rfl) h
end Tw

/-! TwI: copies that don't unfold -/
namespace Tw
open PySem L2
namespace I
@[irreducible] def cVar := @Tw.cVar
theorem cVar_eq : @I.cVar = @Tw.cVar := by unfold I.cVar; rfl
@[irreducible] def cK := @Tw.cK
theorem cK_eq : @I.cK = @Tw.cK := by unfold I.cK; rfl
@[irreducible] def c1 := @Tw.c1
theorem c1_eq : @I.c1 = @Tw.c1 := by unfold I.c1; rfl
@[irreducible] def c2 := @Tw.c2
theorem c2_eq : @I.c2 = @Tw.c2 := by unfold I.c2; rfl
@[irreducible] def cN := @Tw.cN
theorem cN_eq : @I.cN = @Tw.cN := by unfold I.cN; rfl
@[irreducible] def aNil := @Tw.aNil
theorem aNil_eq : @I.aNil = @Tw.aNil := by unfold I.aNil; rfl
@[irreducible] def aCons := @Tw.aCons
theorem aCons_eq : @I.aCons = @Tw.aCons := by unfold I.aCons; rfl
@[irreducible] def aStar := @Tw.aStar
theorem aStar_eq : @I.aStar = @Tw.aStar := by unfold I.aStar; rfl
@[irreducible] def cTest := @Tw.cTest
theorem cTest_eq : @I.cTest = @Tw.cTest := by unfold I.cTest; rfl
@[irreducible] def cTru := @Tw.cTru
theorem cTru_eq : @I.cTru = @Tw.cTru := by unfold I.cTru; rfl
@[irreducible] def cAnd := @Tw.cAnd
theorem cAnd_eq : @I.cAnd = @Tw.cAnd := by unfold I.cAnd; rfl
@[irreducible] def cOr := @Tw.cOr
theorem cOr_eq : @I.cOr = @Tw.cOr := by unfold I.cOr; rfl
@[irreducible] def cNot := @Tw.cNot
theorem cNot_eq : @I.cNot = @Tw.cNot := by unfold I.cNot; rfl
@[irreducible] def cYes := @Tw.cYes
theorem cYes_eq : @I.cYes = @Tw.cYes := by unfold I.cYes; rfl
@[irreducible] def cIf := @Tw.cIf
theorem cIf_eq : @I.cIf = @Tw.cIf := by unfold I.cIf; rfl
@[irreducible] def cAndT := @Tw.cAndT
theorem cAndT_eq : @I.cAndT = @Tw.cAndT := by unfold I.cAndT; rfl
@[irreducible] def cOrT := @Tw.cOrT
theorem cOrT_eq : @I.cOrT = @Tw.cOrT := by unfold I.cOrT; rfl
@[irreducible] def cNotT := @Tw.cNotT
theorem cNotT_eq : @I.cNotT = @Tw.cNotT := by unfold I.cNotT; rfl
@[irreducible] def cChain := @Tw.cChain
theorem cChain_eq : @I.cChain = @Tw.cChain := by unfold I.cChain; rfl
@[irreducible] def cCall := @Tw.cCall
theorem cCall_eq : @I.cCall = @Tw.cCall := by unfold I.cCall; rfl
@[irreducible] def cSlice := @Tw.cSlice
theorem cSlice_eq : @I.cSlice = @Tw.cSlice := by unfold I.cSlice; rfl
@[irreducible] def oNone := @Tw.oNone
theorem oNone_eq : @I.oNone = @Tw.oNone := by unfold I.oNone; rfl
@[irreducible] def oSome := @Tw.oSome
theorem oSome_eq : @I.oSome = @Tw.oSome := by unfold I.oSome; rfl
@[irreducible] def cKw := @Tw.cKw
theorem cKw_eq : @I.cKw = @Tw.cKw := by unfold I.cKw; rfl
@[irreducible] def cMeth := @Tw.cMeth
theorem cMeth_eq : @I.cMeth = @Tw.cMeth := by unfold I.cMeth; rfl
@[irreducible] def cRgL1 := @Tw.cRgL1
theorem cRgL1_eq : @I.cRgL1 = @Tw.cRgL1 := by unfold I.cRgL1; rfl
@[irreducible] def cRgL2 := @Tw.cRgL2
theorem cRgL2_eq : @I.cRgL2 = @Tw.cRgL2 := by unfold I.cRgL2; rfl
@[irreducible] def iSeq := @Tw.iSeq
theorem iSeq_eq : @I.iSeq = @Tw.iSeq := by unfold I.iSeq; rfl
@[irreducible] def iRg1 := @Tw.iRg1
theorem iRg1_eq : @I.iRg1 = @Tw.iRg1 := by unfold I.iRg1; rfl
@[irreducible] def iRg2 := @Tw.iRg2
theorem iRg2_eq : @I.iRg2 = @Tw.iRg2 := by unfold I.iRg2; rfl
@[irreducible] def iZp := @Tw.iZp
theorem iZp_eq : @I.iZp = @Tw.iZp := by unfold I.iZp; rfl
@[irreducible] def iEn := @Tw.iEn
theorem iEn_eq : @I.iEn = @Tw.iEn := by unfold I.iEn; rfl
@[irreducible] def cLc := @Tw.cLc
theorem cLc_eq : @I.cLc = @Tw.cLc := by unfold I.cLc; rfl
@[irreducible] def cLc2 := @Tw.cLc2
theorem cLc2_eq : @I.cLc2 = @Tw.cLc2 := by unfold I.cLc2; rfl
@[irreducible] def lcT := @Tw.lcT
theorem lcT_eq : @I.lcT = @Tw.lcT := by unfold I.lcT; rfl
@[irreducible] def sNil := @Tw.sNil
theorem sNil_eq : @I.sNil = @Tw.sNil := by unfold I.sNil; rfl
@[irreducible] def sPass := @Tw.sPass
theorem sPass_eq : @I.sPass = @Tw.sPass := by unfold I.sPass; rfl
@[irreducible] def sBreak := @Tw.sBreak
theorem sBreak_eq : @I.sBreak = @Tw.sBreak := by unfold I.sBreak; rfl
@[irreducible] def sCont := @Tw.sCont
theorem sCont_eq : @I.sCont = @Tw.sCont := by unfold I.sCont; rfl
@[irreducible] def sBad := @Tw.sBad
theorem sBad_eq : @I.sBad = @Tw.sBad := by unfold I.sBad; rfl
@[irreducible] def sRetN := @Tw.sRetN
theorem sRetN_eq : @I.sRetN = @Tw.sRetN := by unfold I.sRetN; rfl
@[irreducible] def sSeq := @Tw.sSeq
theorem sSeq_eq : @I.sSeq = @Tw.sSeq := by unfold I.sSeq; rfl
@[irreducible] def sExpr := @Tw.sExpr
theorem sExpr_eq : @I.sExpr = @Tw.sExpr := by unfold I.sExpr; rfl
@[irreducible] def sRet := @Tw.sRet
theorem sRet_eq : @I.sRet = @Tw.sRet := by unfold I.sRet; rfl
@[irreducible] def sSet := @Tw.sSet
theorem sSet_eq : @I.sSet = @Tw.sSet := by unfold I.sSet; rfl
@[irreducible] def sIf := @Tw.sIf
theorem sIf_eq : @I.sIf = @Tw.sIf := by unfold I.sIf; rfl
@[irreducible] def sAsg := @Tw.sAsg
theorem sAsg_eq : @I.sAsg = @Tw.sAsg := by unfold I.sAsg; rfl
@[irreducible] def sStore := @Tw.sStore
theorem sStore_eq : @I.sStore = @Tw.sStore := by unfold I.sStore; rfl
@[irreducible] def sPar := @Tw.sPar
theorem sPar_eq : @I.sPar = @Tw.sPar := by unfold I.sPar; rfl
@[irreducible] def sPar3 := @Tw.sPar3
theorem sPar3_eq : @I.sPar3 = @Tw.sPar3 := by unfold I.sPar3; rfl
@[irreducible] def sAug := @Tw.sAug
theorem sAug_eq : @I.sAug = @Tw.sAug := by unfold I.sAug; rfl
@[irreducible] def sFor := @Tw.sFor
theorem sFor_eq : @I.sFor = @Tw.sFor := by unfold I.sFor; rfl
@[irreducible] def stp := @Tw.stp
theorem stp_eq : @I.stp = @Tw.stp := by unfold I.stp; rfl
@[irreducible] def fnD := @Tw.fnD
theorem fnD_eq : @I.fnD = @Tw.fnD := by unfold I.fnD; rfl
@[irreducible] def gIxD := @Tw.gIxD
theorem gIxD_eq : @I.gIxD = @Tw.gIxD := by unfold I.gIxD; rfl
@[irreducible] def gAdd := @Tw.gAdd
theorem gAdd_eq : @I.gAdd = @Tw.gAdd := by unfold I.gAdd; rfl
@[irreducible] def gSub := @Tw.gSub
theorem gSub_eq : @I.gSub = @Tw.gSub := by unfold I.gSub; rfl
@[irreducible] def gMulI := @Tw.gMulI
theorem gMulI_eq : @I.gMulI = @Tw.gMulI := by unfold I.gMulI; rfl
@[irreducible] def gFdiv := @Tw.gFdiv
theorem gFdiv_eq : @I.gFdiv = @Tw.gFdiv := by unfold I.gFdiv; rfl
@[irreducible] def gMod := @Tw.gMod
theorem gMod_eq : @I.gMod = @Tw.gMod := by unfold I.gMod; rfl
@[irreducible] def gPow := @Tw.gPow
theorem gPow_eq : @I.gPow = @Tw.gPow := by unfold I.gPow; rfl
@[irreducible] def gLt := @Tw.gLt
theorem gLt_eq : @I.gLt = @Tw.gLt := by unfold I.gLt; rfl
@[irreducible] def gLe := @Tw.gLe
theorem gLe_eq : @I.gLe = @Tw.gLe := by unfold I.gLe; rfl
@[irreducible] def gGt := @Tw.gGt
theorem gGt_eq : @I.gGt = @Tw.gGt := by unfold I.gGt; rfl
@[irreducible] def gGe := @Tw.gGe
theorem gGe_eq : @I.gGe = @Tw.gGe := by unfold I.gGe; rfl
@[irreducible] def gNeg := @Tw.gNeg
theorem gNeg_eq : @I.gNeg = @Tw.gNeg := by unfold I.gNeg; rfl
@[irreducible] def gEqD := @Tw.gEqD
theorem gEqD_eq : @I.gEqD = @Tw.gEqD := by unfold I.gEqD; rfl
@[irreducible] def gIs := @Tw.gIs
theorem gIs_eq : @I.gIs = @Tw.gIs := by unfold I.gIs; rfl
@[irreducible] def gIsNot := @Tw.gIsNot
theorem gIsNot_eq : @I.gIsNot = @Tw.gIsNot := by unfold I.gIsNot; rfl
@[irreducible] def bLen := @Tw.bLen
theorem bLen_eq : @I.bLen = @Tw.bLen := by unfold I.bLen; rfl
@[irreducible] def bInt := @Tw.bInt
theorem bInt_eq : @I.bInt = @Tw.bInt := by unfold I.bInt; rfl
@[irreducible] def bTuple := @Tw.bTuple
theorem bTuple_eq : @I.bTuple = @Tw.bTuple := by unfold I.bTuple; rfl
@[irreducible] def bListD := @Tw.bListD
theorem bListD_eq : @I.bListD = @Tw.bListD := by unfold I.bListD; rfl
@[irreducible] def mTup := @Tw.mTup
theorem mTup_eq : @I.mTup = @Tw.mTup := by unfold I.mTup; rfl
@[irreducible] def mLst := @Tw.mLst
theorem mLst_eq : @I.mLst = @Tw.mLst := by unfold I.mLst; rfl
@[irreducible] def mNew := @Tw.mNew
theorem mNew_eq : @I.mNew = @Tw.mNew := by unfold I.mNew; rfl
@[irreducible] def mSeq := @Tw.mSeq
theorem mSeq_eq : @I.mSeq = @Tw.mSeq := by unfold I.mSeq; rfl
@[irreducible] def mTru := @Tw.mTru
theorem mTru_eq : @I.mTru = @Tw.mTru := by unfold I.mTru; rfl
@[irreducible] def mCut := @Tw.mCut
theorem mCut_eq : @I.mCut = @Tw.mCut := by unfold I.mCut; rfl
@[irreducible] def mPut := @Tw.mPut
theorem mPut_eq : @I.mPut = @Tw.mPut := by unfold I.mPut; rfl
@[irreducible] def bAll := @Tw.bAll
theorem bAll_eq : @I.bAll = @Tw.bAll := by unfold I.bAll; rfl
@[irreducible] def bAny := @Tw.bAny
theorem bAny_eq : @I.bAny = @Tw.bAny := by unfold I.bAny; rfl
@[irreducible] def bSum := @Tw.bSum
theorem bSum_eq : @I.bSum = @Tw.bSum := by unfold I.bSum; rfl
@[irreducible] def bSorted := @Tw.bSorted
theorem bSorted_eq : @I.bSorted = @Tw.bSorted := by unfold I.bSorted; rfl
@[irreducible] def bMax := @Tw.bMax
theorem bMax_eq : @I.bMax = @Tw.bMax := by unfold I.bMax; rfl
@[irreducible] def bMin := @Tw.bMin
theorem bMin_eq : @I.bMin = @Tw.bMin := by unfold I.bMin; rfl
@[irreducible] def kMM := @Tw.kMM
theorem kMM_eq : @I.kMM = @Tw.kMM := by unfold I.kMM; rfl
@[irreducible] def bIsi := @Tw.bIsi
theorem bIsi_eq : @I.bIsi = @Tw.bIsi := by unfold I.bIsi; rfl
@[irreducible] def mIt := @Tw.mIt
theorem mIt_eq : @I.mIt = @Tw.mIt := by unfold I.mIt; rfl
@[irreducible] def mEnu := @Tw.mEnu
theorem mEnu_eq : @I.mEnu = @Tw.mEnu := by unfold I.mEnu; rfl
@[irreducible] def mZip := @Tw.mZip
theorem mZip_eq : @I.mZip = @Tw.mZip := by unfold I.mZip; rfl
@[irreducible] def forL := @Tw.forL
theorem forL_eq : @I.forL = @Tw.forL := by unfold I.forL; rfl
@[irreducible] def whileL := @Tw.whileL
theorem whileL_eq : @I.whileL = @Tw.whileL := by unfold I.whileL; rfl
@[irreducible] def lcL := @Tw.lcL
theorem lcL_eq : @I.lcL = @Tw.lcL := by unfold I.lcL; rfl
@[irreducible] def lcO := @Tw.lcO
theorem lcO_eq : @I.lcO = @Tw.lcO := by unfold I.lcO; rfl
@[irreducible] def lcB2 := @Tw.lcB2
theorem lcB2_eq : @I.lcB2 = @Tw.lcB2 := by unfold I.lcB2; rfl
@[irreducible] def cDisp := @Tw.cDisp
theorem cDisp_eq : @I.cDisp = @Tw.cDisp := by unfold I.cDisp; rfl
@[irreducible] def gIn := @Tw.gIn
theorem gIn_eq : @I.gIn = @Tw.gIn := by unfold I.gIn; rfl
@[irreducible] def mUpd := @Tw.mUpd
theorem mUpd_eq : @I.mUpd = @Tw.mUpd := by unfold I.mUpd; rfl
@[irreducible] def mApp := @Tw.mApp
theorem mApp_eq : @I.mApp = @Tw.mApp := by unfold I.mApp; rfl
@[irreducible] def mAttr := @Tw.mAttr
theorem mAttr_eq : @I.mAttr = @Tw.mAttr := by unfold I.mAttr; rfl
@[irreducible] def cMethO := @Tw.cMethO
theorem cMethO_eq : @I.cMethO = @Tw.cMethO := by unfold I.cMethO; rfl
@[irreducible] def mMake := @Tw.mMake
theorem mMake_eq : @I.mMake = @Tw.mMake := by unfold I.mMake; rfl
@[irreducible] def cMkK := @Tw.cMkK
theorem cMkK_eq : @I.cMkK = @Tw.cMkK := by unfold I.cMkK; rfl
@[irreducible] def sSetA := @Tw.sSetA
theorem sSetA_eq : @I.sSetA = @Tw.sSetA := by unfold I.sSetA; rfl
@[irreducible] def sAugA := @Tw.sAugA
theorem sAugA_eq : @I.sAugA = @Tw.sAugA := by unfold I.sAugA; rfl
@[irreducible] def bLenO := @Tw.bLenO
theorem bLenO_eq : @I.bLenO = @Tw.bLenO := by unfold I.bLenO; rfl
@[irreducible] def sFrz := @Tw.sFrz
theorem sFrz_eq : @I.sFrz = @Tw.sFrz := by unfold I.sFrz; rfl
@[irreducible] def cRepL := @Tw.cRepL
theorem cRepL_eq : @I.cRepL = @Tw.cRepL := by unfold I.cRepL; rfl
@[irreducible] def mRev := @Tw.mRev
theorem mRev_eq : @I.mRev = @Tw.mRev := by unfold I.mRev; rfl
@[irreducible] def iRg3 := @Tw.iRg3
theorem iRg3_eq : @I.iRg3 = @Tw.iRg3 := by unfold I.iRg3; rfl
@[irreducible] def cCall0 := @Tw.cCall0
theorem cCall0_eq : @I.cCall0 = @Tw.cCall0 := by unfold I.cCall0; rfl
@[irreducible] def bListN := @Tw.bListN
theorem bListN_eq : @I.bListN = @Tw.bListN := by unfold I.bListN; rfl
@[irreducible] def mRepL := @Tw.mRepL
theorem mRepL_eq : @I.mRepL = @Tw.mRepL := by unfold I.mRepL; rfl
@[irreducible] def mRg3 := @Tw.mRg3
theorem mRg3_eq : @I.mRg3 = @Tw.mRg3 := by unfold I.mRg3; rfl
@[irreducible] def gMulJ := @Tw.gMulJ
theorem gMulJ_eq : @I.gMulJ = @Tw.gMulJ := by unfold I.gMulJ; rfl
end I
@[irreducible] def OkI {α : Type} (r : Res α) (P : α → Store → Prop) (E : Exc → Store → Prop) : Prop := Ok r P E
theorem OkI_eq : @OkI = @Ok := by unfold OkI; rfl
section
variable {α : Type} {P : α → Store → Prop} {E : Exc → Store → Prop} {μ : Store}
theorem OkI.mono {r : Res α} {Q : α → Store → Prop} {F : Exc → Store → Prop} (h : OkI r P E) (q : ∀ a μ, P a μ → Q a μ) (x : ∀ e μ, E e μ → F e μ) : OkI r Q F := by
  rw [OkI_eq] at *
  exact Ok.mono h q x
theorem OkI.imp {r : Res α} {Q : α → Store → Prop} {F : Exc → Store → Prop} (h : OkI r P fun _ _ => False) (q : ∀ a μ, P a μ → Q a μ) : OkI r Q F := by
  rw [OkI_eq] at *
  exact Ok.imp h q
theorem OkI.of_eq {r : Res α} {a : α} (e : r = .ok a μ) (h : P a μ) : OkI r P E := by
  rw [OkI_eq]
  exact Ok.of_eq e h
theorem OkI.ex {r : Res α} {a : α} (h : OkI r (fun t _ => t = a) fun _ _ => False) : ∃ μ, r = .ok a μ := by
  rw [OkI_eq] at h
  exact Ok.ex h
theorem eq_of_okI {r : Res α} {a : α} {μ : Store} (h : OkI r (fun x μ' => x = a ∧ μ' = μ) fun _ _ => False) : r = .ok a μ := by
  rw [OkI_eq] at h
  exact eq_of_ok h
theorem okI_noX {m : M α} : OkI (noX m μ) P E = OkI (m μ) P (fun _ _ => False) := by
  rw [OkI_eq]
  exact ok_noX
end
namespace RI
open R (IsBl IsInt IsI1 IsI2 Len seqQ fnQ dfl)
section
variable {μ : Store} {ρ : Env} {P : T → Store → Prop} {PL : List T → Store → Prop} {PB : Bool → Store → Prop} {E : Exc → Store → Prop} {a b c : Env → M T} {as : Env → M (List T)} {Q : Out → Store → Prop} {s s' : Env → M Out}
theorem now {α : Type} {x : α} {P : α → Store → Prop} (h : P x μ) : OkI (.ok x μ) P E := by
  simp only [OkI_eq, I.cVar_eq, I.cK_eq, I.c1_eq, I.c2_eq, I.cN_eq, I.aNil_eq, I.aCons_eq, I.aStar_eq, I.cTest_eq, I.cTru_eq, I.cAnd_eq, I.cOr_eq, I.cNot_eq, I.cYes_eq, I.cIf_eq, I.cAndT_eq, I.cOrT_eq, I.cNotT_eq, I.cChain_eq, I.cCall_eq, I.cSlice_eq, I.oNone_eq, I.oSome_eq, I.cKw_eq, I.cMeth_eq, I.cRgL1_eq, I.cRgL2_eq, I.iSeq_eq, I.iRg1_eq, I.iRg2_eq, I.iZp_eq, I.iEn_eq, I.cLc_eq, I.cLc2_eq, I.lcT_eq, I.sNil_eq, I.sPass_eq, I.sBreak_eq, I.sCont_eq, I.sBad_eq, I.sRetN_eq, I.sSeq_eq, I.sExpr_eq, I.sRet_eq, I.sSet_eq, I.sIf_eq, I.sAsg_eq, I.sStore_eq, I.sPar_eq, I.sPar3_eq, I.sAug_eq, I.sFor_eq, I.stp_eq, I.fnD_eq, I.gIxD_eq, I.gAdd_eq, I.gSub_eq, I.gMulI_eq, I.gFdiv_eq, I.gMod_eq, I.gPow_eq, I.gLt_eq, I.gLe_eq, I.gGt_eq, I.gGe_eq, I.gNeg_eq, I.gEqD_eq, I.gIs_eq, I.gIsNot_eq, I.bLen_eq, I.bInt_eq, I.bTuple_eq, I.bListD_eq, I.mTup_eq, I.mLst_eq, I.mNew_eq, I.mSeq_eq, I.mTru_eq, I.mCut_eq, I.mPut_eq, I.bAll_eq, I.bAny_eq, I.bSum_eq, I.bSorted_eq, I.bMax_eq, I.bMin_eq, I.kMM_eq, I.bIsi_eq, I.mIt_eq, I.mEnu_eq, I.mZip_eq, I.forL_eq, I.whileL_eq, I.lcL_eq, I.lcO_eq, I.lcB2_eq, I.cDisp_eq, I.gIn_eq, I.mUpd_eq, I.mApp_eq, I.mAttr_eq, I.cMethO_eq, I.mMake_eq, I.cMkK_eq, I.sSetA_eq, I.sAugA_eq, I.bLenO_eq, I.sFrz_eq, I.cRepL_eq, I.mRev_eq, I.iRg3_eq, I.cCall0_eq, I.bListN_eq, I.mRepL_eq, I.mRg3_eq, I.gMulJ_eq] at *
  exact R.now h
theorem cVar {i : Nat} {t : T} (e : ρ[i]? = some (some t)) (h : P t μ) : OkI (I.cVar i ρ μ) P E := by
  simp only [OkI_eq, I.cVar_eq, I.cK_eq, I.c1_eq, I.c2_eq, I.cN_eq, I.aNil_eq, I.aCons_eq, I.aStar_eq, I.cTest_eq, I.cTru_eq, I.cAnd_eq, I.cOr_eq, I.cNot_eq, I.cYes_eq, I.cIf_eq, I.cAndT_eq, I.cOrT_eq, I.cNotT_eq, I.cChain_eq, I.cCall_eq, I.cSlice_eq, I.oNone_eq, I.oSome_eq, I.cKw_eq, I.cMeth_eq, I.cRgL1_eq, I.cRgL2_eq, I.iSeq_eq, I.iRg1_eq, I.iRg2_eq, I.iZp_eq, I.iEn_eq, I.cLc_eq, I.cLc2_eq, I.lcT_eq, I.sNil_eq, I.sPass_eq, I.sBreak_eq, I.sCont_eq, I.sBad_eq, I.sRetN_eq, I.sSeq_eq, I.sExpr_eq, I.sRet_eq, I.sSet_eq, I.sIf_eq, I.sAsg_eq, I.sStore_eq, I.sPar_eq, I.sPar3_eq, I.sAug_eq, I.sFor_eq, I.stp_eq, I.fnD_eq, I.gIxD_eq, I.gAdd_eq, I.gSub_eq, I.gMulI_eq, I.gFdiv_eq, I.gMod_eq, I.gPow_eq, I.gLt_eq, I.gLe_eq, I.gGt_eq, I.gGe_eq, I.gNeg_eq, I.gEqD_eq, I.gIs_eq, I.gIsNot_eq, I.bLen_eq, I.bInt_eq, I.bTuple_eq, I.bListD_eq, I.mTup_eq, I.mLst_eq, I.mNew_eq, I.mSeq_eq, I.mTru_eq, I.mCut_eq, I.mPut_eq, I.bAll_eq, I.bAny_eq, I.bSum_eq, I.bSorted_eq, I.bMax_eq, I.bMin_eq, I.kMM_eq, I.bIsi_eq, I.mIt_eq, I.mEnu_eq, I.mZip_eq, I.forL_eq, I.whileL_eq, I.lcL_eq, I.lcO_eq, I.lcB2_eq, I.cDisp_eq, I.gIn_eq, I.mUpd_eq, I.mApp_eq, I.mAttr_eq, I.cMethO_eq, I.mMake_eq, I.cMkK_eq, I.sSetA_eq, I.sAugA_eq, I.bLenO_eq, I.sFrz_eq, I.cRepL_eq, I.mRev_eq, I.iRg3_eq, I.cCall0_eq, I.bListN_eq, I.mRepL_eq, I.mRg3_eq, I.gMulJ_eq] at *
  exact R.cVar e h
theorem cK {t : T} (h : P t μ) : OkI (I.cK t ρ μ) P E := by
  simp only [OkI_eq, I.cVar_eq, I.cK_eq, I.c1_eq, I.c2_eq, I.cN_eq, I.aNil_eq, I.aCons_eq, I.aStar_eq, I.cTest_eq, I.cTru_eq, I.cAnd_eq, I.cOr_eq, I.cNot_eq, I.cYes_eq, I.cIf_eq, I.cAndT_eq, I.cOrT_eq, I.cNotT_eq, I.cChain_eq, I.cCall_eq, I.cSlice_eq, I.oNone_eq, I.oSome_eq, I.cKw_eq, I.cMeth_eq, I.cRgL1_eq, I.cRgL2_eq, I.iSeq_eq, I.iRg1_eq, I.iRg2_eq, I.iZp_eq, I.iEn_eq, I.cLc_eq, I.cLc2_eq, I.lcT_eq, I.sNil_eq, I.sPass_eq, I.sBreak_eq, I.sCont_eq, I.sBad_eq, I.sRetN_eq, I.sSeq_eq, I.sExpr_eq, I.sRet_eq, I.sSet_eq, I.sIf_eq, I.sAsg_eq, I.sStore_eq, I.sPar_eq, I.sPar3_eq, I.sAug_eq, I.sFor_eq, I.stp_eq, I.fnD_eq, I.gIxD_eq, I.gAdd_eq, I.gSub_eq, I.gMulI_eq, I.gFdiv_eq, I.gMod_eq, I.gPow_eq, I.gLt_eq, I.gLe_eq, I.gGt_eq, I.gGe_eq, I.gNeg_eq, I.gEqD_eq, I.gIs_eq, I.gIsNot_eq, I.bLen_eq, I.bInt_eq, I.bTuple_eq, I.bListD_eq, I.mTup_eq, I.mLst_eq, I.mNew_eq, I.mSeq_eq, I.mTru_eq, I.mCut_eq, I.mPut_eq, I.bAll_eq, I.bAny_eq, I.bSum_eq, I.bSorted_eq, I.bMax_eq, I.bMin_eq, I.kMM_eq, I.bIsi_eq, I.mIt_eq, I.mEnu_eq, I.mZip_eq, I.forL_eq, I.whileL_eq, I.lcL_eq, I.lcO_eq, I.lcB2_eq, I.cDisp_eq, I.gIn_eq, I.mUpd_eq, I.mApp_eq, I.mAttr_eq, I.cMethO_eq, I.mMake_eq, I.cMkK_eq, I.sSetA_eq, I.sAugA_eq, I.bLenO_eq, I.sFrz_eq, I.cRepL_eq, I.mRev_eq, I.iRg3_eq, I.cCall0_eq, I.bListN_eq, I.mRepL_eq, I.mRg3_eq, I.gMulJ_eq] at *
  exact R.cK h
theorem c1 {g : T → M T} (h : OkI (a ρ μ) (fun x μ' => OkI (g x μ') P E) E) : OkI (I.c1 g a ρ μ) P E := by
  simp only [OkI_eq, I.cVar_eq, I.cK_eq, I.c1_eq, I.c2_eq, I.cN_eq, I.aNil_eq, I.aCons_eq, I.aStar_eq, I.cTest_eq, I.cTru_eq, I.cAnd_eq, I.cOr_eq, I.cNot_eq, I.cYes_eq, I.cIf_eq, I.cAndT_eq, I.cOrT_eq, I.cNotT_eq, I.cChain_eq, I.cCall_eq, I.cSlice_eq, I.oNone_eq, I.oSome_eq, I.cKw_eq, I.cMeth_eq, I.cRgL1_eq, I.cRgL2_eq, I.iSeq_eq, I.iRg1_eq, I.iRg2_eq, I.iZp_eq, I.iEn_eq, I.cLc_eq, I.cLc2_eq, I.lcT_eq, I.sNil_eq, I.sPass_eq, I.sBreak_eq, I.sCont_eq, I.sBad_eq, I.sRetN_eq, I.sSeq_eq, I.sExpr_eq, I.sRet_eq, I.sSet_eq, I.sIf_eq, I.sAsg_eq, I.sStore_eq, I.sPar_eq, I.sPar3_eq, I.sAug_eq, I.sFor_eq, I.stp_eq, I.fnD_eq, I.gIxD_eq, I.gAdd_eq, I.gSub_eq, I.gMulI_eq, I.gFdiv_eq, I.gMod_eq, I.gPow_eq, I.gLt_eq, I.gLe_eq, I.gGt_eq, I.gGe_eq, I.gNeg_eq, I.gEqD_eq, I.gIs_eq, I.gIsNot_eq, I.bLen_eq, I.bInt_eq, I.bTuple_eq, I.bListD_eq, I.mTup_eq, I.mLst_eq, I.mNew_eq, I.mSeq_eq, I.mTru_eq, I.mCut_eq, I.mPut_eq, I.bAll_eq, I.bAny_eq, I.bSum_eq, I.bSorted_eq, I.bMax_eq, I.bMin_eq, I.kMM_eq, I.bIsi_eq, I.mIt_eq, I.mEnu_eq, I.mZip_eq, I.forL_eq, I.whileL_eq, I.lcL_eq, I.lcO_eq, I.lcB2_eq, I.cDisp_eq, I.gIn_eq, I.mUpd_eq, I.mApp_eq, I.mAttr_eq, I.cMethO_eq, I.mMake_eq, I.cMkK_eq, I.sSetA_eq, I.sAugA_eq, I.bLenO_eq, I.sFrz_eq, I.cRepL_eq, I.mRev_eq, I.iRg3_eq, I.cCall0_eq, I.bListN_eq, I.mRepL_eq, I.mRg3_eq, I.gMulJ_eq] at *
  exact R.c1 h
theorem c2 {g : T → T → M T} (h : OkI (a ρ μ) (fun x μ' => OkI (b ρ μ') (fun y μ'' => OkI (g x y μ'') P E) E) E) : OkI (I.c2 g a b ρ μ) P E := by
  simp only [OkI_eq, I.cVar_eq, I.cK_eq, I.c1_eq, I.c2_eq, I.cN_eq, I.aNil_eq, I.aCons_eq, I.aStar_eq, I.cTest_eq, I.cTru_eq, I.cAnd_eq, I.cOr_eq, I.cNot_eq, I.cYes_eq, I.cIf_eq, I.cAndT_eq, I.cOrT_eq, I.cNotT_eq, I.cChain_eq, I.cCall_eq, I.cSlice_eq, I.oNone_eq, I.oSome_eq, I.cKw_eq, I.cMeth_eq, I.cRgL1_eq, I.cRgL2_eq, I.iSeq_eq, I.iRg1_eq, I.iRg2_eq, I.iZp_eq, I.iEn_eq, I.cLc_eq, I.cLc2_eq, I.lcT_eq, I.sNil_eq, I.sPass_eq, I.sBreak_eq, I.sCont_eq, I.sBad_eq, I.sRetN_eq, I.sSeq_eq, I.sExpr_eq, I.sRet_eq, I.sSet_eq, I.sIf_eq, I.sAsg_eq, I.sStore_eq, I.sPar_eq, I.sPar3_eq, I.sAug_eq, I.sFor_eq, I.stp_eq, I.fnD_eq, I.gIxD_eq, I.gAdd_eq, I.gSub_eq, I.gMulI_eq, I.gFdiv_eq, I.gMod_eq, I.gPow_eq, I.gLt_eq, I.gLe_eq, I.gGt_eq, I.gGe_eq, I.gNeg_eq, I.gEqD_eq, I.gIs_eq, I.gIsNot_eq, I.bLen_eq, I.bInt_eq, I.bTuple_eq, I.bListD_eq, I.mTup_eq, I.mLst_eq, I.mNew_eq, I.mSeq_eq, I.mTru_eq, I.mCut_eq, I.mPut_eq, I.bAll_eq, I.bAny_eq, I.bSum_eq, I.bSorted_eq, I.bMax_eq, I.bMin_eq, I.kMM_eq, I.bIsi_eq, I.mIt_eq, I.mEnu_eq, I.mZip_eq, I.forL_eq, I.whileL_eq, I.lcL_eq, I.lcO_eq, I.lcB2_eq, I.cDisp_eq, I.gIn_eq, I.mUpd_eq, I.mApp_eq, I.mAttr_eq, I.cMethO_eq, I.mMake_eq, I.cMkK_eq, I.sSetA_eq, I.sAugA_eq, I.bLenO_eq, I.sFrz_eq, I.cRepL_eq, I.mRev_eq, I.iRg3_eq, I.cCall0_eq, I.bListN_eq, I.mRepL_eq, I.mRg3_eq, I.gMulJ_eq] at *
  exact R.c2 h
theorem cN {g : List T → M T} (h : OkI (as ρ μ) (fun x μ' => OkI (g x μ') P E) E) : OkI (I.cN g as ρ μ) P E := by
  simp only [OkI_eq, I.cVar_eq, I.cK_eq, I.c1_eq, I.c2_eq, I.cN_eq, I.aNil_eq, I.aCons_eq, I.aStar_eq, I.cTest_eq, I.cTru_eq, I.cAnd_eq, I.cOr_eq, I.cNot_eq, I.cYes_eq, I.cIf_eq, I.cAndT_eq, I.cOrT_eq, I.cNotT_eq, I.cChain_eq, I.cCall_eq, I.cSlice_eq, I.oNone_eq, I.oSome_eq, I.cKw_eq, I.cMeth_eq, I.cRgL1_eq, I.cRgL2_eq, I.iSeq_eq, I.iRg1_eq, I.iRg2_eq, I.iZp_eq, I.iEn_eq, I.cLc_eq, I.cLc2_eq, I.lcT_eq, I.sNil_eq, I.sPass_eq, I.sBreak_eq, I.sCont_eq, I.sBad_eq, I.sRetN_eq, I.sSeq_eq, I.sExpr_eq, I.sRet_eq, I.sSet_eq, I.sIf_eq, I.sAsg_eq, I.sStore_eq, I.sPar_eq, I.sPar3_eq, I.sAug_eq, I.sFor_eq, I.stp_eq, I.fnD_eq, I.gIxD_eq, I.gAdd_eq, I.gSub_eq, I.gMulI_eq, I.gFdiv_eq, I.gMod_eq, I.gPow_eq, I.gLt_eq, I.gLe_eq, I.gGt_eq, I.gGe_eq, I.gNeg_eq, I.gEqD_eq, I.gIs_eq, I.gIsNot_eq, I.bLen_eq, I.bInt_eq, I.bTuple_eq, I.bListD_eq, I.mTup_eq, I.mLst_eq, I.mNew_eq, I.mSeq_eq, I.mTru_eq, I.mCut_eq, I.mPut_eq, I.bAll_eq, I.bAny_eq, I.bSum_eq, I.bSorted_eq, I.bMax_eq, I.bMin_eq, I.kMM_eq, I.bIsi_eq, I.mIt_eq, I.mEnu_eq, I.mZip_eq, I.forL_eq, I.whileL_eq, I.lcL_eq, I.lcO_eq, I.lcB2_eq, I.cDisp_eq, I.gIn_eq, I.mUpd_eq, I.mApp_eq, I.mAttr_eq, I.cMethO_eq, I.mMake_eq, I.cMkK_eq, I.sSetA_eq, I.sAugA_eq, I.bLenO_eq, I.sFrz_eq, I.cRepL_eq, I.mRev_eq, I.iRg3_eq, I.cCall0_eq, I.bListN_eq, I.mRepL_eq, I.mRg3_eq, I.gMulJ_eq] at *
  exact R.cN h
theorem aNil (h : PL [] μ) : OkI (I.aNil ρ μ) PL E := by
  simp only [OkI_eq, I.cVar_eq, I.cK_eq, I.c1_eq, I.c2_eq, I.cN_eq, I.aNil_eq, I.aCons_eq, I.aStar_eq, I.cTest_eq, I.cTru_eq, I.cAnd_eq, I.cOr_eq, I.cNot_eq, I.cYes_eq, I.cIf_eq, I.cAndT_eq, I.cOrT_eq, I.cNotT_eq, I.cChain_eq, I.cCall_eq, I.cSlice_eq, I.oNone_eq, I.oSome_eq, I.cKw_eq, I.cMeth_eq, I.cRgL1_eq, I.cRgL2_eq, I.iSeq_eq, I.iRg1_eq, I.iRg2_eq, I.iZp_eq, I.iEn_eq, I.cLc_eq, I.cLc2_eq, I.lcT_eq, I.sNil_eq, I.sPass_eq, I.sBreak_eq, I.sCont_eq, I.sBad_eq, I.sRetN_eq, I.sSeq_eq, I.sExpr_eq, I.sRet_eq, I.sSet_eq, I.sIf_eq, I.sAsg_eq, I.sStore_eq, I.sPar_eq, I.sPar3_eq, I.sAug_eq, I.sFor_eq, I.stp_eq, I.fnD_eq, I.gIxD_eq, I.gAdd_eq, I.gSub_eq, I.gMulI_eq, I.gFdiv_eq, I.gMod_eq, I.gPow_eq, I.gLt_eq, I.gLe_eq, I.gGt_eq, I.gGe_eq, I.gNeg_eq, I.gEqD_eq, I.gIs_eq, I.gIsNot_eq, I.bLen_eq, I.bInt_eq, I.bTuple_eq, I.bListD_eq, I.mTup_eq, I.mLst_eq, I.mNew_eq, I.mSeq_eq, I.mTru_eq, I.mCut_eq, I.mPut_eq, I.bAll_eq, I.bAny_eq, I.bSum_eq, I.bSorted_eq, I.bMax_eq, I.bMin_eq, I.kMM_eq, I.bIsi_eq, I.mIt_eq, I.mEnu_eq, I.mZip_eq, I.forL_eq, I.whileL_eq, I.lcL_eq, I.lcO_eq, I.lcB2_eq, I.cDisp_eq, I.gIn_eq, I.mUpd_eq, I.mApp_eq, I.mAttr_eq, I.cMethO_eq, I.mMake_eq, I.cMkK_eq, I.sSetA_eq, I.sAugA_eq, I.bLenO_eq, I.sFrz_eq, I.cRepL_eq, I.mRev_eq, I.iRg3_eq, I.cCall0_eq, I.bListN_eq, I.mRepL_eq, I.mRg3_eq, I.gMulJ_eq] at *
  exact R.aNil h
theorem aCons (h : OkI (a ρ μ) (fun x μ' => OkI (as ρ μ') (fun y μ'' => PL (x :: y) μ'') E) E) : OkI (I.aCons a as ρ μ) PL E := by
  simp only [OkI_eq, I.cVar_eq, I.cK_eq, I.c1_eq, I.c2_eq, I.cN_eq, I.aNil_eq, I.aCons_eq, I.aStar_eq, I.cTest_eq, I.cTru_eq, I.cAnd_eq, I.cOr_eq, I.cNot_eq, I.cYes_eq, I.cIf_eq, I.cAndT_eq, I.cOrT_eq, I.cNotT_eq, I.cChain_eq, I.cCall_eq, I.cSlice_eq, I.oNone_eq, I.oSome_eq, I.cKw_eq, I.cMeth_eq, I.cRgL1_eq, I.cRgL2_eq, I.iSeq_eq, I.iRg1_eq, I.iRg2_eq, I.iZp_eq, I.iEn_eq, I.cLc_eq, I.cLc2_eq, I.lcT_eq, I.sNil_eq, I.sPass_eq, I.sBreak_eq, I.sCont_eq, I.sBad_eq, I.sRetN_eq, I.sSeq_eq, I.sExpr_eq, I.sRet_eq, I.sSet_eq, I.sIf_eq, I.sAsg_eq, I.sStore_eq, I.sPar_eq, I.sPar3_eq, I.sAug_eq, I.sFor_eq, I.stp_eq, I.fnD_eq, I.gIxD_eq, I.gAdd_eq, I.gSub_eq, I.gMulI_eq, I.gFdiv_eq, I.gMod_eq, I.gPow_eq, I.gLt_eq, I.gLe_eq, I.gGt_eq, I.gGe_eq, I.gNeg_eq, I.gEqD_eq, I.gIs_eq, I.gIsNot_eq, I.bLen_eq, I.bInt_eq, I.bTuple_eq, I.bListD_eq, I.mTup_eq, I.mLst_eq, I.mNew_eq, I.mSeq_eq, I.mTru_eq, I.mCut_eq, I.mPut_eq, I.bAll_eq, I.bAny_eq, I.bSum_eq, I.bSorted_eq, I.bMax_eq, I.bMin_eq, I.kMM_eq, I.bIsi_eq, I.mIt_eq, I.mEnu_eq, I.mZip_eq, I.forL_eq, I.whileL_eq, I.lcL_eq, I.lcO_eq, I.lcB2_eq, I.cDisp_eq, I.gIn_eq, I.mUpd_eq, I.mApp_eq, I.mAttr_eq, I.cMethO_eq, I.mMake_eq, I.cMkK_eq, I.sSetA_eq, I.sAugA_eq, I.bLenO_eq, I.sFrz_eq, I.cRepL_eq, I.mRev_eq, I.iRg3_eq, I.cCall0_eq, I.bListN_eq, I.mRepL_eq, I.mRg3_eq, I.gMulJ_eq] at *
  exact R.aCons h
theorem aStar (h : OkI (a ρ μ) (fun x μ' => OkI (I.mSeq x μ') (fun xs μ1 => OkI (as ρ μ1) (fun y μ'' => PL (xs ++ y) μ'') E) E) E) : OkI (I.aStar a as ρ μ) PL E := by
  simp only [OkI_eq, I.cVar_eq, I.cK_eq, I.c1_eq, I.c2_eq, I.cN_eq, I.aNil_eq, I.aCons_eq, I.aStar_eq, I.cTest_eq, I.cTru_eq, I.cAnd_eq, I.cOr_eq, I.cNot_eq, I.cYes_eq, I.cIf_eq, I.cAndT_eq, I.cOrT_eq, I.cNotT_eq, I.cChain_eq, I.cCall_eq, I.cSlice_eq, I.oNone_eq, I.oSome_eq, I.cKw_eq, I.cMeth_eq, I.cRgL1_eq, I.cRgL2_eq, I.iSeq_eq, I.iRg1_eq, I.iRg2_eq, I.iZp_eq, I.iEn_eq, I.cLc_eq, I.cLc2_eq, I.lcT_eq, I.sNil_eq, I.sPass_eq, I.sBreak_eq, I.sCont_eq, I.sBad_eq, I.sRetN_eq, I.sSeq_eq, I.sExpr_eq, I.sRet_eq, I.sSet_eq, I.sIf_eq, I.sAsg_eq, I.sStore_eq, I.sPar_eq, I.sPar3_eq, I.sAug_eq, I.sFor_eq, I.stp_eq, I.fnD_eq, I.gIxD_eq, I.gAdd_eq, I.gSub_eq, I.gMulI_eq, I.gFdiv_eq, I.gMod_eq, I.gPow_eq, I.gLt_eq, I.gLe_eq, I.gGt_eq, I.gGe_eq, I.gNeg_eq, I.gEqD_eq, I.gIs_eq, I.gIsNot_eq, I.bLen_eq, I.bInt_eq, I.bTuple_eq, I.bListD_eq, I.mTup_eq, I.mLst_eq, I.mNew_eq, I.mSeq_eq, I.mTru_eq, I.mCut_eq, I.mPut_eq, I.bAll_eq, I.bAny_eq, I.bSum_eq, I.bSorted_eq, I.bMax_eq, I.bMin_eq, I.kMM_eq, I.bIsi_eq, I.mIt_eq, I.mEnu_eq, I.mZip_eq, I.forL_eq, I.whileL_eq, I.lcL_eq, I.lcO_eq, I.lcB2_eq, I.cDisp_eq, I.gIn_eq, I.mUpd_eq, I.mApp_eq, I.mAttr_eq, I.cMethO_eq, I.mMake_eq, I.cMkK_eq, I.sSetA_eq, I.sAugA_eq, I.bLenO_eq, I.sFrz_eq, I.cRepL_eq, I.mRev_eq, I.iRg3_eq, I.cCall0_eq, I.bListN_eq, I.mRepL_eq, I.mRg3_eq, I.gMulJ_eq] at *
  exact R.aStar h
theorem cTest (h : OkI (a ρ μ) (fun x μ' => IsBl x fun k => PB k μ') E) : OkI (I.cTest a ρ μ) PB E := by
  simp only [OkI_eq, I.cVar_eq, I.cK_eq, I.c1_eq, I.c2_eq, I.cN_eq, I.aNil_eq, I.aCons_eq, I.aStar_eq, I.cTest_eq, I.cTru_eq, I.cAnd_eq, I.cOr_eq, I.cNot_eq, I.cYes_eq, I.cIf_eq, I.cAndT_eq, I.cOrT_eq, I.cNotT_eq, I.cChain_eq, I.cCall_eq, I.cSlice_eq, I.oNone_eq, I.oSome_eq, I.cKw_eq, I.cMeth_eq, I.cRgL1_eq, I.cRgL2_eq, I.iSeq_eq, I.iRg1_eq, I.iRg2_eq, I.iZp_eq, I.iEn_eq, I.cLc_eq, I.cLc2_eq, I.lcT_eq, I.sNil_eq, I.sPass_eq, I.sBreak_eq, I.sCont_eq, I.sBad_eq, I.sRetN_eq, I.sSeq_eq, I.sExpr_eq, I.sRet_eq, I.sSet_eq, I.sIf_eq, I.sAsg_eq, I.sStore_eq, I.sPar_eq, I.sPar3_eq, I.sAug_eq, I.sFor_eq, I.stp_eq, I.fnD_eq, I.gIxD_eq, I.gAdd_eq, I.gSub_eq, I.gMulI_eq, I.gFdiv_eq, I.gMod_eq, I.gPow_eq, I.gLt_eq, I.gLe_eq, I.gGt_eq, I.gGe_eq, I.gNeg_eq, I.gEqD_eq, I.gIs_eq, I.gIsNot_eq, I.bLen_eq, I.bInt_eq, I.bTuple_eq, I.bListD_eq, I.mTup_eq, I.mLst_eq, I.mNew_eq, I.mSeq_eq, I.mTru_eq, I.mCut_eq, I.mPut_eq, I.bAll_eq, I.bAny_eq, I.bSum_eq, I.bSorted_eq, I.bMax_eq, I.bMin_eq, I.kMM_eq, I.bIsi_eq, I.mIt_eq, I.mEnu_eq, I.mZip_eq, I.forL_eq, I.whileL_eq, I.lcL_eq, I.lcO_eq, I.lcB2_eq, I.cDisp_eq, I.gIn_eq, I.mUpd_eq, I.mApp_eq, I.mAttr_eq, I.cMethO_eq, I.mMake_eq, I.cMkK_eq, I.sSetA_eq, I.sAugA_eq, I.bLenO_eq, I.sFrz_eq, I.cRepL_eq, I.mRev_eq, I.iRg3_eq, I.cCall0_eq, I.bListN_eq, I.mRepL_eq, I.mRg3_eq, I.gMulJ_eq] at *
  exact R.cTest h
theorem cTru (h : OkI (a ρ μ) (fun x μ' => OkI (I.mTru x μ') PB E) E) : OkI (I.cTru a ρ μ) PB E := by
  simp only [OkI_eq, I.cVar_eq, I.cK_eq, I.c1_eq, I.c2_eq, I.cN_eq, I.aNil_eq, I.aCons_eq, I.aStar_eq, I.cTest_eq, I.cTru_eq, I.cAnd_eq, I.cOr_eq, I.cNot_eq, I.cYes_eq, I.cIf_eq, I.cAndT_eq, I.cOrT_eq, I.cNotT_eq, I.cChain_eq, I.cCall_eq, I.cSlice_eq, I.oNone_eq, I.oSome_eq, I.cKw_eq, I.cMeth_eq, I.cRgL1_eq, I.cRgL2_eq, I.iSeq_eq, I.iRg1_eq, I.iRg2_eq, I.iZp_eq, I.iEn_eq, I.cLc_eq, I.cLc2_eq, I.lcT_eq, I.sNil_eq, I.sPass_eq, I.sBreak_eq, I.sCont_eq, I.sBad_eq, I.sRetN_eq, I.sSeq_eq, I.sExpr_eq, I.sRet_eq, I.sSet_eq, I.sIf_eq, I.sAsg_eq, I.sStore_eq, I.sPar_eq, I.sPar3_eq, I.sAug_eq, I.sFor_eq, I.stp_eq, I.fnD_eq, I.gIxD_eq, I.gAdd_eq, I.gSub_eq, I.gMulI_eq, I.gFdiv_eq, I.gMod_eq, I.gPow_eq, I.gLt_eq, I.gLe_eq, I.gGt_eq, I.gGe_eq, I.gNeg_eq, I.gEqD_eq, I.gIs_eq, I.gIsNot_eq, I.bLen_eq, I.bInt_eq, I.bTuple_eq, I.bListD_eq, I.mTup_eq, I.mLst_eq, I.mNew_eq, I.mSeq_eq, I.mTru_eq, I.mCut_eq, I.mPut_eq, I.bAll_eq, I.bAny_eq, I.bSum_eq, I.bSorted_eq, I.bMax_eq, I.bMin_eq, I.kMM_eq, I.bIsi_eq, I.mIt_eq, I.mEnu_eq, I.mZip_eq, I.forL_eq, I.whileL_eq, I.lcL_eq, I.lcO_eq, I.lcB2_eq, I.cDisp_eq, I.gIn_eq, I.mUpd_eq, I.mApp_eq, I.mAttr_eq, I.cMethO_eq, I.mMake_eq, I.cMkK_eq, I.sSetA_eq, I.sAugA_eq, I.bLenO_eq, I.sFrz_eq, I.cRepL_eq, I.mRev_eq, I.iRg3_eq, I.cCall0_eq, I.bListN_eq, I.mRepL_eq, I.mRg3_eq, I.gMulJ_eq] at *
  exact R.cTru h
theorem cAnd {x y : Env → M Bool} (h : OkI (x ρ μ) (fun k μ' => (k = true → OkI (y ρ μ') PB E) ∧ (k = false → PB false μ')) E) : OkI (I.cAnd x y ρ μ) PB E := by
  simp only [OkI_eq, I.cVar_eq, I.cK_eq, I.c1_eq, I.c2_eq, I.cN_eq, I.aNil_eq, I.aCons_eq, I.aStar_eq, I.cTest_eq, I.cTru_eq, I.cAnd_eq, I.cOr_eq, I.cNot_eq, I.cYes_eq, I.cIf_eq, I.cAndT_eq, I.cOrT_eq, I.cNotT_eq, I.cChain_eq, I.cCall_eq, I.cSlice_eq, I.oNone_eq, I.oSome_eq, I.cKw_eq, I.cMeth_eq, I.cRgL1_eq, I.cRgL2_eq, I.iSeq_eq, I.iRg1_eq, I.iRg2_eq, I.iZp_eq, I.iEn_eq, I.cLc_eq, I.cLc2_eq, I.lcT_eq, I.sNil_eq, I.sPass_eq, I.sBreak_eq, I.sCont_eq, I.sBad_eq, I.sRetN_eq, I.sSeq_eq, I.sExpr_eq, I.sRet_eq, I.sSet_eq, I.sIf_eq, I.sAsg_eq, I.sStore_eq, I.sPar_eq, I.sPar3_eq, I.sAug_eq, I.sFor_eq, I.stp_eq, I.fnD_eq, I.gIxD_eq, I.gAdd_eq, I.gSub_eq, I.gMulI_eq, I.gFdiv_eq, I.gMod_eq, I.gPow_eq, I.gLt_eq, I.gLe_eq, I.gGt_eq, I.gGe_eq, I.gNeg_eq, I.gEqD_eq, I.gIs_eq, I.gIsNot_eq, I.bLen_eq, I.bInt_eq, I.bTuple_eq, I.bListD_eq, I.mTup_eq, I.mLst_eq, I.mNew_eq, I.mSeq_eq, I.mTru_eq, I.mCut_eq, I.mPut_eq, I.bAll_eq, I.bAny_eq, I.bSum_eq, I.bSorted_eq, I.bMax_eq, I.bMin_eq, I.kMM_eq, I.bIsi_eq, I.mIt_eq, I.mEnu_eq, I.mZip_eq, I.forL_eq, I.whileL_eq, I.lcL_eq, I.lcO_eq, I.lcB2_eq, I.cDisp_eq, I.gIn_eq, I.mUpd_eq, I.mApp_eq, I.mAttr_eq, I.cMethO_eq, I.mMake_eq, I.cMkK_eq, I.sSetA_eq, I.sAugA_eq, I.bLenO_eq, I.sFrz_eq, I.cRepL_eq, I.mRev_eq, I.iRg3_eq, I.cCall0_eq, I.bListN_eq, I.mRepL_eq, I.mRg3_eq, I.gMulJ_eq] at *
  exact R.cAnd h
theorem cOr {x y : Env → M Bool} (h : OkI (x ρ μ) (fun k μ' => (k = true → PB true μ') ∧ (k = false → OkI (y ρ μ') PB E)) E) : OkI (I.cOr x y ρ μ) PB E := by
  simp only [OkI_eq, I.cVar_eq, I.cK_eq, I.c1_eq, I.c2_eq, I.cN_eq, I.aNil_eq, I.aCons_eq, I.aStar_eq, I.cTest_eq, I.cTru_eq, I.cAnd_eq, I.cOr_eq, I.cNot_eq, I.cYes_eq, I.cIf_eq, I.cAndT_eq, I.cOrT_eq, I.cNotT_eq, I.cChain_eq, I.cCall_eq, I.cSlice_eq, I.oNone_eq, I.oSome_eq, I.cKw_eq, I.cMeth_eq, I.cRgL1_eq, I.cRgL2_eq, I.iSeq_eq, I.iRg1_eq, I.iRg2_eq, I.iZp_eq, I.iEn_eq, I.cLc_eq, I.cLc2_eq, I.lcT_eq, I.sNil_eq, I.sPass_eq, I.sBreak_eq, I.sCont_eq, I.sBad_eq, I.sRetN_eq, I.sSeq_eq, I.sExpr_eq, I.sRet_eq, I.sSet_eq, I.sIf_eq, I.sAsg_eq, I.sStore_eq, I.sPar_eq, I.sPar3_eq, I.sAug_eq, I.sFor_eq, I.stp_eq, I.fnD_eq, I.gIxD_eq, I.gAdd_eq, I.gSub_eq, I.gMulI_eq, I.gFdiv_eq, I.gMod_eq, I.gPow_eq, I.gLt_eq, I.gLe_eq, I.gGt_eq, I.gGe_eq, I.gNeg_eq, I.gEqD_eq, I.gIs_eq, I.gIsNot_eq, I.bLen_eq, I.bInt_eq, I.bTuple_eq, I.bListD_eq, I.mTup_eq, I.mLst_eq, I.mNew_eq, I.mSeq_eq, I.mTru_eq, I.mCut_eq, I.mPut_eq, I.bAll_eq, I.bAny_eq, I.bSum_eq, I.bSorted_eq, I.bMax_eq, I.bMin_eq, I.kMM_eq, I.bIsi_eq, I.mIt_eq, I.mEnu_eq, I.mZip_eq, I.forL_eq, I.whileL_eq, I.lcL_eq, I.lcO_eq, I.lcB2_eq, I.cDisp_eq, I.gIn_eq, I.mUpd_eq, I.mApp_eq, I.mAttr_eq, I.cMethO_eq, I.mMake_eq, I.cMkK_eq, I.sSetA_eq, I.sAugA_eq, I.bLenO_eq, I.sFrz_eq, I.cRepL_eq, I.mRev_eq, I.iRg3_eq, I.cCall0_eq, I.bListN_eq, I.mRepL_eq, I.mRg3_eq, I.gMulJ_eq] at *
  exact R.cOr h
theorem cNot {x : Env → M Bool} (h : OkI (x ρ μ) (fun k μ' => PB (!k) μ') E) : OkI (I.cNot x ρ μ) PB E := by
  simp only [OkI_eq, I.cVar_eq, I.cK_eq, I.c1_eq, I.c2_eq, I.cN_eq, I.aNil_eq, I.aCons_eq, I.aStar_eq, I.cTest_eq, I.cTru_eq, I.cAnd_eq, I.cOr_eq, I.cNot_eq, I.cYes_eq, I.cIf_eq, I.cAndT_eq, I.cOrT_eq, I.cNotT_eq, I.cChain_eq, I.cCall_eq, I.cSlice_eq, I.oNone_eq, I.oSome_eq, I.cKw_eq, I.cMeth_eq, I.cRgL1_eq, I.cRgL2_eq, I.iSeq_eq, I.iRg1_eq, I.iRg2_eq, I.iZp_eq, I.iEn_eq, I.cLc_eq, I.cLc2_eq, I.lcT_eq, I.sNil_eq, I.sPass_eq, I.sBreak_eq, I.sCont_eq, I.sBad_eq, I.sRetN_eq, I.sSeq_eq, I.sExpr_eq, I.sRet_eq, I.sSet_eq, I.sIf_eq, I.sAsg_eq, I.sStore_eq, I.sPar_eq, I.sPar3_eq, I.sAug_eq, I.sFor_eq, I.stp_eq, I.fnD_eq, I.gIxD_eq, I.gAdd_eq, I.gSub_eq, I.gMulI_eq, I.gFdiv_eq, I.gMod_eq, I.gPow_eq, I.gLt_eq, I.gLe_eq, I.gGt_eq, I.gGe_eq, I.gNeg_eq, I.gEqD_eq, I.gIs_eq, I.gIsNot_eq, I.bLen_eq, I.bInt_eq, I.bTuple_eq, I.bListD_eq, I.mTup_eq, I.mLst_eq, I.mNew_eq, I.mSeq_eq, I.mTru_eq, I.mCut_eq, I.mPut_eq, I.bAll_eq, I.bAny_eq, I.bSum_eq, I.bSorted_eq, I.bMax_eq, I.bMin_eq, I.kMM_eq, I.bIsi_eq, I.mIt_eq, I.mEnu_eq, I.mZip_eq, I.forL_eq, I.whileL_eq, I.lcL_eq, I.lcO_eq, I.lcB2_eq, I.cDisp_eq, I.gIn_eq, I.mUpd_eq, I.mApp_eq, I.mAttr_eq, I.cMethO_eq, I.mMake_eq, I.cMkK_eq, I.sSetA_eq, I.sAugA_eq, I.bLenO_eq, I.sFrz_eq, I.cRepL_eq, I.mRev_eq, I.iRg3_eq, I.cCall0_eq, I.bListN_eq, I.mRepL_eq, I.mRg3_eq, I.gMulJ_eq] at *
  exact R.cNot h
theorem cYes (h : PB true μ) : OkI (I.cYes ρ μ) PB E := by
  simp only [OkI_eq, I.cVar_eq, I.cK_eq, I.c1_eq, I.c2_eq, I.cN_eq, I.aNil_eq, I.aCons_eq, I.aStar_eq, I.cTest_eq, I.cTru_eq, I.cAnd_eq, I.cOr_eq, I.cNot_eq, I.cYes_eq, I.cIf_eq, I.cAndT_eq, I.cOrT_eq, I.cNotT_eq, I.cChain_eq, I.cCall_eq, I.cSlice_eq, I.oNone_eq, I.oSome_eq, I.cKw_eq, I.cMeth_eq, I.cRgL1_eq, I.cRgL2_eq, I.iSeq_eq, I.iRg1_eq, I.iRg2_eq, I.iZp_eq, I.iEn_eq, I.cLc_eq, I.cLc2_eq, I.lcT_eq, I.sNil_eq, I.sPass_eq, I.sBreak_eq, I.sCont_eq, I.sBad_eq, I.sRetN_eq, I.sSeq_eq, I.sExpr_eq, I.sRet_eq, I.sSet_eq, I.sIf_eq, I.sAsg_eq, I.sStore_eq, I.sPar_eq, I.sPar3_eq, I.sAug_eq, I.sFor_eq, I.stp_eq, I.fnD_eq, I.gIxD_eq, I.gAdd_eq, I.gSub_eq, I.gMulI_eq, I.gFdiv_eq, I.gMod_eq, I.gPow_eq, I.gLt_eq, I.gLe_eq, I.gGt_eq, I.gGe_eq, I.gNeg_eq, I.gEqD_eq, I.gIs_eq, I.gIsNot_eq, I.bLen_eq, I.bInt_eq, I.bTuple_eq, I.bListD_eq, I.mTup_eq, I.mLst_eq, I.mNew_eq, I.mSeq_eq, I.mTru_eq, I.mCut_eq, I.mPut_eq, I.bAll_eq, I.bAny_eq, I.bSum_eq, I.bSorted_eq, I.bMax_eq, I.bMin_eq, I.kMM_eq, I.bIsi_eq, I.mIt_eq, I.mEnu_eq, I.mZip_eq, I.forL_eq, I.whileL_eq, I.lcL_eq, I.lcO_eq, I.lcB2_eq, I.cDisp_eq, I.gIn_eq, I.mUpd_eq, I.mApp_eq, I.mAttr_eq, I.cMethO_eq, I.mMake_eq, I.cMkK_eq, I.sSetA_eq, I.sAugA_eq, I.bLenO_eq, I.sFrz_eq, I.cRepL_eq, I.mRev_eq, I.iRg3_eq, I.cCall0_eq, I.bListN_eq, I.mRepL_eq, I.mRg3_eq, I.gMulJ_eq] at *
  exact R.cYes h
theorem cIf {x : Env → M Bool} (h : OkI (x ρ μ) (fun k μ' => (k = true → OkI (a ρ μ') P E) ∧ (k = false → OkI (b ρ μ') P E)) E) : OkI (I.cIf x a b ρ μ) P E := by
  simp only [OkI_eq, I.cVar_eq, I.cK_eq, I.c1_eq, I.c2_eq, I.cN_eq, I.aNil_eq, I.aCons_eq, I.aStar_eq, I.cTest_eq, I.cTru_eq, I.cAnd_eq, I.cOr_eq, I.cNot_eq, I.cYes_eq, I.cIf_eq, I.cAndT_eq, I.cOrT_eq, I.cNotT_eq, I.cChain_eq, I.cCall_eq, I.cSlice_eq, I.oNone_eq, I.oSome_eq, I.cKw_eq, I.cMeth_eq, I.cRgL1_eq, I.cRgL2_eq, I.iSeq_eq, I.iRg1_eq, I.iRg2_eq, I.iZp_eq, I.iEn_eq, I.cLc_eq, I.cLc2_eq, I.lcT_eq, I.sNil_eq, I.sPass_eq, I.sBreak_eq, I.sCont_eq, I.sBad_eq, I.sRetN_eq, I.sSeq_eq, I.sExpr_eq, I.sRet_eq, I.sSet_eq, I.sIf_eq, I.sAsg_eq, I.sStore_eq, I.sPar_eq, I.sPar3_eq, I.sAug_eq, I.sFor_eq, I.stp_eq, I.fnD_eq, I.gIxD_eq, I.gAdd_eq, I.gSub_eq, I.gMulI_eq, I.gFdiv_eq, I.gMod_eq, I.gPow_eq, I.gLt_eq, I.gLe_eq, I.gGt_eq, I.gGe_eq, I.gNeg_eq, I.gEqD_eq, I.gIs_eq, I.gIsNot_eq, I.bLen_eq, I.bInt_eq, I.bTuple_eq, I.bListD_eq, I.mTup_eq, I.mLst_eq, I.mNew_eq, I.mSeq_eq, I.mTru_eq, I.mCut_eq, I.mPut_eq, I.bAll_eq, I.bAny_eq, I.bSum_eq, I.bSorted_eq, I.bMax_eq, I.bMin_eq, I.kMM_eq, I.bIsi_eq, I.mIt_eq, I.mEnu_eq, I.mZip_eq, I.forL_eq, I.whileL_eq, I.lcL_eq, I.lcO_eq, I.lcB2_eq, I.cDisp_eq, I.gIn_eq, I.mUpd_eq, I.mApp_eq, I.mAttr_eq, I.cMethO_eq, I.mMake_eq, I.cMkK_eq, I.sSetA_eq, I.sAugA_eq, I.bLenO_eq, I.sFrz_eq, I.cRepL_eq, I.mRev_eq, I.iRg3_eq, I.cCall0_eq, I.bListN_eq, I.mRepL_eq, I.mRg3_eq, I.gMulJ_eq] at *
  exact R.cIf h
theorem cAndT (h : OkI (a ρ μ) (fun x μ' => OkI (I.mTru x μ') (fun k μ1 => (k = true → OkI (b ρ μ1) P E) ∧ (k = false → P x μ1)) E) E) : OkI (I.cAndT a b ρ μ) P E := by
  simp only [OkI_eq, I.cVar_eq, I.cK_eq, I.c1_eq, I.c2_eq, I.cN_eq, I.aNil_eq, I.aCons_eq, I.aStar_eq, I.cTest_eq, I.cTru_eq, I.cAnd_eq, I.cOr_eq, I.cNot_eq, I.cYes_eq, I.cIf_eq, I.cAndT_eq, I.cOrT_eq, I.cNotT_eq, I.cChain_eq, I.cCall_eq, I.cSlice_eq, I.oNone_eq, I.oSome_eq, I.cKw_eq, I.cMeth_eq, I.cRgL1_eq, I.cRgL2_eq, I.iSeq_eq, I.iRg1_eq, I.iRg2_eq, I.iZp_eq, I.iEn_eq, I.cLc_eq, I.cLc2_eq, I.lcT_eq, I.sNil_eq, I.sPass_eq, I.sBreak_eq, I.sCont_eq, I.sBad_eq, I.sRetN_eq, I.sSeq_eq, I.sExpr_eq, I.sRet_eq, I.sSet_eq, I.sIf_eq, I.sAsg_eq, I.sStore_eq, I.sPar_eq, I.sPar3_eq, I.sAug_eq, I.sFor_eq, I.stp_eq, I.fnD_eq, I.gIxD_eq, I.gAdd_eq, I.gSub_eq, I.gMulI_eq, I.gFdiv_eq, I.gMod_eq, I.gPow_eq, I.gLt_eq, I.gLe_eq, I.gGt_eq, I.gGe_eq, I.gNeg_eq, I.gEqD_eq, I.gIs_eq, I.gIsNot_eq, I.bLen_eq, I.bInt_eq, I.bTuple_eq, I.bListD_eq, I.mTup_eq, I.mLst_eq, I.mNew_eq, I.mSeq_eq, I.mTru_eq, I.mCut_eq, I.mPut_eq, I.bAll_eq, I.bAny_eq, I.bSum_eq, I.bSorted_eq, I.bMax_eq, I.bMin_eq, I.kMM_eq, I.bIsi_eq, I.mIt_eq, I.mEnu_eq, I.mZip_eq, I.forL_eq, I.whileL_eq, I.lcL_eq, I.lcO_eq, I.lcB2_eq, I.cDisp_eq, I.gIn_eq, I.mUpd_eq, I.mApp_eq, I.mAttr_eq, I.cMethO_eq, I.mMake_eq, I.cMkK_eq, I.sSetA_eq, I.sAugA_eq, I.bLenO_eq, I.sFrz_eq, I.cRepL_eq, I.mRev_eq, I.iRg3_eq, I.cCall0_eq, I.bListN_eq, I.mRepL_eq, I.mRg3_eq, I.gMulJ_eq] at *
  exact R.cAndT h
theorem cOrT (h : OkI (a ρ μ) (fun x μ' => OkI (I.mTru x μ') (fun k μ1 => (k = true → P x μ1) ∧ (k = false → OkI (b ρ μ1) P E)) E) E) : OkI (I.cOrT a b ρ μ) P E := by
  simp only [OkI_eq, I.cVar_eq, I.cK_eq, I.c1_eq, I.c2_eq, I.cN_eq, I.aNil_eq, I.aCons_eq, I.aStar_eq, I.cTest_eq, I.cTru_eq, I.cAnd_eq, I.cOr_eq, I.cNot_eq, I.cYes_eq, I.cIf_eq, I.cAndT_eq, I.cOrT_eq, I.cNotT_eq, I.cChain_eq, I.cCall_eq, I.cSlice_eq, I.oNone_eq, I.oSome_eq, I.cKw_eq, I.cMeth_eq, I.cRgL1_eq, I.cRgL2_eq, I.iSeq_eq, I.iRg1_eq, I.iRg2_eq, I.iZp_eq, I.iEn_eq, I.cLc_eq, I.cLc2_eq, I.lcT_eq, I.sNil_eq, I.sPass_eq, I.sBreak_eq, I.sCont_eq, I.sBad_eq, I.sRetN_eq, I.sSeq_eq, I.sExpr_eq, I.sRet_eq, I.sSet_eq, I.sIf_eq, I.sAsg_eq, I.sStore_eq, I.sPar_eq, I.sPar3_eq, I.sAug_eq, I.sFor_eq, I.stp_eq, I.fnD_eq, I.gIxD_eq, I.gAdd_eq, I.gSub_eq, I.gMulI_eq, I.gFdiv_eq, I.gMod_eq, I.gPow_eq, I.gLt_eq, I.gLe_eq, I.gGt_eq, I.gGe_eq, I.gNeg_eq, I.gEqD_eq, I.gIs_eq, I.gIsNot_eq, I.bLen_eq, I.bInt_eq, I.bTuple_eq, I.bListD_eq, I.mTup_eq, I.mLst_eq, I.mNew_eq, I.mSeq_eq, I.mTru_eq, I.mCut_eq, I.mPut_eq, I.bAll_eq, I.bAny_eq, I.bSum_eq, I.bSorted_eq, I.bMax_eq, I.bMin_eq, I.kMM_eq, I.bIsi_eq, I.mIt_eq, I.mEnu_eq, I.mZip_eq, I.forL_eq, I.whileL_eq, I.lcL_eq, I.lcO_eq, I.lcB2_eq, I.cDisp_eq, I.gIn_eq, I.mUpd_eq, I.mApp_eq, I.mAttr_eq, I.cMethO_eq, I.mMake_eq, I.cMkK_eq, I.sSetA_eq, I.sAugA_eq, I.bLenO_eq, I.sFrz_eq, I.cRepL_eq, I.mRev_eq, I.iRg3_eq, I.cCall0_eq, I.bListN_eq, I.mRepL_eq, I.mRg3_eq, I.gMulJ_eq] at *
  exact R.cOrT h
theorem cNotT (h : OkI (a ρ μ) (fun x μ' => OkI (I.mTru x μ') (fun k μ1 => P (.bl (!k)) μ1) E) E) : OkI (I.cNotT a ρ μ) P E := by
  simp only [OkI_eq, I.cVar_eq, I.cK_eq, I.c1_eq, I.c2_eq, I.cN_eq, I.aNil_eq, I.aCons_eq, I.aStar_eq, I.cTest_eq, I.cTru_eq, I.cAnd_eq, I.cOr_eq, I.cNot_eq, I.cYes_eq, I.cIf_eq, I.cAndT_eq, I.cOrT_eq, I.cNotT_eq, I.cChain_eq, I.cCall_eq, I.cSlice_eq, I.oNone_eq, I.oSome_eq, I.cKw_eq, I.cMeth_eq, I.cRgL1_eq, I.cRgL2_eq, I.iSeq_eq, I.iRg1_eq, I.iRg2_eq, I.iZp_eq, I.iEn_eq, I.cLc_eq, I.cLc2_eq, I.lcT_eq, I.sNil_eq, I.sPass_eq, I.sBreak_eq, I.sCont_eq, I.sBad_eq, I.sRetN_eq, I.sSeq_eq, I.sExpr_eq, I.sRet_eq, I.sSet_eq, I.sIf_eq, I.sAsg_eq, I.sStore_eq, I.sPar_eq, I.sPar3_eq, I.sAug_eq, I.sFor_eq, I.stp_eq, I.fnD_eq, I.gIxD_eq, I.gAdd_eq, I.gSub_eq, I.gMulI_eq, I.gFdiv_eq, I.gMod_eq, I.gPow_eq, I.gLt_eq, I.gLe_eq, I.gGt_eq, I.gGe_eq, I.gNeg_eq, I.gEqD_eq, I.gIs_eq, I.gIsNot_eq, I.bLen_eq, I.bInt_eq, I.bTuple_eq, I.bListD_eq, I.mTup_eq, I.mLst_eq, I.mNew_eq, I.mSeq_eq, I.mTru_eq, I.mCut_eq, I.mPut_eq, I.bAll_eq, I.bAny_eq, I.bSum_eq, I.bSorted_eq, I.bMax_eq, I.bMin_eq, I.kMM_eq, I.bIsi_eq, I.mIt_eq, I.mEnu_eq, I.mZip_eq, I.forL_eq, I.whileL_eq, I.lcL_eq, I.lcO_eq, I.lcB2_eq, I.cDisp_eq, I.gIn_eq, I.mUpd_eq, I.mApp_eq, I.mAttr_eq, I.cMethO_eq, I.mMake_eq, I.cMkK_eq, I.sSetA_eq, I.sAugA_eq, I.bLenO_eq, I.sFrz_eq, I.cRepL_eq, I.mRev_eq, I.iRg3_eq, I.cCall0_eq, I.bListN_eq, I.mRepL_eq, I.mRg3_eq, I.gMulJ_eq] at *
  exact R.cNotT h
theorem cChain {g g' : T → T → M T} (h : OkI (a ρ μ) (fun x μ1 => OkI (b ρ μ1) (fun y μ2 => OkI (g x y μ2) (fun z μ3 => IsBl z fun k => (k = true → OkI (c ρ μ3) (fun w μ4 => OkI (g' y w μ4) P E) E) ∧ (k = false → P (.bl false) μ3)) E) E) E) : OkI (I.cChain g g' a b c ρ μ) P E := by
  simp only [OkI_eq, I.cVar_eq, I.cK_eq, I.c1_eq, I.c2_eq, I.cN_eq, I.aNil_eq, I.aCons_eq, I.aStar_eq, I.cTest_eq, I.cTru_eq, I.cAnd_eq, I.cOr_eq, I.cNot_eq, I.cYes_eq, I.cIf_eq, I.cAndT_eq, I.cOrT_eq, I.cNotT_eq, I.cChain_eq, I.cCall_eq, I.cSlice_eq, I.oNone_eq, I.oSome_eq, I.cKw_eq, I.cMeth_eq, I.cRgL1_eq, I.cRgL2_eq, I.iSeq_eq, I.iRg1_eq, I.iRg2_eq, I.iZp_eq, I.iEn_eq, I.cLc_eq, I.cLc2_eq, I.lcT_eq, I.sNil_eq, I.sPass_eq, I.sBreak_eq, I.sCont_eq, I.sBad_eq, I.sRetN_eq, I.sSeq_eq, I.sExpr_eq, I.sRet_eq, I.sSet_eq, I.sIf_eq, I.sAsg_eq, I.sStore_eq, I.sPar_eq, I.sPar3_eq, I.sAug_eq, I.sFor_eq, I.stp_eq, I.fnD_eq, I.gIxD_eq, I.gAdd_eq, I.gSub_eq, I.gMulI_eq, I.gFdiv_eq, I.gMod_eq, I.gPow_eq, I.gLt_eq, I.gLe_eq, I.gGt_eq, I.gGe_eq, I.gNeg_eq, I.gEqD_eq, I.gIs_eq, I.gIsNot_eq, I.bLen_eq, I.bInt_eq, I.bTuple_eq, I.bListD_eq, I.mTup_eq, I.mLst_eq, I.mNew_eq, I.mSeq_eq, I.mTru_eq, I.mCut_eq, I.mPut_eq, I.bAll_eq, I.bAny_eq, I.bSum_eq, I.bSorted_eq, I.bMax_eq, I.bMin_eq, I.kMM_eq, I.bIsi_eq, I.mIt_eq, I.mEnu_eq, I.mZip_eq, I.forL_eq, I.whileL_eq, I.lcL_eq, I.lcO_eq, I.lcB2_eq, I.cDisp_eq, I.gIn_eq, I.mUpd_eq, I.mApp_eq, I.mAttr_eq, I.cMethO_eq, I.mMake_eq, I.cMkK_eq, I.sSetA_eq, I.sAugA_eq, I.bLenO_eq, I.sFrz_eq, I.cRepL_eq, I.mRev_eq, I.iRg3_eq, I.cCall0_eq, I.bListN_eq, I.mRepL_eq, I.mRg3_eq, I.gMulJ_eq] at *
  exact R.cChain h
theorem cCall {n : Nat} {g : List T → M T} (h : OkI (as ρ μ) (fun ts μ' => Len ts n (OkI (g ts μ') P E)) E) : OkI (I.cCall n g as ρ μ) P E := by
  simp only [OkI_eq, I.cVar_eq, I.cK_eq, I.c1_eq, I.c2_eq, I.cN_eq, I.aNil_eq, I.aCons_eq, I.aStar_eq, I.cTest_eq, I.cTru_eq, I.cAnd_eq, I.cOr_eq, I.cNot_eq, I.cYes_eq, I.cIf_eq, I.cAndT_eq, I.cOrT_eq, I.cNotT_eq, I.cChain_eq, I.cCall_eq, I.cSlice_eq, I.oNone_eq, I.oSome_eq, I.cKw_eq, I.cMeth_eq, I.cRgL1_eq, I.cRgL2_eq, I.iSeq_eq, I.iRg1_eq, I.iRg2_eq, I.iZp_eq, I.iEn_eq, I.cLc_eq, I.cLc2_eq, I.lcT_eq, I.sNil_eq, I.sPass_eq, I.sBreak_eq, I.sCont_eq, I.sBad_eq, I.sRetN_eq, I.sSeq_eq, I.sExpr_eq, I.sRet_eq, I.sSet_eq, I.sIf_eq, I.sAsg_eq, I.sStore_eq, I.sPar_eq, I.sPar3_eq, I.sAug_eq, I.sFor_eq, I.stp_eq, I.fnD_eq, I.gIxD_eq, I.gAdd_eq, I.gSub_eq, I.gMulI_eq, I.gFdiv_eq, I.gMod_eq, I.gPow_eq, I.gLt_eq, I.gLe_eq, I.gGt_eq, I.gGe_eq, I.gNeg_eq, I.gEqD_eq, I.gIs_eq, I.gIsNot_eq, I.bLen_eq, I.bInt_eq, I.bTuple_eq, I.bListD_eq, I.mTup_eq, I.mLst_eq, I.mNew_eq, I.mSeq_eq, I.mTru_eq, I.mCut_eq, I.mPut_eq, I.bAll_eq, I.bAny_eq, I.bSum_eq, I.bSorted_eq, I.bMax_eq, I.bMin_eq, I.kMM_eq, I.bIsi_eq, I.mIt_eq, I.mEnu_eq, I.mZip_eq, I.forL_eq, I.whileL_eq, I.lcL_eq, I.lcO_eq, I.lcB2_eq, I.cDisp_eq, I.gIn_eq, I.mUpd_eq, I.mApp_eq, I.mAttr_eq, I.cMethO_eq, I.mMake_eq, I.cMkK_eq, I.sSetA_eq, I.sAugA_eq, I.bLenO_eq, I.sFrz_eq, I.cRepL_eq, I.mRev_eq, I.iRg3_eq, I.cCall0_eq, I.bListN_eq, I.mRepL_eq, I.mRg3_eq, I.gMulJ_eq] at *
  exact R.cCall h
theorem cSlice {lo hi : Env → M (Option Int)} (h : OkI (a ρ μ) (fun x μ1 => OkI (lo ρ μ1) (fun l μ2 => OkI (hi ρ μ2) (fun h μ3 => OkI (I.mCut x l h μ3) P E) E) E) E) : OkI (I.cSlice a lo hi ρ μ) P E := by
  simp only [OkI_eq, I.cVar_eq, I.cK_eq, I.c1_eq, I.c2_eq, I.cN_eq, I.aNil_eq, I.aCons_eq, I.aStar_eq, I.cTest_eq, I.cTru_eq, I.cAnd_eq, I.cOr_eq, I.cNot_eq, I.cYes_eq, I.cIf_eq, I.cAndT_eq, I.cOrT_eq, I.cNotT_eq, I.cChain_eq, I.cCall_eq, I.cSlice_eq, I.oNone_eq, I.oSome_eq, I.cKw_eq, I.cMeth_eq, I.cRgL1_eq, I.cRgL2_eq, I.iSeq_eq, I.iRg1_eq, I.iRg2_eq, I.iZp_eq, I.iEn_eq, I.cLc_eq, I.cLc2_eq, I.lcT_eq, I.sNil_eq, I.sPass_eq, I.sBreak_eq, I.sCont_eq, I.sBad_eq, I.sRetN_eq, I.sSeq_eq, I.sExpr_eq, I.sRet_eq, I.sSet_eq, I.sIf_eq, I.sAsg_eq, I.sStore_eq, I.sPar_eq, I.sPar3_eq, I.sAug_eq, I.sFor_eq, I.stp_eq, I.fnD_eq, I.gIxD_eq, I.gAdd_eq, I.gSub_eq, I.gMulI_eq, I.gFdiv_eq, I.gMod_eq, I.gPow_eq, I.gLt_eq, I.gLe_eq, I.gGt_eq, I.gGe_eq, I.gNeg_eq, I.gEqD_eq, I.gIs_eq, I.gIsNot_eq, I.bLen_eq, I.bInt_eq, I.bTuple_eq, I.bListD_eq, I.mTup_eq, I.mLst_eq, I.mNew_eq, I.mSeq_eq, I.mTru_eq, I.mCut_eq, I.mPut_eq, I.bAll_eq, I.bAny_eq, I.bSum_eq, I.bSorted_eq, I.bMax_eq, I.bMin_eq, I.kMM_eq, I.bIsi_eq, I.mIt_eq, I.mEnu_eq, I.mZip_eq, I.forL_eq, I.whileL_eq, I.lcL_eq, I.lcO_eq, I.lcB2_eq, I.cDisp_eq, I.gIn_eq, I.mUpd_eq, I.mApp_eq, I.mAttr_eq, I.cMethO_eq, I.mMake_eq, I.cMkK_eq, I.sSetA_eq, I.sAugA_eq, I.bLenO_eq, I.sFrz_eq, I.cRepL_eq, I.mRev_eq, I.iRg3_eq, I.cCall0_eq, I.bListN_eq, I.mRepL_eq, I.mRg3_eq, I.gMulJ_eq] at *
  exact R.cSlice h
theorem oNone {P : Option Int → Store → Prop} (h : P none μ) : OkI (I.oNone ρ μ) P E := by
  simp only [OkI_eq, I.cVar_eq, I.cK_eq, I.c1_eq, I.c2_eq, I.cN_eq, I.aNil_eq, I.aCons_eq, I.aStar_eq, I.cTest_eq, I.cTru_eq, I.cAnd_eq, I.cOr_eq, I.cNot_eq, I.cYes_eq, I.cIf_eq, I.cAndT_eq, I.cOrT_eq, I.cNotT_eq, I.cChain_eq, I.cCall_eq, I.cSlice_eq, I.oNone_eq, I.oSome_eq, I.cKw_eq, I.cMeth_eq, I.cRgL1_eq, I.cRgL2_eq, I.iSeq_eq, I.iRg1_eq, I.iRg2_eq, I.iZp_eq, I.iEn_eq, I.cLc_eq, I.cLc2_eq, I.lcT_eq, I.sNil_eq, I.sPass_eq, I.sBreak_eq, I.sCont_eq, I.sBad_eq, I.sRetN_eq, I.sSeq_eq, I.sExpr_eq, I.sRet_eq, I.sSet_eq, I.sIf_eq, I.sAsg_eq, I.sStore_eq, I.sPar_eq, I.sPar3_eq, I.sAug_eq, I.sFor_eq, I.stp_eq, I.fnD_eq, I.gIxD_eq, I.gAdd_eq, I.gSub_eq, I.gMulI_eq, I.gFdiv_eq, I.gMod_eq, I.gPow_eq, I.gLt_eq, I.gLe_eq, I.gGt_eq, I.gGe_eq, I.gNeg_eq, I.gEqD_eq, I.gIs_eq, I.gIsNot_eq, I.bLen_eq, I.bInt_eq, I.bTuple_eq, I.bListD_eq, I.mTup_eq, I.mLst_eq, I.mNew_eq, I.mSeq_eq, I.mTru_eq, I.mCut_eq, I.mPut_eq, I.bAll_eq, I.bAny_eq, I.bSum_eq, I.bSorted_eq, I.bMax_eq, I.bMin_eq, I.kMM_eq, I.bIsi_eq, I.mIt_eq, I.mEnu_eq, I.mZip_eq, I.forL_eq, I.whileL_eq, I.lcL_eq, I.lcO_eq, I.lcB2_eq, I.cDisp_eq, I.gIn_eq, I.mUpd_eq, I.mApp_eq, I.mAttr_eq, I.cMethO_eq, I.mMake_eq, I.cMkK_eq, I.sSetA_eq, I.sAugA_eq, I.bLenO_eq, I.sFrz_eq, I.cRepL_eq, I.mRev_eq, I.iRg3_eq, I.cCall0_eq, I.bListN_eq, I.mRepL_eq, I.mRg3_eq, I.gMulJ_eq] at *
  exact R.oNone h
theorem oSome {P : Option Int → Store → Prop} (h : OkI (a ρ μ) (fun x μ' => IsInt x fun i => P (some i) μ') E) : OkI (I.oSome a ρ μ) P E := by
  simp only [OkI_eq, I.cVar_eq, I.cK_eq, I.c1_eq, I.c2_eq, I.cN_eq, I.aNil_eq, I.aCons_eq, I.aStar_eq, I.cTest_eq, I.cTru_eq, I.cAnd_eq, I.cOr_eq, I.cNot_eq, I.cYes_eq, I.cIf_eq, I.cAndT_eq, I.cOrT_eq, I.cNotT_eq, I.cChain_eq, I.cCall_eq, I.cSlice_eq, I.oNone_eq, I.oSome_eq, I.cKw_eq, I.cMeth_eq, I.cRgL1_eq, I.cRgL2_eq, I.iSeq_eq, I.iRg1_eq, I.iRg2_eq, I.iZp_eq, I.iEn_eq, I.cLc_eq, I.cLc2_eq, I.lcT_eq, I.sNil_eq, I.sPass_eq, I.sBreak_eq, I.sCont_eq, I.sBad_eq, I.sRetN_eq, I.sSeq_eq, I.sExpr_eq, I.sRet_eq, I.sSet_eq, I.sIf_eq, I.sAsg_eq, I.sStore_eq, I.sPar_eq, I.sPar3_eq, I.sAug_eq, I.sFor_eq, I.stp_eq, I.fnD_eq, I.gIxD_eq, I.gAdd_eq, I.gSub_eq, I.gMulI_eq, I.gFdiv_eq, I.gMod_eq, I.gPow_eq, I.gLt_eq, I.gLe_eq, I.gGt_eq, I.gGe_eq, I.gNeg_eq, I.gEqD_eq, I.gIs_eq, I.gIsNot_eq, I.bLen_eq, I.bInt_eq, I.bTuple_eq, I.bListD_eq, I.mTup_eq, I.mLst_eq, I.mNew_eq, I.mSeq_eq, I.mTru_eq, I.mCut_eq, I.mPut_eq, I.bAll_eq, I.bAny_eq, I.bSum_eq, I.bSorted_eq, I.bMax_eq, I.bMin_eq, I.kMM_eq, I.bIsi_eq, I.mIt_eq, I.mEnu_eq, I.mZip_eq, I.forL_eq, I.whileL_eq, I.lcL_eq, I.lcO_eq, I.lcB2_eq, I.cDisp_eq, I.gIn_eq, I.mUpd_eq, I.mApp_eq, I.mAttr_eq, I.cMethO_eq, I.mMake_eq, I.cMkK_eq, I.sSetA_eq, I.sAugA_eq, I.bLenO_eq, I.sFrz_eq, I.cRepL_eq, I.mRev_eq, I.iRg3_eq, I.cCall0_eq, I.bListN_eq, I.mRepL_eq, I.mRg3_eq, I.gMulJ_eq] at *
  exact R.oSome h
theorem cKw {g : List T → T → M T} {d : Env → M T} (h : OkI (as ρ μ) (fun ts μ1 => OkI (d ρ μ1) (fun u μ2 => OkI (g ts u μ2) P E) E) E) : OkI (I.cKw g as d ρ μ) P E := by
  simp only [OkI_eq, I.cVar_eq, I.cK_eq, I.c1_eq, I.c2_eq, I.cN_eq, I.aNil_eq, I.aCons_eq, I.aStar_eq, I.cTest_eq, I.cTru_eq, I.cAnd_eq, I.cOr_eq, I.cNot_eq, I.cYes_eq, I.cIf_eq, I.cAndT_eq, I.cOrT_eq, I.cNotT_eq, I.cChain_eq, I.cCall_eq, I.cSlice_eq, I.oNone_eq, I.oSome_eq, I.cKw_eq, I.cMeth_eq, I.cRgL1_eq, I.cRgL2_eq, I.iSeq_eq, I.iRg1_eq, I.iRg2_eq, I.iZp_eq, I.iEn_eq, I.cLc_eq, I.cLc2_eq, I.lcT_eq, I.sNil_eq, I.sPass_eq, I.sBreak_eq, I.sCont_eq, I.sBad_eq, I.sRetN_eq, I.sSeq_eq, I.sExpr_eq, I.sRet_eq, I.sSet_eq, I.sIf_eq, I.sAsg_eq, I.sStore_eq, I.sPar_eq, I.sPar3_eq, I.sAug_eq, I.sFor_eq, I.stp_eq, I.fnD_eq, I.gIxD_eq, I.gAdd_eq, I.gSub_eq, I.gMulI_eq, I.gFdiv_eq, I.gMod_eq, I.gPow_eq, I.gLt_eq, I.gLe_eq, I.gGt_eq, I.gGe_eq, I.gNeg_eq, I.gEqD_eq, I.gIs_eq, I.gIsNot_eq, I.bLen_eq, I.bInt_eq, I.bTuple_eq, I.bListD_eq, I.mTup_eq, I.mLst_eq, I.mNew_eq, I.mSeq_eq, I.mTru_eq, I.mCut_eq, I.mPut_eq, I.bAll_eq, I.bAny_eq, I.bSum_eq, I.bSorted_eq, I.bMax_eq, I.bMin_eq, I.kMM_eq, I.bIsi_eq, I.mIt_eq, I.mEnu_eq, I.mZip_eq, I.forL_eq, I.whileL_eq, I.lcL_eq, I.lcO_eq, I.lcB2_eq, I.cDisp_eq, I.gIn_eq, I.mUpd_eq, I.mApp_eq, I.mAttr_eq, I.cMethO_eq, I.mMake_eq, I.cMkK_eq, I.sSetA_eq, I.sAugA_eq, I.bLenO_eq, I.sFrz_eq, I.cRepL_eq, I.mRev_eq, I.iRg3_eq, I.cCall0_eq, I.bListN_eq, I.mRepL_eq, I.mRg3_eq, I.gMulJ_eq] at *
  exact R.cKw h
theorem cMeth {Ty : String} {g : T → List T → M T} (h : OkI (a ρ μ) (fun x μ1 => tyOk Ty x μ1 = true ∧ OkI (as ρ μ1) (fun ts μ3 => OkI (g x ts μ3) P E) E) E) : OkI (I.cMeth Ty g a as ρ μ) P E := by
  simp only [OkI_eq, I.cVar_eq, I.cK_eq, I.c1_eq, I.c2_eq, I.cN_eq, I.aNil_eq, I.aCons_eq, I.aStar_eq, I.cTest_eq, I.cTru_eq, I.cAnd_eq, I.cOr_eq, I.cNot_eq, I.cYes_eq, I.cIf_eq, I.cAndT_eq, I.cOrT_eq, I.cNotT_eq, I.cChain_eq, I.cCall_eq, I.cSlice_eq, I.oNone_eq, I.oSome_eq, I.cKw_eq, I.cMeth_eq, I.cRgL1_eq, I.cRgL2_eq, I.iSeq_eq, I.iRg1_eq, I.iRg2_eq, I.iZp_eq, I.iEn_eq, I.cLc_eq, I.cLc2_eq, I.lcT_eq, I.sNil_eq, I.sPass_eq, I.sBreak_eq, I.sCont_eq, I.sBad_eq, I.sRetN_eq, I.sSeq_eq, I.sExpr_eq, I.sRet_eq, I.sSet_eq, I.sIf_eq, I.sAsg_eq, I.sStore_eq, I.sPar_eq, I.sPar3_eq, I.sAug_eq, I.sFor_eq, I.stp_eq, I.fnD_eq, I.gIxD_eq, I.gAdd_eq, I.gSub_eq, I.gMulI_eq, I.gFdiv_eq, I.gMod_eq, I.gPow_eq, I.gLt_eq, I.gLe_eq, I.gGt_eq, I.gGe_eq, I.gNeg_eq, I.gEqD_eq, I.gIs_eq, I.gIsNot_eq, I.bLen_eq, I.bInt_eq, I.bTuple_eq, I.bListD_eq, I.mTup_eq, I.mLst_eq, I.mNew_eq, I.mSeq_eq, I.mTru_eq, I.mCut_eq, I.mPut_eq, I.bAll_eq, I.bAny_eq, I.bSum_eq, I.bSorted_eq, I.bMax_eq, I.bMin_eq, I.kMM_eq, I.bIsi_eq, I.mIt_eq, I.mEnu_eq, I.mZip_eq, I.forL_eq, I.whileL_eq, I.lcL_eq, I.lcO_eq, I.lcB2_eq, I.cDisp_eq, I.gIn_eq, I.mUpd_eq, I.mApp_eq, I.mAttr_eq, I.cMethO_eq, I.mMake_eq, I.cMkK_eq, I.sSetA_eq, I.sAugA_eq, I.bLenO_eq, I.sFrz_eq, I.cRepL_eq, I.mRev_eq, I.iRg3_eq, I.cCall0_eq, I.bListN_eq, I.mRepL_eq, I.mRg3_eq, I.gMulJ_eq] at *
  exact R.cMeth h
theorem cRgL1 {mk : List T → T} (h : OkI (a ρ μ) (fun x μ' => IsInt x fun j => rgOk 0 j = true ∧ P (mk (rgT 0 j)) μ') E) : OkI (I.cRgL1 mk a ρ μ) P E := by
  simp only [OkI_eq, I.cVar_eq, I.cK_eq, I.c1_eq, I.c2_eq, I.cN_eq, I.aNil_eq, I.aCons_eq, I.aStar_eq, I.cTest_eq, I.cTru_eq, I.cAnd_eq, I.cOr_eq, I.cNot_eq, I.cYes_eq, I.cIf_eq, I.cAndT_eq, I.cOrT_eq, I.cNotT_eq, I.cChain_eq, I.cCall_eq, I.cSlice_eq, I.oNone_eq, I.oSome_eq, I.cKw_eq, I.cMeth_eq, I.cRgL1_eq, I.cRgL2_eq, I.iSeq_eq, I.iRg1_eq, I.iRg2_eq, I.iZp_eq, I.iEn_eq, I.cLc_eq, I.cLc2_eq, I.lcT_eq, I.sNil_eq, I.sPass_eq, I.sBreak_eq, I.sCont_eq, I.sBad_eq, I.sRetN_eq, I.sSeq_eq, I.sExpr_eq, I.sRet_eq, I.sSet_eq, I.sIf_eq, I.sAsg_eq, I.sStore_eq, I.sPar_eq, I.sPar3_eq, I.sAug_eq, I.sFor_eq, I.stp_eq, I.fnD_eq, I.gIxD_eq, I.gAdd_eq, I.gSub_eq, I.gMulI_eq, I.gFdiv_eq, I.gMod_eq, I.gPow_eq, I.gLt_eq, I.gLe_eq, I.gGt_eq, I.gGe_eq, I.gNeg_eq, I.gEqD_eq, I.gIs_eq, I.gIsNot_eq, I.bLen_eq, I.bInt_eq, I.bTuple_eq, I.bListD_eq, I.mTup_eq, I.mLst_eq, I.mNew_eq, I.mSeq_eq, I.mTru_eq, I.mCut_eq, I.mPut_eq, I.bAll_eq, I.bAny_eq, I.bSum_eq, I.bSorted_eq, I.bMax_eq, I.bMin_eq, I.kMM_eq, I.bIsi_eq, I.mIt_eq, I.mEnu_eq, I.mZip_eq, I.forL_eq, I.whileL_eq, I.lcL_eq, I.lcO_eq, I.lcB2_eq, I.cDisp_eq, I.gIn_eq, I.mUpd_eq, I.mApp_eq, I.mAttr_eq, I.cMethO_eq, I.mMake_eq, I.cMkK_eq, I.sSetA_eq, I.sAugA_eq, I.bLenO_eq, I.sFrz_eq, I.cRepL_eq, I.mRev_eq, I.iRg3_eq, I.cCall0_eq, I.bListN_eq, I.mRepL_eq, I.mRg3_eq, I.gMulJ_eq] at *
  exact R.cRgL1 h
theorem cRgL2 {mk : List T → T} (h : OkI (a ρ μ) (fun x μ1 => OkI (b ρ μ1) (fun y μ' => IsI2 [x, y] fun i j => rgOk i j = true ∧ P (mk (rgT i j)) μ') E) E) : OkI (I.cRgL2 mk a b ρ μ) P E := by
  simp only [OkI_eq, I.cVar_eq, I.cK_eq, I.c1_eq, I.c2_eq, I.cN_eq, I.aNil_eq, I.aCons_eq, I.aStar_eq, I.cTest_eq, I.cTru_eq, I.cAnd_eq, I.cOr_eq, I.cNot_eq, I.cYes_eq, I.cIf_eq, I.cAndT_eq, I.cOrT_eq, I.cNotT_eq, I.cChain_eq, I.cCall_eq, I.cSlice_eq, I.oNone_eq, I.oSome_eq, I.cKw_eq, I.cMeth_eq, I.cRgL1_eq, I.cRgL2_eq, I.iSeq_eq, I.iRg1_eq, I.iRg2_eq, I.iZp_eq, I.iEn_eq, I.cLc_eq, I.cLc2_eq, I.lcT_eq, I.sNil_eq, I.sPass_eq, I.sBreak_eq, I.sCont_eq, I.sBad_eq, I.sRetN_eq, I.sSeq_eq, I.sExpr_eq, I.sRet_eq, I.sSet_eq, I.sIf_eq, I.sAsg_eq, I.sStore_eq, I.sPar_eq, I.sPar3_eq, I.sAug_eq, I.sFor_eq, I.stp_eq, I.fnD_eq, I.gIxD_eq, I.gAdd_eq, I.gSub_eq, I.gMulI_eq, I.gFdiv_eq, I.gMod_eq, I.gPow_eq, I.gLt_eq, I.gLe_eq, I.gGt_eq, I.gGe_eq, I.gNeg_eq, I.gEqD_eq, I.gIs_eq, I.gIsNot_eq, I.bLen_eq, I.bInt_eq, I.bTuple_eq, I.bListD_eq, I.mTup_eq, I.mLst_eq, I.mNew_eq, I.mSeq_eq, I.mTru_eq, I.mCut_eq, I.mPut_eq, I.bAll_eq, I.bAny_eq, I.bSum_eq, I.bSorted_eq, I.bMax_eq, I.bMin_eq, I.kMM_eq, I.bIsi_eq, I.mIt_eq, I.mEnu_eq, I.mZip_eq, I.forL_eq, I.whileL_eq, I.lcL_eq, I.lcO_eq, I.lcB2_eq, I.cDisp_eq, I.gIn_eq, I.mUpd_eq, I.mApp_eq, I.mAttr_eq, I.cMethO_eq, I.mMake_eq, I.cMkK_eq, I.sSetA_eq, I.sAugA_eq, I.bLenO_eq, I.sFrz_eq, I.cRepL_eq, I.mRev_eq, I.iRg3_eq, I.cCall0_eq, I.bListN_eq, I.mRepL_eq, I.mRg3_eq, I.gMulJ_eq] at *
  exact R.cRgL2 h
theorem iSeq (h : OkI (a ρ μ) (fun x μ' => OkI (I.mIt x μ') PL E) E) : OkI (I.iSeq a ρ μ) PL E := by
  simp only [OkI_eq, I.cVar_eq, I.cK_eq, I.c1_eq, I.c2_eq, I.cN_eq, I.aNil_eq, I.aCons_eq, I.aStar_eq, I.cTest_eq, I.cTru_eq, I.cAnd_eq, I.cOr_eq, I.cNot_eq, I.cYes_eq, I.cIf_eq, I.cAndT_eq, I.cOrT_eq, I.cNotT_eq, I.cChain_eq, I.cCall_eq, I.cSlice_eq, I.oNone_eq, I.oSome_eq, I.cKw_eq, I.cMeth_eq, I.cRgL1_eq, I.cRgL2_eq, I.iSeq_eq, I.iRg1_eq, I.iRg2_eq, I.iZp_eq, I.iEn_eq, I.cLc_eq, I.cLc2_eq, I.lcT_eq, I.sNil_eq, I.sPass_eq, I.sBreak_eq, I.sCont_eq, I.sBad_eq, I.sRetN_eq, I.sSeq_eq, I.sExpr_eq, I.sRet_eq, I.sSet_eq, I.sIf_eq, I.sAsg_eq, I.sStore_eq, I.sPar_eq, I.sPar3_eq, I.sAug_eq, I.sFor_eq, I.stp_eq, I.fnD_eq, I.gIxD_eq, I.gAdd_eq, I.gSub_eq, I.gMulI_eq, I.gFdiv_eq, I.gMod_eq, I.gPow_eq, I.gLt_eq, I.gLe_eq, I.gGt_eq, I.gGe_eq, I.gNeg_eq, I.gEqD_eq, I.gIs_eq, I.gIsNot_eq, I.bLen_eq, I.bInt_eq, I.bTuple_eq, I.bListD_eq, I.mTup_eq, I.mLst_eq, I.mNew_eq, I.mSeq_eq, I.mTru_eq, I.mCut_eq, I.mPut_eq, I.bAll_eq, I.bAny_eq, I.bSum_eq, I.bSorted_eq, I.bMax_eq, I.bMin_eq, I.kMM_eq, I.bIsi_eq, I.mIt_eq, I.mEnu_eq, I.mZip_eq, I.forL_eq, I.whileL_eq, I.lcL_eq, I.lcO_eq, I.lcB2_eq, I.cDisp_eq, I.gIn_eq, I.mUpd_eq, I.mApp_eq, I.mAttr_eq, I.cMethO_eq, I.mMake_eq, I.cMkK_eq, I.sSetA_eq, I.sAugA_eq, I.bLenO_eq, I.sFrz_eq, I.cRepL_eq, I.mRev_eq, I.iRg3_eq, I.cCall0_eq, I.bListN_eq, I.mRepL_eq, I.mRg3_eq, I.gMulJ_eq] at *
  exact R.iSeq h
theorem mItT {ts : List T} (h : PL ts μ) : OkI (I.mIt (.tup ts) μ) PL E := by
  simp only [OkI_eq, I.cVar_eq, I.cK_eq, I.c1_eq, I.c2_eq, I.cN_eq, I.aNil_eq, I.aCons_eq, I.aStar_eq, I.cTest_eq, I.cTru_eq, I.cAnd_eq, I.cOr_eq, I.cNot_eq, I.cYes_eq, I.cIf_eq, I.cAndT_eq, I.cOrT_eq, I.cNotT_eq, I.cChain_eq, I.cCall_eq, I.cSlice_eq, I.oNone_eq, I.oSome_eq, I.cKw_eq, I.cMeth_eq, I.cRgL1_eq, I.cRgL2_eq, I.iSeq_eq, I.iRg1_eq, I.iRg2_eq, I.iZp_eq, I.iEn_eq, I.cLc_eq, I.cLc2_eq, I.lcT_eq, I.sNil_eq, I.sPass_eq, I.sBreak_eq, I.sCont_eq, I.sBad_eq, I.sRetN_eq, I.sSeq_eq, I.sExpr_eq, I.sRet_eq, I.sSet_eq, I.sIf_eq, I.sAsg_eq, I.sStore_eq, I.sPar_eq, I.sPar3_eq, I.sAug_eq, I.sFor_eq, I.stp_eq, I.fnD_eq, I.gIxD_eq, I.gAdd_eq, I.gSub_eq, I.gMulI_eq, I.gFdiv_eq, I.gMod_eq, I.gPow_eq, I.gLt_eq, I.gLe_eq, I.gGt_eq, I.gGe_eq, I.gNeg_eq, I.gEqD_eq, I.gIs_eq, I.gIsNot_eq, I.bLen_eq, I.bInt_eq, I.bTuple_eq, I.bListD_eq, I.mTup_eq, I.mLst_eq, I.mNew_eq, I.mSeq_eq, I.mTru_eq, I.mCut_eq, I.mPut_eq, I.bAll_eq, I.bAny_eq, I.bSum_eq, I.bSorted_eq, I.bMax_eq, I.bMin_eq, I.kMM_eq, I.bIsi_eq, I.mIt_eq, I.mEnu_eq, I.mZip_eq, I.forL_eq, I.whileL_eq, I.lcL_eq, I.lcO_eq, I.lcB2_eq, I.cDisp_eq, I.gIn_eq, I.mUpd_eq, I.mApp_eq, I.mAttr_eq, I.cMethO_eq, I.mMake_eq, I.cMkK_eq, I.sSetA_eq, I.sAugA_eq, I.bLenO_eq, I.sFrz_eq, I.cRepL_eq, I.mRev_eq, I.iRg3_eq, I.cCall0_eq, I.bListN_eq, I.mRepL_eq, I.mRg3_eq, I.gMulJ_eq] at *
  exact R.mItT h
theorem mItL {ts : List T} (h : PL ts μ) : OkI (I.mIt (.lst ts) μ) PL E := by
  simp only [OkI_eq, I.cVar_eq, I.cK_eq, I.c1_eq, I.c2_eq, I.cN_eq, I.aNil_eq, I.aCons_eq, I.aStar_eq, I.cTest_eq, I.cTru_eq, I.cAnd_eq, I.cOr_eq, I.cNot_eq, I.cYes_eq, I.cIf_eq, I.cAndT_eq, I.cOrT_eq, I.cNotT_eq, I.cChain_eq, I.cCall_eq, I.cSlice_eq, I.oNone_eq, I.oSome_eq, I.cKw_eq, I.cMeth_eq, I.cRgL1_eq, I.cRgL2_eq, I.iSeq_eq, I.iRg1_eq, I.iRg2_eq, I.iZp_eq, I.iEn_eq, I.cLc_eq, I.cLc2_eq, I.lcT_eq, I.sNil_eq, I.sPass_eq, I.sBreak_eq, I.sCont_eq, I.sBad_eq, I.sRetN_eq, I.sSeq_eq, I.sExpr_eq, I.sRet_eq, I.sSet_eq, I.sIf_eq, I.sAsg_eq, I.sStore_eq, I.sPar_eq, I.sPar3_eq, I.sAug_eq, I.sFor_eq, I.stp_eq, I.fnD_eq, I.gIxD_eq, I.gAdd_eq, I.gSub_eq, I.gMulI_eq, I.gFdiv_eq, I.gMod_eq, I.gPow_eq, I.gLt_eq, I.gLe_eq, I.gGt_eq, I.gGe_eq, I.gNeg_eq, I.gEqD_eq, I.gIs_eq, I.gIsNot_eq, I.bLen_eq, I.bInt_eq, I.bTuple_eq, I.bListD_eq, I.mTup_eq, I.mLst_eq, I.mNew_eq, I.mSeq_eq, I.mTru_eq, I.mCut_eq, I.mPut_eq, I.bAll_eq, I.bAny_eq, I.bSum_eq, I.bSorted_eq, I.bMax_eq, I.bMin_eq, I.kMM_eq, I.bIsi_eq, I.mIt_eq, I.mEnu_eq, I.mZip_eq, I.forL_eq, I.whileL_eq, I.lcL_eq, I.lcO_eq, I.lcB2_eq, I.cDisp_eq, I.gIn_eq, I.mUpd_eq, I.mApp_eq, I.mAttr_eq, I.cMethO_eq, I.mMake_eq, I.cMkK_eq, I.sSetA_eq, I.sAugA_eq, I.bLenO_eq, I.sFrz_eq, I.cRepL_eq, I.mRev_eq, I.iRg3_eq, I.cCall0_eq, I.bListN_eq, I.mRepL_eq, I.mRg3_eq, I.gMulJ_eq] at *
  exact R.mItL h
theorem iRg1 (h : OkI (as ρ μ) (fun x μ' => IsI1 x fun j => inR j = true ∧ PL (rgT 0 j) μ') E) : OkI (I.iRg1 as ρ μ) PL E := by
  simp only [OkI_eq, I.cVar_eq, I.cK_eq, I.c1_eq, I.c2_eq, I.cN_eq, I.aNil_eq, I.aCons_eq, I.aStar_eq, I.cTest_eq, I.cTru_eq, I.cAnd_eq, I.cOr_eq, I.cNot_eq, I.cYes_eq, I.cIf_eq, I.cAndT_eq, I.cOrT_eq, I.cNotT_eq, I.cChain_eq, I.cCall_eq, I.cSlice_eq, I.oNone_eq, I.oSome_eq, I.cKw_eq, I.cMeth_eq, I.cRgL1_eq, I.cRgL2_eq, I.iSeq_eq, I.iRg1_eq, I.iRg2_eq, I.iZp_eq, I.iEn_eq, I.cLc_eq, I.cLc2_eq, I.lcT_eq, I.sNil_eq, I.sPass_eq, I.sBreak_eq, I.sCont_eq, I.sBad_eq, I.sRetN_eq, I.sSeq_eq, I.sExpr_eq, I.sRet_eq, I.sSet_eq, I.sIf_eq, I.sAsg_eq, I.sStore_eq, I.sPar_eq, I.sPar3_eq, I.sAug_eq, I.sFor_eq, I.stp_eq, I.fnD_eq, I.gIxD_eq, I.gAdd_eq, I.gSub_eq, I.gMulI_eq, I.gFdiv_eq, I.gMod_eq, I.gPow_eq, I.gLt_eq, I.gLe_eq, I.gGt_eq, I.gGe_eq, I.gNeg_eq, I.gEqD_eq, I.gIs_eq, I.gIsNot_eq, I.bLen_eq, I.bInt_eq, I.bTuple_eq, I.bListD_eq, I.mTup_eq, I.mLst_eq, I.mNew_eq, I.mSeq_eq, I.mTru_eq, I.mCut_eq, I.mPut_eq, I.bAll_eq, I.bAny_eq, I.bSum_eq, I.bSorted_eq, I.bMax_eq, I.bMin_eq, I.kMM_eq, I.bIsi_eq, I.mIt_eq, I.mEnu_eq, I.mZip_eq, I.forL_eq, I.whileL_eq, I.lcL_eq, I.lcO_eq, I.lcB2_eq, I.cDisp_eq, I.gIn_eq, I.mUpd_eq, I.mApp_eq, I.mAttr_eq, I.cMethO_eq, I.mMake_eq, I.cMkK_eq, I.sSetA_eq, I.sAugA_eq, I.bLenO_eq, I.sFrz_eq, I.cRepL_eq, I.mRev_eq, I.iRg3_eq, I.cCall0_eq, I.bListN_eq, I.mRepL_eq, I.mRg3_eq, I.gMulJ_eq] at *
  exact R.iRg1 h
theorem iRg2 (h : OkI (as ρ μ) (fun x μ' => IsI2 x fun i j => inR i = true ∧ inR j = true ∧ PL (rgT i j) μ') E) : OkI (I.iRg2 as ρ μ) PL E := by
  simp only [OkI_eq, I.cVar_eq, I.cK_eq, I.c1_eq, I.c2_eq, I.cN_eq, I.aNil_eq, I.aCons_eq, I.aStar_eq, I.cTest_eq, I.cTru_eq, I.cAnd_eq, I.cOr_eq, I.cNot_eq, I.cYes_eq, I.cIf_eq, I.cAndT_eq, I.cOrT_eq, I.cNotT_eq, I.cChain_eq, I.cCall_eq, I.cSlice_eq, I.oNone_eq, I.oSome_eq, I.cKw_eq, I.cMeth_eq, I.cRgL1_eq, I.cRgL2_eq, I.iSeq_eq, I.iRg1_eq, I.iRg2_eq, I.iZp_eq, I.iEn_eq, I.cLc_eq, I.cLc2_eq, I.lcT_eq, I.sNil_eq, I.sPass_eq, I.sBreak_eq, I.sCont_eq, I.sBad_eq, I.sRetN_eq, I.sSeq_eq, I.sExpr_eq, I.sRet_eq, I.sSet_eq, I.sIf_eq, I.sAsg_eq, I.sStore_eq, I.sPar_eq, I.sPar3_eq, I.sAug_eq, I.sFor_eq, I.stp_eq, I.fnD_eq, I.gIxD_eq, I.gAdd_eq, I.gSub_eq, I.gMulI_eq, I.gFdiv_eq, I.gMod_eq, I.gPow_eq, I.gLt_eq, I.gLe_eq, I.gGt_eq, I.gGe_eq, I.gNeg_eq, I.gEqD_eq, I.gIs_eq, I.gIsNot_eq, I.bLen_eq, I.bInt_eq, I.bTuple_eq, I.bListD_eq, I.mTup_eq, I.mLst_eq, I.mNew_eq, I.mSeq_eq, I.mTru_eq, I.mCut_eq, I.mPut_eq, I.bAll_eq, I.bAny_eq, I.bSum_eq, I.bSorted_eq, I.bMax_eq, I.bMin_eq, I.kMM_eq, I.bIsi_eq, I.mIt_eq, I.mEnu_eq, I.mZip_eq, I.forL_eq, I.whileL_eq, I.lcL_eq, I.lcO_eq, I.lcB2_eq, I.cDisp_eq, I.gIn_eq, I.mUpd_eq, I.mApp_eq, I.mAttr_eq, I.cMethO_eq, I.mMake_eq, I.cMkK_eq, I.sSetA_eq, I.sAugA_eq, I.bLenO_eq, I.sFrz_eq, I.cRepL_eq, I.mRev_eq, I.iRg3_eq, I.cCall0_eq, I.bListN_eq, I.mRepL_eq, I.mRg3_eq, I.gMulJ_eq] at *
  exact R.iRg2 h
theorem iZp (h : OkI (as ρ μ) (fun x μ' => OkI (I.mZip x μ') PL E) E) : OkI (I.iZp as ρ μ) PL E := by
  simp only [OkI_eq, I.cVar_eq, I.cK_eq, I.c1_eq, I.c2_eq, I.cN_eq, I.aNil_eq, I.aCons_eq, I.aStar_eq, I.cTest_eq, I.cTru_eq, I.cAnd_eq, I.cOr_eq, I.cNot_eq, I.cYes_eq, I.cIf_eq, I.cAndT_eq, I.cOrT_eq, I.cNotT_eq, I.cChain_eq, I.cCall_eq, I.cSlice_eq, I.oNone_eq, I.oSome_eq, I.cKw_eq, I.cMeth_eq, I.cRgL1_eq, I.cRgL2_eq, I.iSeq_eq, I.iRg1_eq, I.iRg2_eq, I.iZp_eq, I.iEn_eq, I.cLc_eq, I.cLc2_eq, I.lcT_eq, I.sNil_eq, I.sPass_eq, I.sBreak_eq, I.sCont_eq, I.sBad_eq, I.sRetN_eq, I.sSeq_eq, I.sExpr_eq, I.sRet_eq, I.sSet_eq, I.sIf_eq, I.sAsg_eq, I.sStore_eq, I.sPar_eq, I.sPar3_eq, I.sAug_eq, I.sFor_eq, I.stp_eq, I.fnD_eq, I.gIxD_eq, I.gAdd_eq, I.gSub_eq, I.gMulI_eq, I.gFdiv_eq, I.gMod_eq, I.gPow_eq, I.gLt_eq, I.gLe_eq, I.gGt_eq, I.gGe_eq, I.gNeg_eq, I.gEqD_eq, I.gIs_eq, I.gIsNot_eq, I.bLen_eq, I.bInt_eq, I.bTuple_eq, I.bListD_eq, I.mTup_eq, I.mLst_eq, I.mNew_eq, I.mSeq_eq, I.mTru_eq, I.mCut_eq, I.mPut_eq, I.bAll_eq, I.bAny_eq, I.bSum_eq, I.bSorted_eq, I.bMax_eq, I.bMin_eq, I.kMM_eq, I.bIsi_eq, I.mIt_eq, I.mEnu_eq, I.mZip_eq, I.forL_eq, I.whileL_eq, I.lcL_eq, I.lcO_eq, I.lcB2_eq, I.cDisp_eq, I.gIn_eq, I.mUpd_eq, I.mApp_eq, I.mAttr_eq, I.cMethO_eq, I.mMake_eq, I.cMkK_eq, I.sSetA_eq, I.sAugA_eq, I.bLenO_eq, I.sFrz_eq, I.cRepL_eq, I.mRev_eq, I.iRg3_eq, I.cCall0_eq, I.bListN_eq, I.mRepL_eq, I.mRg3_eq, I.gMulJ_eq] at *
  exact R.iZp h
theorem iEn (h : OkI (as ρ μ) (fun x μ' => OkI (I.mEnu x μ') PL E) E) : OkI (I.iEn as ρ μ) PL E := by
  simp only [OkI_eq, I.cVar_eq, I.cK_eq, I.c1_eq, I.c2_eq, I.cN_eq, I.aNil_eq, I.aCons_eq, I.aStar_eq, I.cTest_eq, I.cTru_eq, I.cAnd_eq, I.cOr_eq, I.cNot_eq, I.cYes_eq, I.cIf_eq, I.cAndT_eq, I.cOrT_eq, I.cNotT_eq, I.cChain_eq, I.cCall_eq, I.cSlice_eq, I.oNone_eq, I.oSome_eq, I.cKw_eq, I.cMeth_eq, I.cRgL1_eq, I.cRgL2_eq, I.iSeq_eq, I.iRg1_eq, I.iRg2_eq, I.iZp_eq, I.iEn_eq, I.cLc_eq, I.cLc2_eq, I.lcT_eq, I.sNil_eq, I.sPass_eq, I.sBreak_eq, I.sCont_eq, I.sBad_eq, I.sRetN_eq, I.sSeq_eq, I.sExpr_eq, I.sRet_eq, I.sSet_eq, I.sIf_eq, I.sAsg_eq, I.sStore_eq, I.sPar_eq, I.sPar3_eq, I.sAug_eq, I.sFor_eq, I.stp_eq, I.fnD_eq, I.gIxD_eq, I.gAdd_eq, I.gSub_eq, I.gMulI_eq, I.gFdiv_eq, I.gMod_eq, I.gPow_eq, I.gLt_eq, I.gLe_eq, I.gGt_eq, I.gGe_eq, I.gNeg_eq, I.gEqD_eq, I.gIs_eq, I.gIsNot_eq, I.bLen_eq, I.bInt_eq, I.bTuple_eq, I.bListD_eq, I.mTup_eq, I.mLst_eq, I.mNew_eq, I.mSeq_eq, I.mTru_eq, I.mCut_eq, I.mPut_eq, I.bAll_eq, I.bAny_eq, I.bSum_eq, I.bSorted_eq, I.bMax_eq, I.bMin_eq, I.kMM_eq, I.bIsi_eq, I.mIt_eq, I.mEnu_eq, I.mZip_eq, I.forL_eq, I.whileL_eq, I.lcL_eq, I.lcO_eq, I.lcB2_eq, I.cDisp_eq, I.gIn_eq, I.mUpd_eq, I.mApp_eq, I.mAttr_eq, I.cMethO_eq, I.mMake_eq, I.cMkK_eq, I.sSetA_eq, I.sAugA_eq, I.bLenO_eq, I.sFrz_eq, I.cRepL_eq, I.mRev_eq, I.iRg3_eq, I.cCall0_eq, I.bListN_eq, I.mRepL_eq, I.mRg3_eq, I.gMulJ_eq] at *
  exact R.iEn h
theorem mEnuT {ts : List T} (h : PL (enT ts) μ) : OkI (I.mEnu [.tup ts] μ) PL E := by
  simp only [OkI_eq, I.cVar_eq, I.cK_eq, I.c1_eq, I.c2_eq, I.cN_eq, I.aNil_eq, I.aCons_eq, I.aStar_eq, I.cTest_eq, I.cTru_eq, I.cAnd_eq, I.cOr_eq, I.cNot_eq, I.cYes_eq, I.cIf_eq, I.cAndT_eq, I.cOrT_eq, I.cNotT_eq, I.cChain_eq, I.cCall_eq, I.cSlice_eq, I.oNone_eq, I.oSome_eq, I.cKw_eq, I.cMeth_eq, I.cRgL1_eq, I.cRgL2_eq, I.iSeq_eq, I.iRg1_eq, I.iRg2_eq, I.iZp_eq, I.iEn_eq, I.cLc_eq, I.cLc2_eq, I.lcT_eq, I.sNil_eq, I.sPass_eq, I.sBreak_eq, I.sCont_eq, I.sBad_eq, I.sRetN_eq, I.sSeq_eq, I.sExpr_eq, I.sRet_eq, I.sSet_eq, I.sIf_eq, I.sAsg_eq, I.sStore_eq, I.sPar_eq, I.sPar3_eq, I.sAug_eq, I.sFor_eq, I.stp_eq, I.fnD_eq, I.gIxD_eq, I.gAdd_eq, I.gSub_eq, I.gMulI_eq, I.gFdiv_eq, I.gMod_eq, I.gPow_eq, I.gLt_eq, I.gLe_eq, I.gGt_eq, I.gGe_eq, I.gNeg_eq, I.gEqD_eq, I.gIs_eq, I.gIsNot_eq, I.bLen_eq, I.bInt_eq, I.bTuple_eq, I.bListD_eq, I.mTup_eq, I.mLst_eq, I.mNew_eq, I.mSeq_eq, I.mTru_eq, I.mCut_eq, I.mPut_eq, I.bAll_eq, I.bAny_eq, I.bSum_eq, I.bSorted_eq, I.bMax_eq, I.bMin_eq, I.kMM_eq, I.bIsi_eq, I.mIt_eq, I.mEnu_eq, I.mZip_eq, I.forL_eq, I.whileL_eq, I.lcL_eq, I.lcO_eq, I.lcB2_eq, I.cDisp_eq, I.gIn_eq, I.mUpd_eq, I.mApp_eq, I.mAttr_eq, I.cMethO_eq, I.mMake_eq, I.cMkK_eq, I.sSetA_eq, I.sAugA_eq, I.bLenO_eq, I.sFrz_eq, I.cRepL_eq, I.mRev_eq, I.iRg3_eq, I.cCall0_eq, I.bListN_eq, I.mRepL_eq, I.mRg3_eq, I.gMulJ_eq] at *
  exact R.mEnuT h
theorem mEnuL {ts : List T} (h : PL (enT ts) μ) : OkI (I.mEnu [.lst ts] μ) PL E := by
  simp only [OkI_eq, I.cVar_eq, I.cK_eq, I.c1_eq, I.c2_eq, I.cN_eq, I.aNil_eq, I.aCons_eq, I.aStar_eq, I.cTest_eq, I.cTru_eq, I.cAnd_eq, I.cOr_eq, I.cNot_eq, I.cYes_eq, I.cIf_eq, I.cAndT_eq, I.cOrT_eq, I.cNotT_eq, I.cChain_eq, I.cCall_eq, I.cSlice_eq, I.oNone_eq, I.oSome_eq, I.cKw_eq, I.cMeth_eq, I.cRgL1_eq, I.cRgL2_eq, I.iSeq_eq, I.iRg1_eq, I.iRg2_eq, I.iZp_eq, I.iEn_eq, I.cLc_eq, I.cLc2_eq, I.lcT_eq, I.sNil_eq, I.sPass_eq, I.sBreak_eq, I.sCont_eq, I.sBad_eq, I.sRetN_eq, I.sSeq_eq, I.sExpr_eq, I.sRet_eq, I.sSet_eq, I.sIf_eq, I.sAsg_eq, I.sStore_eq, I.sPar_eq, I.sPar3_eq, I.sAug_eq, I.sFor_eq, I.stp_eq, I.fnD_eq, I.gIxD_eq, I.gAdd_eq, I.gSub_eq, I.gMulI_eq, I.gFdiv_eq, I.gMod_eq, I.gPow_eq, I.gLt_eq, I.gLe_eq, I.gGt_eq, I.gGe_eq, I.gNeg_eq, I.gEqD_eq, I.gIs_eq, I.gIsNot_eq, I.bLen_eq, I.bInt_eq, I.bTuple_eq, I.bListD_eq, I.mTup_eq, I.mLst_eq, I.mNew_eq, I.mSeq_eq, I.mTru_eq, I.mCut_eq, I.mPut_eq, I.bAll_eq, I.bAny_eq, I.bSum_eq, I.bSorted_eq, I.bMax_eq, I.bMin_eq, I.kMM_eq, I.bIsi_eq, I.mIt_eq, I.mEnu_eq, I.mZip_eq, I.forL_eq, I.whileL_eq, I.lcL_eq, I.lcO_eq, I.lcB2_eq, I.cDisp_eq, I.gIn_eq, I.mUpd_eq, I.mApp_eq, I.mAttr_eq, I.cMethO_eq, I.mMake_eq, I.cMkK_eq, I.sSetA_eq, I.sAugA_eq, I.bLenO_eq, I.sFrz_eq, I.cRepL_eq, I.mRev_eq, I.iRg3_eq, I.cCall0_eq, I.bListN_eq, I.mRepL_eq, I.mRg3_eq, I.gMulJ_eq] at *
  exact R.mEnuL h
theorem mZipT {ts us : List T} (h : PL (prs ts us) μ) : OkI (I.mZip [.tup ts, .tup us] μ) PL E := by
  simp only [OkI_eq, I.cVar_eq, I.cK_eq, I.c1_eq, I.c2_eq, I.cN_eq, I.aNil_eq, I.aCons_eq, I.aStar_eq, I.cTest_eq, I.cTru_eq, I.cAnd_eq, I.cOr_eq, I.cNot_eq, I.cYes_eq, I.cIf_eq, I.cAndT_eq, I.cOrT_eq, I.cNotT_eq, I.cChain_eq, I.cCall_eq, I.cSlice_eq, I.oNone_eq, I.oSome_eq, I.cKw_eq, I.cMeth_eq, I.cRgL1_eq, I.cRgL2_eq, I.iSeq_eq, I.iRg1_eq, I.iRg2_eq, I.iZp_eq, I.iEn_eq, I.cLc_eq, I.cLc2_eq, I.lcT_eq, I.sNil_eq, I.sPass_eq, I.sBreak_eq, I.sCont_eq, I.sBad_eq, I.sRetN_eq, I.sSeq_eq, I.sExpr_eq, I.sRet_eq, I.sSet_eq, I.sIf_eq, I.sAsg_eq, I.sStore_eq, I.sPar_eq, I.sPar3_eq, I.sAug_eq, I.sFor_eq, I.stp_eq, I.fnD_eq, I.gIxD_eq, I.gAdd_eq, I.gSub_eq, I.gMulI_eq, I.gFdiv_eq, I.gMod_eq, I.gPow_eq, I.gLt_eq, I.gLe_eq, I.gGt_eq, I.gGe_eq, I.gNeg_eq, I.gEqD_eq, I.gIs_eq, I.gIsNot_eq, I.bLen_eq, I.bInt_eq, I.bTuple_eq, I.bListD_eq, I.mTup_eq, I.mLst_eq, I.mNew_eq, I.mSeq_eq, I.mTru_eq, I.mCut_eq, I.mPut_eq, I.bAll_eq, I.bAny_eq, I.bSum_eq, I.bSorted_eq, I.bMax_eq, I.bMin_eq, I.kMM_eq, I.bIsi_eq, I.mIt_eq, I.mEnu_eq, I.mZip_eq, I.forL_eq, I.whileL_eq, I.lcL_eq, I.lcO_eq, I.lcB2_eq, I.cDisp_eq, I.gIn_eq, I.mUpd_eq, I.mApp_eq, I.mAttr_eq, I.cMethO_eq, I.mMake_eq, I.cMkK_eq, I.sSetA_eq, I.sAugA_eq, I.bLenO_eq, I.sFrz_eq, I.cRepL_eq, I.mRev_eq, I.iRg3_eq, I.cCall0_eq, I.bListN_eq, I.mRepL_eq, I.mRg3_eq, I.gMulJ_eq] at *
  exact R.mZipT h
theorem mZipL {ts us : List T} (h : PL (prs ts us) μ) : OkI (I.mZip [.lst ts, .lst us] μ) PL E := by
  simp only [OkI_eq, I.cVar_eq, I.cK_eq, I.c1_eq, I.c2_eq, I.cN_eq, I.aNil_eq, I.aCons_eq, I.aStar_eq, I.cTest_eq, I.cTru_eq, I.cAnd_eq, I.cOr_eq, I.cNot_eq, I.cYes_eq, I.cIf_eq, I.cAndT_eq, I.cOrT_eq, I.cNotT_eq, I.cChain_eq, I.cCall_eq, I.cSlice_eq, I.oNone_eq, I.oSome_eq, I.cKw_eq, I.cMeth_eq, I.cRgL1_eq, I.cRgL2_eq, I.iSeq_eq, I.iRg1_eq, I.iRg2_eq, I.iZp_eq, I.iEn_eq, I.cLc_eq, I.cLc2_eq, I.lcT_eq, I.sNil_eq, I.sPass_eq, I.sBreak_eq, I.sCont_eq, I.sBad_eq, I.sRetN_eq, I.sSeq_eq, I.sExpr_eq, I.sRet_eq, I.sSet_eq, I.sIf_eq, I.sAsg_eq, I.sStore_eq, I.sPar_eq, I.sPar3_eq, I.sAug_eq, I.sFor_eq, I.stp_eq, I.fnD_eq, I.gIxD_eq, I.gAdd_eq, I.gSub_eq, I.gMulI_eq, I.gFdiv_eq, I.gMod_eq, I.gPow_eq, I.gLt_eq, I.gLe_eq, I.gGt_eq, I.gGe_eq, I.gNeg_eq, I.gEqD_eq, I.gIs_eq, I.gIsNot_eq, I.bLen_eq, I.bInt_eq, I.bTuple_eq, I.bListD_eq, I.mTup_eq, I.mLst_eq, I.mNew_eq, I.mSeq_eq, I.mTru_eq, I.mCut_eq, I.mPut_eq, I.bAll_eq, I.bAny_eq, I.bSum_eq, I.bSorted_eq, I.bMax_eq, I.bMin_eq, I.kMM_eq, I.bIsi_eq, I.mIt_eq, I.mEnu_eq, I.mZip_eq, I.forL_eq, I.whileL_eq, I.lcL_eq, I.lcO_eq, I.lcB2_eq, I.cDisp_eq, I.gIn_eq, I.mUpd_eq, I.mApp_eq, I.mAttr_eq, I.cMethO_eq, I.mMake_eq, I.cMkK_eq, I.sSetA_eq, I.sAugA_eq, I.bLenO_eq, I.sFrz_eq, I.cRepL_eq, I.mRev_eq, I.iRg3_eq, I.cCall0_eq, I.bListN_eq, I.mRepL_eq, I.mRg3_eq, I.gMulJ_eq] at *
  exact R.mZipL h
theorem cLc {it : Env → M (List T)} {f : T → Env → Option Env} {t : Env → M Bool} {vs : List Nat} (h : OkI (it ρ μ) (fun ts μ1 => OkI (I.lcL ts (I.lcT f t a (wipeE ρ vs)) [] μ1) (fun us μ2 => P (.lst us) μ2) E) E) : OkI (I.cLc it f t a vs ρ μ) P E := by
  simp only [OkI_eq, I.cVar_eq, I.cK_eq, I.c1_eq, I.c2_eq, I.cN_eq, I.aNil_eq, I.aCons_eq, I.aStar_eq, I.cTest_eq, I.cTru_eq, I.cAnd_eq, I.cOr_eq, I.cNot_eq, I.cYes_eq, I.cIf_eq, I.cAndT_eq, I.cOrT_eq, I.cNotT_eq, I.cChain_eq, I.cCall_eq, I.cSlice_eq, I.oNone_eq, I.oSome_eq, I.cKw_eq, I.cMeth_eq, I.cRgL1_eq, I.cRgL2_eq, I.iSeq_eq, I.iRg1_eq, I.iRg2_eq, I.iZp_eq, I.iEn_eq, I.cLc_eq, I.cLc2_eq, I.lcT_eq, I.sNil_eq, I.sPass_eq, I.sBreak_eq, I.sCont_eq, I.sBad_eq, I.sRetN_eq, I.sSeq_eq, I.sExpr_eq, I.sRet_eq, I.sSet_eq, I.sIf_eq, I.sAsg_eq, I.sStore_eq, I.sPar_eq, I.sPar3_eq, I.sAug_eq, I.sFor_eq, I.stp_eq, I.fnD_eq, I.gIxD_eq, I.gAdd_eq, I.gSub_eq, I.gMulI_eq, I.gFdiv_eq, I.gMod_eq, I.gPow_eq, I.gLt_eq, I.gLe_eq, I.gGt_eq, I.gGe_eq, I.gNeg_eq, I.gEqD_eq, I.gIs_eq, I.gIsNot_eq, I.bLen_eq, I.bInt_eq, I.bTuple_eq, I.bListD_eq, I.mTup_eq, I.mLst_eq, I.mNew_eq, I.mSeq_eq, I.mTru_eq, I.mCut_eq, I.mPut_eq, I.bAll_eq, I.bAny_eq, I.bSum_eq, I.bSorted_eq, I.bMax_eq, I.bMin_eq, I.kMM_eq, I.bIsi_eq, I.mIt_eq, I.mEnu_eq, I.mZip_eq, I.forL_eq, I.whileL_eq, I.lcL_eq, I.lcO_eq, I.lcB2_eq, I.cDisp_eq, I.gIn_eq, I.mUpd_eq, I.mApp_eq, I.mAttr_eq, I.cMethO_eq, I.mMake_eq, I.cMkK_eq, I.sSetA_eq, I.sAugA_eq, I.bLenO_eq, I.sFrz_eq, I.cRepL_eq, I.mRev_eq, I.iRg3_eq, I.cCall0_eq, I.bListN_eq, I.mRepL_eq, I.mRg3_eq, I.gMulJ_eq] at *
  exact R.cLc h
theorem cLc2 {it it1 : Env → M (List T)} {f f1 : T → Env → Option Env} {t t1 : Env → M Bool} {vs vs1 : List Nat} (h : OkI (it ρ μ) (fun ts μ1 => OkI (I.lcO ts (I.lcB2 f t it1 f1 t1 a vs1 (wipeE ρ vs)) [] μ1) (fun us μ2 => P (.lst us) μ2) E) E) : OkI (I.cLc2 it f t it1 f1 t1 a vs vs1 ρ μ) P E := by
  simp only [OkI_eq, I.cVar_eq, I.cK_eq, I.c1_eq, I.c2_eq, I.cN_eq, I.aNil_eq, I.aCons_eq, I.aStar_eq, I.cTest_eq, I.cTru_eq, I.cAnd_eq, I.cOr_eq, I.cNot_eq, I.cYes_eq, I.cIf_eq, I.cAndT_eq, I.cOrT_eq, I.cNotT_eq, I.cChain_eq, I.cCall_eq, I.cSlice_eq, I.oNone_eq, I.oSome_eq, I.cKw_eq, I.cMeth_eq, I.cRgL1_eq, I.cRgL2_eq, I.iSeq_eq, I.iRg1_eq, I.iRg2_eq, I.iZp_eq, I.iEn_eq, I.cLc_eq, I.cLc2_eq, I.lcT_eq, I.sNil_eq, I.sPass_eq, I.sBreak_eq, I.sCont_eq, I.sBad_eq, I.sRetN_eq, I.sSeq_eq, I.sExpr_eq, I.sRet_eq, I.sSet_eq, I.sIf_eq, I.sAsg_eq, I.sStore_eq, I.sPar_eq, I.sPar3_eq, I.sAug_eq, I.sFor_eq, I.stp_eq, I.fnD_eq, I.gIxD_eq, I.gAdd_eq, I.gSub_eq, I.gMulI_eq, I.gFdiv_eq, I.gMod_eq, I.gPow_eq, I.gLt_eq, I.gLe_eq, I.gGt_eq, I.gGe_eq, I.gNeg_eq, I.gEqD_eq, I.gIs_eq, I.gIsNot_eq, I.bLen_eq, I.bInt_eq, I.bTuple_eq, I.bListD_eq, I.mTup_eq, I.mLst_eq, I.mNew_eq, I.mSeq_eq, I.mTru_eq, I.mCut_eq, I.mPut_eq, I.bAll_eq, I.bAny_eq, I.bSum_eq, I.bSorted_eq, I.bMax_eq, I.bMin_eq, I.kMM_eq, I.bIsi_eq, I.mIt_eq, I.mEnu_eq, I.mZip_eq, I.forL_eq, I.whileL_eq, I.lcL_eq, I.lcO_eq, I.lcB2_eq, I.cDisp_eq, I.gIn_eq, I.mUpd_eq, I.mApp_eq, I.mAttr_eq, I.cMethO_eq, I.mMake_eq, I.cMkK_eq, I.sSetA_eq, I.sAugA_eq, I.bLenO_eq, I.sFrz_eq, I.cRepL_eq, I.mRev_eq, I.iRg3_eq, I.cCall0_eq, I.bListN_eq, I.mRepL_eq, I.mRg3_eq, I.gMulJ_eq] at *
  exact R.cLc2 h
theorem lcT {f : T → Env → Option Env} {c : Env → M Bool} {a : Env → M T} {ρ ρ' : Env} {t : T} {μ : Store} {P : Option T → Store → Prop} (e : f t ρ = some ρ') (h : OkI (c ρ' μ) (fun k μ1 => (k = true → OkI (a ρ' μ1) (fun y μ2 => P (some y) μ2) (fun _ _ => False)) ∧ (k = false → P none μ1)) (fun _ _ => False)) : OkI (I.lcT f c a ρ t μ) P E := by
  simp only [OkI_eq, I.cVar_eq, I.cK_eq, I.c1_eq, I.c2_eq, I.cN_eq, I.aNil_eq, I.aCons_eq, I.aStar_eq, I.cTest_eq, I.cTru_eq, I.cAnd_eq, I.cOr_eq, I.cNot_eq, I.cYes_eq, I.cIf_eq, I.cAndT_eq, I.cOrT_eq, I.cNotT_eq, I.cChain_eq, I.cCall_eq, I.cSlice_eq, I.oNone_eq, I.oSome_eq, I.cKw_eq, I.cMeth_eq, I.cRgL1_eq, I.cRgL2_eq, I.iSeq_eq, I.iRg1_eq, I.iRg2_eq, I.iZp_eq, I.iEn_eq, I.cLc_eq, I.cLc2_eq, I.lcT_eq, I.sNil_eq, I.sPass_eq, I.sBreak_eq, I.sCont_eq, I.sBad_eq, I.sRetN_eq, I.sSeq_eq, I.sExpr_eq, I.sRet_eq, I.sSet_eq, I.sIf_eq, I.sAsg_eq, I.sStore_eq, I.sPar_eq, I.sPar3_eq, I.sAug_eq, I.sFor_eq, I.stp_eq, I.fnD_eq, I.gIxD_eq, I.gAdd_eq, I.gSub_eq, I.gMulI_eq, I.gFdiv_eq, I.gMod_eq, I.gPow_eq, I.gLt_eq, I.gLe_eq, I.gGt_eq, I.gGe_eq, I.gNeg_eq, I.gEqD_eq, I.gIs_eq, I.gIsNot_eq, I.bLen_eq, I.bInt_eq, I.bTuple_eq, I.bListD_eq, I.mTup_eq, I.mLst_eq, I.mNew_eq, I.mSeq_eq, I.mTru_eq, I.mCut_eq, I.mPut_eq, I.bAll_eq, I.bAny_eq, I.bSum_eq, I.bSorted_eq, I.bMax_eq, I.bMin_eq, I.kMM_eq, I.bIsi_eq, I.mIt_eq, I.mEnu_eq, I.mZip_eq, I.forL_eq, I.whileL_eq, I.lcL_eq, I.lcO_eq, I.lcB2_eq, I.cDisp_eq, I.gIn_eq, I.mUpd_eq, I.mApp_eq, I.mAttr_eq, I.cMethO_eq, I.mMake_eq, I.cMkK_eq, I.sSetA_eq, I.sAugA_eq, I.bLenO_eq, I.sFrz_eq, I.cRepL_eq, I.mRev_eq, I.iRg3_eq, I.cCall0_eq, I.bListN_eq, I.mRepL_eq, I.mRg3_eq, I.gMulJ_eq] at *
  exact R.lcT e h
theorem sNil (h : Q (.nx ρ) μ) : OkI (I.sNil ρ μ) Q E := by
  simp only [OkI_eq, I.cVar_eq, I.cK_eq, I.c1_eq, I.c2_eq, I.cN_eq, I.aNil_eq, I.aCons_eq, I.aStar_eq, I.cTest_eq, I.cTru_eq, I.cAnd_eq, I.cOr_eq, I.cNot_eq, I.cYes_eq, I.cIf_eq, I.cAndT_eq, I.cOrT_eq, I.cNotT_eq, I.cChain_eq, I.cCall_eq, I.cSlice_eq, I.oNone_eq, I.oSome_eq, I.cKw_eq, I.cMeth_eq, I.cRgL1_eq, I.cRgL2_eq, I.iSeq_eq, I.iRg1_eq, I.iRg2_eq, I.iZp_eq, I.iEn_eq, I.cLc_eq, I.cLc2_eq, I.lcT_eq, I.sNil_eq, I.sPass_eq, I.sBreak_eq, I.sCont_eq, I.sBad_eq, I.sRetN_eq, I.sSeq_eq, I.sExpr_eq, I.sRet_eq, I.sSet_eq, I.sIf_eq, I.sAsg_eq, I.sStore_eq, I.sPar_eq, I.sPar3_eq, I.sAug_eq, I.sFor_eq, I.stp_eq, I.fnD_eq, I.gIxD_eq, I.gAdd_eq, I.gSub_eq, I.gMulI_eq, I.gFdiv_eq, I.gMod_eq, I.gPow_eq, I.gLt_eq, I.gLe_eq, I.gGt_eq, I.gGe_eq, I.gNeg_eq, I.gEqD_eq, I.gIs_eq, I.gIsNot_eq, I.bLen_eq, I.bInt_eq, I.bTuple_eq, I.bListD_eq, I.mTup_eq, I.mLst_eq, I.mNew_eq, I.mSeq_eq, I.mTru_eq, I.mCut_eq, I.mPut_eq, I.bAll_eq, I.bAny_eq, I.bSum_eq, I.bSorted_eq, I.bMax_eq, I.bMin_eq, I.kMM_eq, I.bIsi_eq, I.mIt_eq, I.mEnu_eq, I.mZip_eq, I.forL_eq, I.whileL_eq, I.lcL_eq, I.lcO_eq, I.lcB2_eq, I.cDisp_eq, I.gIn_eq, I.mUpd_eq, I.mApp_eq, I.mAttr_eq, I.cMethO_eq, I.mMake_eq, I.cMkK_eq, I.sSetA_eq, I.sAugA_eq, I.bLenO_eq, I.sFrz_eq, I.cRepL_eq, I.mRev_eq, I.iRg3_eq, I.cCall0_eq, I.bListN_eq, I.mRepL_eq, I.mRg3_eq, I.gMulJ_eq] at *
  exact R.sNil h
theorem sPass (h : Q (.nx ρ) μ) : OkI (I.sPass ρ μ) Q E := by
  simp only [OkI_eq, I.cVar_eq, I.cK_eq, I.c1_eq, I.c2_eq, I.cN_eq, I.aNil_eq, I.aCons_eq, I.aStar_eq, I.cTest_eq, I.cTru_eq, I.cAnd_eq, I.cOr_eq, I.cNot_eq, I.cYes_eq, I.cIf_eq, I.cAndT_eq, I.cOrT_eq, I.cNotT_eq, I.cChain_eq, I.cCall_eq, I.cSlice_eq, I.oNone_eq, I.oSome_eq, I.cKw_eq, I.cMeth_eq, I.cRgL1_eq, I.cRgL2_eq, I.iSeq_eq, I.iRg1_eq, I.iRg2_eq, I.iZp_eq, I.iEn_eq, I.cLc_eq, I.cLc2_eq, I.lcT_eq, I.sNil_eq, I.sPass_eq, I.sBreak_eq, I.sCont_eq, I.sBad_eq, I.sRetN_eq, I.sSeq_eq, I.sExpr_eq, I.sRet_eq, I.sSet_eq, I.sIf_eq, I.sAsg_eq, I.sStore_eq, I.sPar_eq, I.sPar3_eq, I.sAug_eq, I.sFor_eq, I.stp_eq, I.fnD_eq, I.gIxD_eq, I.gAdd_eq, I.gSub_eq, I.gMulI_eq, I.gFdiv_eq, I.gMod_eq, I.gPow_eq, I.gLt_eq, I.gLe_eq, I.gGt_eq, I.gGe_eq, I.gNeg_eq, I.gEqD_eq, I.gIs_eq, I.gIsNot_eq, I.bLen_eq, I.bInt_eq, I.bTuple_eq, I.bListD_eq, I.mTup_eq, I.mLst_eq, I.mNew_eq, I.mSeq_eq, I.mTru_eq, I.mCut_eq, I.mPut_eq, I.bAll_eq, I.bAny_eq, I.bSum_eq, I.bSorted_eq, I.bMax_eq, I.bMin_eq, I.kMM_eq, I.bIsi_eq, I.mIt_eq, I.mEnu_eq, I.mZip_eq, I.forL_eq, I.whileL_eq, I.lcL_eq, I.lcO_eq, I.lcB2_eq, I.cDisp_eq, I.gIn_eq, I.mUpd_eq, I.mApp_eq, I.mAttr_eq, I.cMethO_eq, I.mMake_eq, I.cMkK_eq, I.sSetA_eq, I.sAugA_eq, I.bLenO_eq, I.sFrz_eq, I.cRepL_eq, I.mRev_eq, I.iRg3_eq, I.cCall0_eq, I.bListN_eq, I.mRepL_eq, I.mRg3_eq, I.gMulJ_eq] at *
  exact R.sPass h
theorem sBreak (h : Q (.bk ρ) μ) : OkI (I.sBreak ρ μ) Q E := by
  simp only [OkI_eq, I.cVar_eq, I.cK_eq, I.c1_eq, I.c2_eq, I.cN_eq, I.aNil_eq, I.aCons_eq, I.aStar_eq, I.cTest_eq, I.cTru_eq, I.cAnd_eq, I.cOr_eq, I.cNot_eq, I.cYes_eq, I.cIf_eq, I.cAndT_eq, I.cOrT_eq, I.cNotT_eq, I.cChain_eq, I.cCall_eq, I.cSlice_eq, I.oNone_eq, I.oSome_eq, I.cKw_eq, I.cMeth_eq, I.cRgL1_eq, I.cRgL2_eq, I.iSeq_eq, I.iRg1_eq, I.iRg2_eq, I.iZp_eq, I.iEn_eq, I.cLc_eq, I.cLc2_eq, I.lcT_eq, I.sNil_eq, I.sPass_eq, I.sBreak_eq, I.sCont_eq, I.sBad_eq, I.sRetN_eq, I.sSeq_eq, I.sExpr_eq, I.sRet_eq, I.sSet_eq, I.sIf_eq, I.sAsg_eq, I.sStore_eq, I.sPar_eq, I.sPar3_eq, I.sAug_eq, I.sFor_eq, I.stp_eq, I.fnD_eq, I.gIxD_eq, I.gAdd_eq, I.gSub_eq, I.gMulI_eq, I.gFdiv_eq, I.gMod_eq, I.gPow_eq, I.gLt_eq, I.gLe_eq, I.gGt_eq, I.gGe_eq, I.gNeg_eq, I.gEqD_eq, I.gIs_eq, I.gIsNot_eq, I.bLen_eq, I.bInt_eq, I.bTuple_eq, I.bListD_eq, I.mTup_eq, I.mLst_eq, I.mNew_eq, I.mSeq_eq, I.mTru_eq, I.mCut_eq, I.mPut_eq, I.bAll_eq, I.bAny_eq, I.bSum_eq, I.bSorted_eq, I.bMax_eq, I.bMin_eq, I.kMM_eq, I.bIsi_eq, I.mIt_eq, I.mEnu_eq, I.mZip_eq, I.forL_eq, I.whileL_eq, I.lcL_eq, I.lcO_eq, I.lcB2_eq, I.cDisp_eq, I.gIn_eq, I.mUpd_eq, I.mApp_eq, I.mAttr_eq, I.cMethO_eq, I.mMake_eq, I.cMkK_eq, I.sSetA_eq, I.sAugA_eq, I.bLenO_eq, I.sFrz_eq, I.cRepL_eq, I.mRev_eq, I.iRg3_eq, I.cCall0_eq, I.bListN_eq, I.mRepL_eq, I.mRg3_eq, I.gMulJ_eq] at *
  exact R.sBreak h
theorem sCont (h : Q (.ct ρ) μ) : OkI (I.sCont ρ μ) Q E := by
  simp only [OkI_eq, I.cVar_eq, I.cK_eq, I.c1_eq, I.c2_eq, I.cN_eq, I.aNil_eq, I.aCons_eq, I.aStar_eq, I.cTest_eq, I.cTru_eq, I.cAnd_eq, I.cOr_eq, I.cNot_eq, I.cYes_eq, I.cIf_eq, I.cAndT_eq, I.cOrT_eq, I.cNotT_eq, I.cChain_eq, I.cCall_eq, I.cSlice_eq, I.oNone_eq, I.oSome_eq, I.cKw_eq, I.cMeth_eq, I.cRgL1_eq, I.cRgL2_eq, I.iSeq_eq, I.iRg1_eq, I.iRg2_eq, I.iZp_eq, I.iEn_eq, I.cLc_eq, I.cLc2_eq, I.lcT_eq, I.sNil_eq, I.sPass_eq, I.sBreak_eq, I.sCont_eq, I.sBad_eq, I.sRetN_eq, I.sSeq_eq, I.sExpr_eq, I.sRet_eq, I.sSet_eq, I.sIf_eq, I.sAsg_eq, I.sStore_eq, I.sPar_eq, I.sPar3_eq, I.sAug_eq, I.sFor_eq, I.stp_eq, I.fnD_eq, I.gIxD_eq, I.gAdd_eq, I.gSub_eq, I.gMulI_eq, I.gFdiv_eq, I.gMod_eq, I.gPow_eq, I.gLt_eq, I.gLe_eq, I.gGt_eq, I.gGe_eq, I.gNeg_eq, I.gEqD_eq, I.gIs_eq, I.gIsNot_eq, I.bLen_eq, I.bInt_eq, I.bTuple_eq, I.bListD_eq, I.mTup_eq, I.mLst_eq, I.mNew_eq, I.mSeq_eq, I.mTru_eq, I.mCut_eq, I.mPut_eq, I.bAll_eq, I.bAny_eq, I.bSum_eq, I.bSorted_eq, I.bMax_eq, I.bMin_eq, I.kMM_eq, I.bIsi_eq, I.mIt_eq, I.mEnu_eq, I.mZip_eq, I.forL_eq, I.whileL_eq, I.lcL_eq, I.lcO_eq, I.lcB2_eq, I.cDisp_eq, I.gIn_eq, I.mUpd_eq, I.mApp_eq, I.mAttr_eq, I.cMethO_eq, I.mMake_eq, I.cMkK_eq, I.sSetA_eq, I.sAugA_eq, I.bLenO_eq, I.sFrz_eq, I.cRepL_eq, I.mRev_eq, I.iRg3_eq, I.cCall0_eq, I.bListN_eq, I.mRepL_eq, I.mRg3_eq, I.gMulJ_eq] at *
  exact R.sCont h
theorem sRetN (h : Q (.rt .non) μ) : OkI (I.sRetN ρ μ) Q E := by
  simp only [OkI_eq, I.cVar_eq, I.cK_eq, I.c1_eq, I.c2_eq, I.cN_eq, I.aNil_eq, I.aCons_eq, I.aStar_eq, I.cTest_eq, I.cTru_eq, I.cAnd_eq, I.cOr_eq, I.cNot_eq, I.cYes_eq, I.cIf_eq, I.cAndT_eq, I.cOrT_eq, I.cNotT_eq, I.cChain_eq, I.cCall_eq, I.cSlice_eq, I.oNone_eq, I.oSome_eq, I.cKw_eq, I.cMeth_eq, I.cRgL1_eq, I.cRgL2_eq, I.iSeq_eq, I.iRg1_eq, I.iRg2_eq, I.iZp_eq, I.iEn_eq, I.cLc_eq, I.cLc2_eq, I.lcT_eq, I.sNil_eq, I.sPass_eq, I.sBreak_eq, I.sCont_eq, I.sBad_eq, I.sRetN_eq, I.sSeq_eq, I.sExpr_eq, I.sRet_eq, I.sSet_eq, I.sIf_eq, I.sAsg_eq, I.sStore_eq, I.sPar_eq, I.sPar3_eq, I.sAug_eq, I.sFor_eq, I.stp_eq, I.fnD_eq, I.gIxD_eq, I.gAdd_eq, I.gSub_eq, I.gMulI_eq, I.gFdiv_eq, I.gMod_eq, I.gPow_eq, I.gLt_eq, I.gLe_eq, I.gGt_eq, I.gGe_eq, I.gNeg_eq, I.gEqD_eq, I.gIs_eq, I.gIsNot_eq, I.bLen_eq, I.bInt_eq, I.bTuple_eq, I.bListD_eq, I.mTup_eq, I.mLst_eq, I.mNew_eq, I.mSeq_eq, I.mTru_eq, I.mCut_eq, I.mPut_eq, I.bAll_eq, I.bAny_eq, I.bSum_eq, I.bSorted_eq, I.bMax_eq, I.bMin_eq, I.kMM_eq, I.bIsi_eq, I.mIt_eq, I.mEnu_eq, I.mZip_eq, I.forL_eq, I.whileL_eq, I.lcL_eq, I.lcO_eq, I.lcB2_eq, I.cDisp_eq, I.gIn_eq, I.mUpd_eq, I.mApp_eq, I.mAttr_eq, I.cMethO_eq, I.mMake_eq, I.cMkK_eq, I.sSetA_eq, I.sAugA_eq, I.bLenO_eq, I.sFrz_eq, I.cRepL_eq, I.mRev_eq, I.iRg3_eq, I.cCall0_eq, I.bListN_eq, I.mRepL_eq, I.mRg3_eq, I.gMulJ_eq] at *
  exact R.sRetN h
theorem sSeq (h : OkI (s ρ μ) (seqQ s' Q E) E) : OkI (I.sSeq s s' ρ μ) Q E := by
  simp only [OkI_eq, I.cVar_eq, I.cK_eq, I.c1_eq, I.c2_eq, I.cN_eq, I.aNil_eq, I.aCons_eq, I.aStar_eq, I.cTest_eq, I.cTru_eq, I.cAnd_eq, I.cOr_eq, I.cNot_eq, I.cYes_eq, I.cIf_eq, I.cAndT_eq, I.cOrT_eq, I.cNotT_eq, I.cChain_eq, I.cCall_eq, I.cSlice_eq, I.oNone_eq, I.oSome_eq, I.cKw_eq, I.cMeth_eq, I.cRgL1_eq, I.cRgL2_eq, I.iSeq_eq, I.iRg1_eq, I.iRg2_eq, I.iZp_eq, I.iEn_eq, I.cLc_eq, I.cLc2_eq, I.lcT_eq, I.sNil_eq, I.sPass_eq, I.sBreak_eq, I.sCont_eq, I.sBad_eq, I.sRetN_eq, I.sSeq_eq, I.sExpr_eq, I.sRet_eq, I.sSet_eq, I.sIf_eq, I.sAsg_eq, I.sStore_eq, I.sPar_eq, I.sPar3_eq, I.sAug_eq, I.sFor_eq, I.stp_eq, I.fnD_eq, I.gIxD_eq, I.gAdd_eq, I.gSub_eq, I.gMulI_eq, I.gFdiv_eq, I.gMod_eq, I.gPow_eq, I.gLt_eq, I.gLe_eq, I.gGt_eq, I.gGe_eq, I.gNeg_eq, I.gEqD_eq, I.gIs_eq, I.gIsNot_eq, I.bLen_eq, I.bInt_eq, I.bTuple_eq, I.bListD_eq, I.mTup_eq, I.mLst_eq, I.mNew_eq, I.mSeq_eq, I.mTru_eq, I.mCut_eq, I.mPut_eq, I.bAll_eq, I.bAny_eq, I.bSum_eq, I.bSorted_eq, I.bMax_eq, I.bMin_eq, I.kMM_eq, I.bIsi_eq, I.mIt_eq, I.mEnu_eq, I.mZip_eq, I.forL_eq, I.whileL_eq, I.lcL_eq, I.lcO_eq, I.lcB2_eq, I.cDisp_eq, I.gIn_eq, I.mUpd_eq, I.mApp_eq, I.mAttr_eq, I.cMethO_eq, I.mMake_eq, I.cMkK_eq, I.sSetA_eq, I.sAugA_eq, I.bLenO_eq, I.sFrz_eq, I.cRepL_eq, I.mRev_eq, I.iRg3_eq, I.cCall0_eq, I.bListN_eq, I.mRepL_eq, I.mRg3_eq, I.gMulJ_eq] at *
  exact R.sSeq h
theorem qnx (h : OkI (s' ρ μ) Q E) : seqQ s' Q E (.nx ρ) μ := by
  simp only [OkI_eq, I.cVar_eq, I.cK_eq, I.c1_eq, I.c2_eq, I.cN_eq, I.aNil_eq, I.aCons_eq, I.aStar_eq, I.cTest_eq, I.cTru_eq, I.cAnd_eq, I.cOr_eq, I.cNot_eq, I.cYes_eq, I.cIf_eq, I.cAndT_eq, I.cOrT_eq, I.cNotT_eq, I.cChain_eq, I.cCall_eq, I.cSlice_eq, I.oNone_eq, I.oSome_eq, I.cKw_eq, I.cMeth_eq, I.cRgL1_eq, I.cRgL2_eq, I.iSeq_eq, I.iRg1_eq, I.iRg2_eq, I.iZp_eq, I.iEn_eq, I.cLc_eq, I.cLc2_eq, I.lcT_eq, I.sNil_eq, I.sPass_eq, I.sBreak_eq, I.sCont_eq, I.sBad_eq, I.sRetN_eq, I.sSeq_eq, I.sExpr_eq, I.sRet_eq, I.sSet_eq, I.sIf_eq, I.sAsg_eq, I.sStore_eq, I.sPar_eq, I.sPar3_eq, I.sAug_eq, I.sFor_eq, I.stp_eq, I.fnD_eq, I.gIxD_eq, I.gAdd_eq, I.gSub_eq, I.gMulI_eq, I.gFdiv_eq, I.gMod_eq, I.gPow_eq, I.gLt_eq, I.gLe_eq, I.gGt_eq, I.gGe_eq, I.gNeg_eq, I.gEqD_eq, I.gIs_eq, I.gIsNot_eq, I.bLen_eq, I.bInt_eq, I.bTuple_eq, I.bListD_eq, I.mTup_eq, I.mLst_eq, I.mNew_eq, I.mSeq_eq, I.mTru_eq, I.mCut_eq, I.mPut_eq, I.bAll_eq, I.bAny_eq, I.bSum_eq, I.bSorted_eq, I.bMax_eq, I.bMin_eq, I.kMM_eq, I.bIsi_eq, I.mIt_eq, I.mEnu_eq, I.mZip_eq, I.forL_eq, I.whileL_eq, I.lcL_eq, I.lcO_eq, I.lcB2_eq, I.cDisp_eq, I.gIn_eq, I.mUpd_eq, I.mApp_eq, I.mAttr_eq, I.cMethO_eq, I.mMake_eq, I.cMkK_eq, I.sSetA_eq, I.sAugA_eq, I.bLenO_eq, I.sFrz_eq, I.cRepL_eq, I.mRev_eq, I.iRg3_eq, I.cCall0_eq, I.bListN_eq, I.mRepL_eq, I.mRg3_eq, I.gMulJ_eq] at *
  exact R.qnx h
theorem sExpr (h : OkI (a ρ μ) (fun _ μ' => Q (.nx ρ) μ') (fun e μ' => Q (.xx ρ e) μ')) : OkI (I.sExpr a ρ μ) Q E := by
  simp only [OkI_eq, I.cVar_eq, I.cK_eq, I.c1_eq, I.c2_eq, I.cN_eq, I.aNil_eq, I.aCons_eq, I.aStar_eq, I.cTest_eq, I.cTru_eq, I.cAnd_eq, I.cOr_eq, I.cNot_eq, I.cYes_eq, I.cIf_eq, I.cAndT_eq, I.cOrT_eq, I.cNotT_eq, I.cChain_eq, I.cCall_eq, I.cSlice_eq, I.oNone_eq, I.oSome_eq, I.cKw_eq, I.cMeth_eq, I.cRgL1_eq, I.cRgL2_eq, I.iSeq_eq, I.iRg1_eq, I.iRg2_eq, I.iZp_eq, I.iEn_eq, I.cLc_eq, I.cLc2_eq, I.lcT_eq, I.sNil_eq, I.sPass_eq, I.sBreak_eq, I.sCont_eq, I.sBad_eq, I.sRetN_eq, I.sSeq_eq, I.sExpr_eq, I.sRet_eq, I.sSet_eq, I.sIf_eq, I.sAsg_eq, I.sStore_eq, I.sPar_eq, I.sPar3_eq, I.sAug_eq, I.sFor_eq, I.stp_eq, I.fnD_eq, I.gIxD_eq, I.gAdd_eq, I.gSub_eq, I.gMulI_eq, I.gFdiv_eq, I.gMod_eq, I.gPow_eq, I.gLt_eq, I.gLe_eq, I.gGt_eq, I.gGe_eq, I.gNeg_eq, I.gEqD_eq, I.gIs_eq, I.gIsNot_eq, I.bLen_eq, I.bInt_eq, I.bTuple_eq, I.bListD_eq, I.mTup_eq, I.mLst_eq, I.mNew_eq, I.mSeq_eq, I.mTru_eq, I.mCut_eq, I.mPut_eq, I.bAll_eq, I.bAny_eq, I.bSum_eq, I.bSorted_eq, I.bMax_eq, I.bMin_eq, I.kMM_eq, I.bIsi_eq, I.mIt_eq, I.mEnu_eq, I.mZip_eq, I.forL_eq, I.whileL_eq, I.lcL_eq, I.lcO_eq, I.lcB2_eq, I.cDisp_eq, I.gIn_eq, I.mUpd_eq, I.mApp_eq, I.mAttr_eq, I.cMethO_eq, I.mMake_eq, I.cMkK_eq, I.sSetA_eq, I.sAugA_eq, I.bLenO_eq, I.sFrz_eq, I.cRepL_eq, I.mRev_eq, I.iRg3_eq, I.cCall0_eq, I.bListN_eq, I.mRepL_eq, I.mRg3_eq, I.gMulJ_eq] at *
  exact R.sExpr h
theorem sRet (h : OkI (a ρ μ) (fun t μ' => Q (.rt t) μ') (fun e μ' => Q (.xx ρ e) μ')) : OkI (I.sRet a ρ μ) Q E := by
  simp only [OkI_eq, I.cVar_eq, I.cK_eq, I.c1_eq, I.c2_eq, I.cN_eq, I.aNil_eq, I.aCons_eq, I.aStar_eq, I.cTest_eq, I.cTru_eq, I.cAnd_eq, I.cOr_eq, I.cNot_eq, I.cYes_eq, I.cIf_eq, I.cAndT_eq, I.cOrT_eq, I.cNotT_eq, I.cChain_eq, I.cCall_eq, I.cSlice_eq, I.oNone_eq, I.oSome_eq, I.cKw_eq, I.cMeth_eq, I.cRgL1_eq, I.cRgL2_eq, I.iSeq_eq, I.iRg1_eq, I.iRg2_eq, I.iZp_eq, I.iEn_eq, I.cLc_eq, I.cLc2_eq, I.lcT_eq, I.sNil_eq, I.sPass_eq, I.sBreak_eq, I.sCont_eq, I.sBad_eq, I.sRetN_eq, I.sSeq_eq, I.sExpr_eq, I.sRet_eq, I.sSet_eq, I.sIf_eq, I.sAsg_eq, I.sStore_eq, I.sPar_eq, I.sPar3_eq, I.sAug_eq, I.sFor_eq, I.stp_eq, I.fnD_eq, I.gIxD_eq, I.gAdd_eq, I.gSub_eq, I.gMulI_eq, I.gFdiv_eq, I.gMod_eq, I.gPow_eq, I.gLt_eq, I.gLe_eq, I.gGt_eq, I.gGe_eq, I.gNeg_eq, I.gEqD_eq, I.gIs_eq, I.gIsNot_eq, I.bLen_eq, I.bInt_eq, I.bTuple_eq, I.bListD_eq, I.mTup_eq, I.mLst_eq, I.mNew_eq, I.mSeq_eq, I.mTru_eq, I.mCut_eq, I.mPut_eq, I.bAll_eq, I.bAny_eq, I.bSum_eq, I.bSorted_eq, I.bMax_eq, I.bMin_eq, I.kMM_eq, I.bIsi_eq, I.mIt_eq, I.mEnu_eq, I.mZip_eq, I.forL_eq, I.whileL_eq, I.lcL_eq, I.lcO_eq, I.lcB2_eq, I.cDisp_eq, I.gIn_eq, I.mUpd_eq, I.mApp_eq, I.mAttr_eq, I.cMethO_eq, I.mMake_eq, I.cMkK_eq, I.sSetA_eq, I.sAugA_eq, I.bLenO_eq, I.sFrz_eq, I.cRepL_eq, I.mRev_eq, I.iRg3_eq, I.cCall0_eq, I.bListN_eq, I.mRepL_eq, I.mRg3_eq, I.gMulJ_eq] at *
  exact R.sRet h
theorem sSet {i : Nat} (h : OkI (a ρ μ) (fun t μ' => Q (.nx (ρ.set i (some t))) μ') (fun e μ' => Q (.xx ρ e) μ')) : OkI (I.sSet i a ρ μ) Q E := by
  simp only [OkI_eq, I.cVar_eq, I.cK_eq, I.c1_eq, I.c2_eq, I.cN_eq, I.aNil_eq, I.aCons_eq, I.aStar_eq, I.cTest_eq, I.cTru_eq, I.cAnd_eq, I.cOr_eq, I.cNot_eq, I.cYes_eq, I.cIf_eq, I.cAndT_eq, I.cOrT_eq, I.cNotT_eq, I.cChain_eq, I.cCall_eq, I.cSlice_eq, I.oNone_eq, I.oSome_eq, I.cKw_eq, I.cMeth_eq, I.cRgL1_eq, I.cRgL2_eq, I.iSeq_eq, I.iRg1_eq, I.iRg2_eq, I.iZp_eq, I.iEn_eq, I.cLc_eq, I.cLc2_eq, I.lcT_eq, I.sNil_eq, I.sPass_eq, I.sBreak_eq, I.sCont_eq, I.sBad_eq, I.sRetN_eq, I.sSeq_eq, I.sExpr_eq, I.sRet_eq, I.sSet_eq, I.sIf_eq, I.sAsg_eq, I.sStore_eq, I.sPar_eq, I.sPar3_eq, I.sAug_eq, I.sFor_eq, I.stp_eq, I.fnD_eq, I.gIxD_eq, I.gAdd_eq, I.gSub_eq, I.gMulI_eq, I.gFdiv_eq, I.gMod_eq, I.gPow_eq, I.gLt_eq, I.gLe_eq, I.gGt_eq, I.gGe_eq, I.gNeg_eq, I.gEqD_eq, I.gIs_eq, I.gIsNot_eq, I.bLen_eq, I.bInt_eq, I.bTuple_eq, I.bListD_eq, I.mTup_eq, I.mLst_eq, I.mNew_eq, I.mSeq_eq, I.mTru_eq, I.mCut_eq, I.mPut_eq, I.bAll_eq, I.bAny_eq, I.bSum_eq, I.bSorted_eq, I.bMax_eq, I.bMin_eq, I.kMM_eq, I.bIsi_eq, I.mIt_eq, I.mEnu_eq, I.mZip_eq, I.forL_eq, I.whileL_eq, I.lcL_eq, I.lcO_eq, I.lcB2_eq, I.cDisp_eq, I.gIn_eq, I.mUpd_eq, I.mApp_eq, I.mAttr_eq, I.cMethO_eq, I.mMake_eq, I.cMkK_eq, I.sSetA_eq, I.sAugA_eq, I.bLenO_eq, I.sFrz_eq, I.cRepL_eq, I.mRev_eq, I.iRg3_eq, I.cCall0_eq, I.bListN_eq, I.mRepL_eq, I.mRg3_eq, I.gMulJ_eq] at *
  exact R.sSet h
theorem sIf {x : Env → M Bool} (h : OkI (x ρ μ) (fun k μ' => (k = true → OkI (s ρ μ') Q E) ∧ (k = false → OkI (s' ρ μ') Q E)) (fun e μ' => Q (.xx ρ e) μ')) : OkI (I.sIf x s s' ρ μ) Q E := by
  simp only [OkI_eq, I.cVar_eq, I.cK_eq, I.c1_eq, I.c2_eq, I.cN_eq, I.aNil_eq, I.aCons_eq, I.aStar_eq, I.cTest_eq, I.cTru_eq, I.cAnd_eq, I.cOr_eq, I.cNot_eq, I.cYes_eq, I.cIf_eq, I.cAndT_eq, I.cOrT_eq, I.cNotT_eq, I.cChain_eq, I.cCall_eq, I.cSlice_eq, I.oNone_eq, I.oSome_eq, I.cKw_eq, I.cMeth_eq, I.cRgL1_eq, I.cRgL2_eq, I.iSeq_eq, I.iRg1_eq, I.iRg2_eq, I.iZp_eq, I.iEn_eq, I.cLc_eq, I.cLc2_eq, I.lcT_eq, I.sNil_eq, I.sPass_eq, I.sBreak_eq, I.sCont_eq, I.sBad_eq, I.sRetN_eq, I.sSeq_eq, I.sExpr_eq, I.sRet_eq, I.sSet_eq, I.sIf_eq, I.sAsg_eq, I.sStore_eq, I.sPar_eq, I.sPar3_eq, I.sAug_eq, I.sFor_eq, I.stp_eq, I.fnD_eq, I.gIxD_eq, I.gAdd_eq, I.gSub_eq, I.gMulI_eq, I.gFdiv_eq, I.gMod_eq, I.gPow_eq, I.gLt_eq, I.gLe_eq, I.gGt_eq, I.gGe_eq, I.gNeg_eq, I.gEqD_eq, I.gIs_eq, I.gIsNot_eq, I.bLen_eq, I.bInt_eq, I.bTuple_eq, I.bListD_eq, I.mTup_eq, I.mLst_eq, I.mNew_eq, I.mSeq_eq, I.mTru_eq, I.mCut_eq, I.mPut_eq, I.bAll_eq, I.bAny_eq, I.bSum_eq, I.bSorted_eq, I.bMax_eq, I.bMin_eq, I.kMM_eq, I.bIsi_eq, I.mIt_eq, I.mEnu_eq, I.mZip_eq, I.forL_eq, I.whileL_eq, I.lcL_eq, I.lcO_eq, I.lcB2_eq, I.cDisp_eq, I.gIn_eq, I.mUpd_eq, I.mApp_eq, I.mAttr_eq, I.cMethO_eq, I.mMake_eq, I.cMkK_eq, I.sSetA_eq, I.sAugA_eq, I.bLenO_eq, I.sFrz_eq, I.cRepL_eq, I.mRev_eq, I.iRg3_eq, I.cCall0_eq, I.bListN_eq, I.mRepL_eq, I.mRg3_eq, I.gMulJ_eq] at *
  exact R.sIf h
theorem sAsg {f : T → Env → Option Env} (h : OkI (a ρ μ) (fun t μ' => ∃ ρ', f t ρ = some ρ' ∧ Q (.nx ρ') μ') (fun e μ' => Q (.xx ρ e) μ')) : OkI (I.sAsg a f ρ μ) Q E := by
  simp only [OkI_eq, I.cVar_eq, I.cK_eq, I.c1_eq, I.c2_eq, I.cN_eq, I.aNil_eq, I.aCons_eq, I.aStar_eq, I.cTest_eq, I.cTru_eq, I.cAnd_eq, I.cOr_eq, I.cNot_eq, I.cYes_eq, I.cIf_eq, I.cAndT_eq, I.cOrT_eq, I.cNotT_eq, I.cChain_eq, I.cCall_eq, I.cSlice_eq, I.oNone_eq, I.oSome_eq, I.cKw_eq, I.cMeth_eq, I.cRgL1_eq, I.cRgL2_eq, I.iSeq_eq, I.iRg1_eq, I.iRg2_eq, I.iZp_eq, I.iEn_eq, I.cLc_eq, I.cLc2_eq, I.lcT_eq, I.sNil_eq, I.sPass_eq, I.sBreak_eq, I.sCont_eq, I.sBad_eq, I.sRetN_eq, I.sSeq_eq, I.sExpr_eq, I.sRet_eq, I.sSet_eq, I.sIf_eq, I.sAsg_eq, I.sStore_eq, I.sPar_eq, I.sPar3_eq, I.sAug_eq, I.sFor_eq, I.stp_eq, I.fnD_eq, I.gIxD_eq, I.gAdd_eq, I.gSub_eq, I.gMulI_eq, I.gFdiv_eq, I.gMod_eq, I.gPow_eq, I.gLt_eq, I.gLe_eq, I.gGt_eq, I.gGe_eq, I.gNeg_eq, I.gEqD_eq, I.gIs_eq, I.gIsNot_eq, I.bLen_eq, I.bInt_eq, I.bTuple_eq, I.bListD_eq, I.mTup_eq, I.mLst_eq, I.mNew_eq, I.mSeq_eq, I.mTru_eq, I.mCut_eq, I.mPut_eq, I.bAll_eq, I.bAny_eq, I.bSum_eq, I.bSorted_eq, I.bMax_eq, I.bMin_eq, I.kMM_eq, I.bIsi_eq, I.mIt_eq, I.mEnu_eq, I.mZip_eq, I.forL_eq, I.whileL_eq, I.lcL_eq, I.lcO_eq, I.lcB2_eq, I.cDisp_eq, I.gIn_eq, I.mUpd_eq, I.mApp_eq, I.mAttr_eq, I.cMethO_eq, I.mMake_eq, I.cMkK_eq, I.sSetA_eq, I.sAugA_eq, I.bLenO_eq, I.sFrz_eq, I.cRepL_eq, I.mRev_eq, I.iRg3_eq, I.cCall0_eq, I.bListN_eq, I.mRepL_eq, I.mRg3_eq, I.gMulJ_eq] at *
  exact R.sAsg h
theorem sStore {i : Env → M T} (h : OkI (a ρ μ) (fun v μ1 => OkI (b ρ μ1) (fun o μ2 => OkI (i ρ μ2) (fun k μ3 => OkI (I.mPut o k v μ3) (fun _ μ4 => Q (.nx ρ) μ4) (fun e μ' => Q (.xx ρ e) μ')) (fun e μ' => Q (.xx ρ e) μ')) (fun e μ' => Q (.xx ρ e) μ')) (fun e μ' => Q (.xx ρ e) μ')) : OkI (I.sStore a b i ρ μ) Q E := by
  simp only [OkI_eq, I.cVar_eq, I.cK_eq, I.c1_eq, I.c2_eq, I.cN_eq, I.aNil_eq, I.aCons_eq, I.aStar_eq, I.cTest_eq, I.cTru_eq, I.cAnd_eq, I.cOr_eq, I.cNot_eq, I.cYes_eq, I.cIf_eq, I.cAndT_eq, I.cOrT_eq, I.cNotT_eq, I.cChain_eq, I.cCall_eq, I.cSlice_eq, I.oNone_eq, I.oSome_eq, I.cKw_eq, I.cMeth_eq, I.cRgL1_eq, I.cRgL2_eq, I.iSeq_eq, I.iRg1_eq, I.iRg2_eq, I.iZp_eq, I.iEn_eq, I.cLc_eq, I.cLc2_eq, I.lcT_eq, I.sNil_eq, I.sPass_eq, I.sBreak_eq, I.sCont_eq, I.sBad_eq, I.sRetN_eq, I.sSeq_eq, I.sExpr_eq, I.sRet_eq, I.sSet_eq, I.sIf_eq, I.sAsg_eq, I.sStore_eq, I.sPar_eq, I.sPar3_eq, I.sAug_eq, I.sFor_eq, I.stp_eq, I.fnD_eq, I.gIxD_eq, I.gAdd_eq, I.gSub_eq, I.gMulI_eq, I.gFdiv_eq, I.gMod_eq, I.gPow_eq, I.gLt_eq, I.gLe_eq, I.gGt_eq, I.gGe_eq, I.gNeg_eq, I.gEqD_eq, I.gIs_eq, I.gIsNot_eq, I.bLen_eq, I.bInt_eq, I.bTuple_eq, I.bListD_eq, I.mTup_eq, I.mLst_eq, I.mNew_eq, I.mSeq_eq, I.mTru_eq, I.mCut_eq, I.mPut_eq, I.bAll_eq, I.bAny_eq, I.bSum_eq, I.bSorted_eq, I.bMax_eq, I.bMin_eq, I.kMM_eq, I.bIsi_eq, I.mIt_eq, I.mEnu_eq, I.mZip_eq, I.forL_eq, I.whileL_eq, I.lcL_eq, I.lcO_eq, I.lcB2_eq, I.cDisp_eq, I.gIn_eq, I.mUpd_eq, I.mApp_eq, I.mAttr_eq, I.cMethO_eq, I.mMake_eq, I.cMkK_eq, I.sSetA_eq, I.sAugA_eq, I.bLenO_eq, I.sFrz_eq, I.cRepL_eq, I.mRev_eq, I.iRg3_eq, I.cCall0_eq, I.bListN_eq, I.mRepL_eq, I.mRg3_eq, I.gMulJ_eq] at *
  exact R.sStore h
theorem sPar {i j : Nat} (h : OkI (a ρ μ) (fun x μ1 => OkI (b ρ μ1) (fun y μ2 => Q (.nx ((ρ.set i (some x)).set j (some y))) μ2) (fun e μ' => Q (.xx ρ e) μ')) (fun e μ' => Q (.xx ρ e) μ')) : OkI (I.sPar i j a b ρ μ) Q E := by
  simp only [OkI_eq, I.cVar_eq, I.cK_eq, I.c1_eq, I.c2_eq, I.cN_eq, I.aNil_eq, I.aCons_eq, I.aStar_eq, I.cTest_eq, I.cTru_eq, I.cAnd_eq, I.cOr_eq, I.cNot_eq, I.cYes_eq, I.cIf_eq, I.cAndT_eq, I.cOrT_eq, I.cNotT_eq, I.cChain_eq, I.cCall_eq, I.cSlice_eq, I.oNone_eq, I.oSome_eq, I.cKw_eq, I.cMeth_eq, I.cRgL1_eq, I.cRgL2_eq, I.iSeq_eq, I.iRg1_eq, I.iRg2_eq, I.iZp_eq, I.iEn_eq, I.cLc_eq, I.cLc2_eq, I.lcT_eq, I.sNil_eq, I.sPass_eq, I.sBreak_eq, I.sCont_eq, I.sBad_eq, I.sRetN_eq, I.sSeq_eq, I.sExpr_eq, I.sRet_eq, I.sSet_eq, I.sIf_eq, I.sAsg_eq, I.sStore_eq, I.sPar_eq, I.sPar3_eq, I.sAug_eq, I.sFor_eq, I.stp_eq, I.fnD_eq, I.gIxD_eq, I.gAdd_eq, I.gSub_eq, I.gMulI_eq, I.gFdiv_eq, I.gMod_eq, I.gPow_eq, I.gLt_eq, I.gLe_eq, I.gGt_eq, I.gGe_eq, I.gNeg_eq, I.gEqD_eq, I.gIs_eq, I.gIsNot_eq, I.bLen_eq, I.bInt_eq, I.bTuple_eq, I.bListD_eq, I.mTup_eq, I.mLst_eq, I.mNew_eq, I.mSeq_eq, I.mTru_eq, I.mCut_eq, I.mPut_eq, I.bAll_eq, I.bAny_eq, I.bSum_eq, I.bSorted_eq, I.bMax_eq, I.bMin_eq, I.kMM_eq, I.bIsi_eq, I.mIt_eq, I.mEnu_eq, I.mZip_eq, I.forL_eq, I.whileL_eq, I.lcL_eq, I.lcO_eq, I.lcB2_eq, I.cDisp_eq, I.gIn_eq, I.mUpd_eq, I.mApp_eq, I.mAttr_eq, I.cMethO_eq, I.mMake_eq, I.cMkK_eq, I.sSetA_eq, I.sAugA_eq, I.bLenO_eq, I.sFrz_eq, I.cRepL_eq, I.mRev_eq, I.iRg3_eq, I.cCall0_eq, I.bListN_eq, I.mRepL_eq, I.mRg3_eq, I.gMulJ_eq] at *
  exact R.sPar h
theorem sFor {it : Env → M (List T)} {f : T → Env → Option Env} (h : OkI (it ρ μ) (fun ts μ' => OkI (I.forL ts (I.stp f s) ρ μ') Q E) (fun e μ' => Q (.xx ρ e) μ')) : OkI (I.sFor it f s ρ μ) Q E := by
  simp only [OkI_eq, I.cVar_eq, I.cK_eq, I.c1_eq, I.c2_eq, I.cN_eq, I.aNil_eq, I.aCons_eq, I.aStar_eq, I.cTest_eq, I.cTru_eq, I.cAnd_eq, I.cOr_eq, I.cNot_eq, I.cYes_eq, I.cIf_eq, I.cAndT_eq, I.cOrT_eq, I.cNotT_eq, I.cChain_eq, I.cCall_eq, I.cSlice_eq, I.oNone_eq, I.oSome_eq, I.cKw_eq, I.cMeth_eq, I.cRgL1_eq, I.cRgL2_eq, I.iSeq_eq, I.iRg1_eq, I.iRg2_eq, I.iZp_eq, I.iEn_eq, I.cLc_eq, I.cLc2_eq, I.lcT_eq, I.sNil_eq, I.sPass_eq, I.sBreak_eq, I.sCont_eq, I.sBad_eq, I.sRetN_eq, I.sSeq_eq, I.sExpr_eq, I.sRet_eq, I.sSet_eq, I.sIf_eq, I.sAsg_eq, I.sStore_eq, I.sPar_eq, I.sPar3_eq, I.sAug_eq, I.sFor_eq, I.stp_eq, I.fnD_eq, I.gIxD_eq, I.gAdd_eq, I.gSub_eq, I.gMulI_eq, I.gFdiv_eq, I.gMod_eq, I.gPow_eq, I.gLt_eq, I.gLe_eq, I.gGt_eq, I.gGe_eq, I.gNeg_eq, I.gEqD_eq, I.gIs_eq, I.gIsNot_eq, I.bLen_eq, I.bInt_eq, I.bTuple_eq, I.bListD_eq, I.mTup_eq, I.mLst_eq, I.mNew_eq, I.mSeq_eq, I.mTru_eq, I.mCut_eq, I.mPut_eq, I.bAll_eq, I.bAny_eq, I.bSum_eq, I.bSorted_eq, I.bMax_eq, I.bMin_eq, I.kMM_eq, I.bIsi_eq, I.mIt_eq, I.mEnu_eq, I.mZip_eq, I.forL_eq, I.whileL_eq, I.lcL_eq, I.lcO_eq, I.lcB2_eq, I.cDisp_eq, I.gIn_eq, I.mUpd_eq, I.mApp_eq, I.mAttr_eq, I.cMethO_eq, I.mMake_eq, I.cMkK_eq, I.sSetA_eq, I.sAugA_eq, I.bLenO_eq, I.sFrz_eq, I.cRepL_eq, I.mRev_eq, I.iRg3_eq, I.cCall0_eq, I.bListN_eq, I.mRepL_eq, I.mRg3_eq, I.gMulJ_eq] at *
  exact R.sFor h
theorem stp {f : T → Env → Option Env} {t : T} {ρ' : Env} (e : f t ρ = some ρ') (h : OkI (s ρ' μ) Q E) : OkI (I.stp f s t ρ μ) Q E := by
  simp only [OkI_eq, I.cVar_eq, I.cK_eq, I.c1_eq, I.c2_eq, I.cN_eq, I.aNil_eq, I.aCons_eq, I.aStar_eq, I.cTest_eq, I.cTru_eq, I.cAnd_eq, I.cOr_eq, I.cNot_eq, I.cYes_eq, I.cIf_eq, I.cAndT_eq, I.cOrT_eq, I.cNotT_eq, I.cChain_eq, I.cCall_eq, I.cSlice_eq, I.oNone_eq, I.oSome_eq, I.cKw_eq, I.cMeth_eq, I.cRgL1_eq, I.cRgL2_eq, I.iSeq_eq, I.iRg1_eq, I.iRg2_eq, I.iZp_eq, I.iEn_eq, I.cLc_eq, I.cLc2_eq, I.lcT_eq, I.sNil_eq, I.sPass_eq, I.sBreak_eq, I.sCont_eq, I.sBad_eq, I.sRetN_eq, I.sSeq_eq, I.sExpr_eq, I.sRet_eq, I.sSet_eq, I.sIf_eq, I.sAsg_eq, I.sStore_eq, I.sPar_eq, I.sPar3_eq, I.sAug_eq, I.sFor_eq, I.stp_eq, I.fnD_eq, I.gIxD_eq, I.gAdd_eq, I.gSub_eq, I.gMulI_eq, I.gFdiv_eq, I.gMod_eq, I.gPow_eq, I.gLt_eq, I.gLe_eq, I.gGt_eq, I.gGe_eq, I.gNeg_eq, I.gEqD_eq, I.gIs_eq, I.gIsNot_eq, I.bLen_eq, I.bInt_eq, I.bTuple_eq, I.bListD_eq, I.mTup_eq, I.mLst_eq, I.mNew_eq, I.mSeq_eq, I.mTru_eq, I.mCut_eq, I.mPut_eq, I.bAll_eq, I.bAny_eq, I.bSum_eq, I.bSorted_eq, I.bMax_eq, I.bMin_eq, I.kMM_eq, I.bIsi_eq, I.mIt_eq, I.mEnu_eq, I.mZip_eq, I.forL_eq, I.whileL_eq, I.lcL_eq, I.lcO_eq, I.lcB2_eq, I.cDisp_eq, I.gIn_eq, I.mUpd_eq, I.mApp_eq, I.mAttr_eq, I.cMethO_eq, I.mMake_eq, I.cMkK_eq, I.sSetA_eq, I.sAugA_eq, I.bLenO_eq, I.sFrz_eq, I.cRepL_eq, I.mRev_eq, I.iRg3_eq, I.cCall0_eq, I.bListN_eq, I.mRepL_eq, I.mRg3_eq, I.gMulJ_eq] at *
  exact R.stp e h
theorem fnD {N : Nat} {ts : List T} (h : OkI (s (ts.map some ++ List.replicate (N - ts.length) none) μ) (fnQ P E) (fun _ _ => False)) : OkI (I.fnD N s ts μ) P E := by
  simp only [OkI_eq, I.cVar_eq, I.cK_eq, I.c1_eq, I.c2_eq, I.cN_eq, I.aNil_eq, I.aCons_eq, I.aStar_eq, I.cTest_eq, I.cTru_eq, I.cAnd_eq, I.cOr_eq, I.cNot_eq, I.cYes_eq, I.cIf_eq, I.cAndT_eq, I.cOrT_eq, I.cNotT_eq, I.cChain_eq, I.cCall_eq, I.cSlice_eq, I.oNone_eq, I.oSome_eq, I.cKw_eq, I.cMeth_eq, I.cRgL1_eq, I.cRgL2_eq, I.iSeq_eq, I.iRg1_eq, I.iRg2_eq, I.iZp_eq, I.iEn_eq, I.cLc_eq, I.cLc2_eq, I.lcT_eq, I.sNil_eq, I.sPass_eq, I.sBreak_eq, I.sCont_eq, I.sBad_eq, I.sRetN_eq, I.sSeq_eq, I.sExpr_eq, I.sRet_eq, I.sSet_eq, I.sIf_eq, I.sAsg_eq, I.sStore_eq, I.sPar_eq, I.sPar3_eq, I.sAug_eq, I.sFor_eq, I.stp_eq, I.fnD_eq, I.gIxD_eq, I.gAdd_eq, I.gSub_eq, I.gMulI_eq, I.gFdiv_eq, I.gMod_eq, I.gPow_eq, I.gLt_eq, I.gLe_eq, I.gGt_eq, I.gGe_eq, I.gNeg_eq, I.gEqD_eq, I.gIs_eq, I.gIsNot_eq, I.bLen_eq, I.bInt_eq, I.bTuple_eq, I.bListD_eq, I.mTup_eq, I.mLst_eq, I.mNew_eq, I.mSeq_eq, I.mTru_eq, I.mCut_eq, I.mPut_eq, I.bAll_eq, I.bAny_eq, I.bSum_eq, I.bSorted_eq, I.bMax_eq, I.bMin_eq, I.kMM_eq, I.bIsi_eq, I.mIt_eq, I.mEnu_eq, I.mZip_eq, I.forL_eq, I.whileL_eq, I.lcL_eq, I.lcO_eq, I.lcB2_eq, I.cDisp_eq, I.gIn_eq, I.mUpd_eq, I.mApp_eq, I.mAttr_eq, I.cMethO_eq, I.mMake_eq, I.cMkK_eq, I.sSetA_eq, I.sAugA_eq, I.bLenO_eq, I.sFrz_eq, I.cRepL_eq, I.mRev_eq, I.iRg3_eq, I.cCall0_eq, I.bListN_eq, I.mRepL_eq, I.mRg3_eq, I.gMulJ_eq] at *
  exact R.fnD h
theorem gIx0 {a : T} {l : List T} (h : P a μ) : OkI (I.gIxD (.lst (a :: l)) (.int 0) μ) P E := by
  simp only [OkI_eq, I.cVar_eq, I.cK_eq, I.c1_eq, I.c2_eq, I.cN_eq, I.aNil_eq, I.aCons_eq, I.aStar_eq, I.cTest_eq, I.cTru_eq, I.cAnd_eq, I.cOr_eq, I.cNot_eq, I.cYes_eq, I.cIf_eq, I.cAndT_eq, I.cOrT_eq, I.cNotT_eq, I.cChain_eq, I.cCall_eq, I.cSlice_eq, I.oNone_eq, I.oSome_eq, I.cKw_eq, I.cMeth_eq, I.cRgL1_eq, I.cRgL2_eq, I.iSeq_eq, I.iRg1_eq, I.iRg2_eq, I.iZp_eq, I.iEn_eq, I.cLc_eq, I.cLc2_eq, I.lcT_eq, I.sNil_eq, I.sPass_eq, I.sBreak_eq, I.sCont_eq, I.sBad_eq, I.sRetN_eq, I.sSeq_eq, I.sExpr_eq, I.sRet_eq, I.sSet_eq, I.sIf_eq, I.sAsg_eq, I.sStore_eq, I.sPar_eq, I.sPar3_eq, I.sAug_eq, I.sFor_eq, I.stp_eq, I.fnD_eq, I.gIxD_eq, I.gAdd_eq, I.gSub_eq, I.gMulI_eq, I.gFdiv_eq, I.gMod_eq, I.gPow_eq, I.gLt_eq, I.gLe_eq, I.gGt_eq, I.gGe_eq, I.gNeg_eq, I.gEqD_eq, I.gIs_eq, I.gIsNot_eq, I.bLen_eq, I.bInt_eq, I.bTuple_eq, I.bListD_eq, I.mTup_eq, I.mLst_eq, I.mNew_eq, I.mSeq_eq, I.mTru_eq, I.mCut_eq, I.mPut_eq, I.bAll_eq, I.bAny_eq, I.bSum_eq, I.bSorted_eq, I.bMax_eq, I.bMin_eq, I.kMM_eq, I.bIsi_eq, I.mIt_eq, I.mEnu_eq, I.mZip_eq, I.forL_eq, I.whileL_eq, I.lcL_eq, I.lcO_eq, I.lcB2_eq, I.cDisp_eq, I.gIn_eq, I.mUpd_eq, I.mApp_eq, I.mAttr_eq, I.cMethO_eq, I.mMake_eq, I.cMkK_eq, I.sSetA_eq, I.sAugA_eq, I.bLenO_eq, I.sFrz_eq, I.cRepL_eq, I.mRev_eq, I.iRg3_eq, I.cCall0_eq, I.bListN_eq, I.mRepL_eq, I.mRg3_eq, I.gMulJ_eq] at *
  exact R.gIx0 h
theorem gIxO {n : Nat} {ts : List T} {i : Int} {t : T} (hm : μ[n]? = some (some (.lst ts))) (hi : atI ts i = some t) (h : P t μ) : OkI (I.gIxD (.obj n) (.int i) μ) P E := by
  simp only [OkI_eq, I.cVar_eq, I.cK_eq, I.c1_eq, I.c2_eq, I.cN_eq, I.aNil_eq, I.aCons_eq, I.aStar_eq, I.cTest_eq, I.cTru_eq, I.cAnd_eq, I.cOr_eq, I.cNot_eq, I.cYes_eq, I.cIf_eq, I.cAndT_eq, I.cOrT_eq, I.cNotT_eq, I.cChain_eq, I.cCall_eq, I.cSlice_eq, I.oNone_eq, I.oSome_eq, I.cKw_eq, I.cMeth_eq, I.cRgL1_eq, I.cRgL2_eq, I.iSeq_eq, I.iRg1_eq, I.iRg2_eq, I.iZp_eq, I.iEn_eq, I.cLc_eq, I.cLc2_eq, I.lcT_eq, I.sNil_eq, I.sPass_eq, I.sBreak_eq, I.sCont_eq, I.sBad_eq, I.sRetN_eq, I.sSeq_eq, I.sExpr_eq, I.sRet_eq, I.sSet_eq, I.sIf_eq, I.sAsg_eq, I.sStore_eq, I.sPar_eq, I.sPar3_eq, I.sAug_eq, I.sFor_eq, I.stp_eq, I.fnD_eq, I.gIxD_eq, I.gAdd_eq, I.gSub_eq, I.gMulI_eq, I.gFdiv_eq, I.gMod_eq, I.gPow_eq, I.gLt_eq, I.gLe_eq, I.gGt_eq, I.gGe_eq, I.gNeg_eq, I.gEqD_eq, I.gIs_eq, I.gIsNot_eq, I.bLen_eq, I.bInt_eq, I.bTuple_eq, I.bListD_eq, I.mTup_eq, I.mLst_eq, I.mNew_eq, I.mSeq_eq, I.mTru_eq, I.mCut_eq, I.mPut_eq, I.bAll_eq, I.bAny_eq, I.bSum_eq, I.bSorted_eq, I.bMax_eq, I.bMin_eq, I.kMM_eq, I.bIsi_eq, I.mIt_eq, I.mEnu_eq, I.mZip_eq, I.forL_eq, I.whileL_eq, I.lcL_eq, I.lcO_eq, I.lcB2_eq, I.cDisp_eq, I.gIn_eq, I.mUpd_eq, I.mApp_eq, I.mAttr_eq, I.cMethO_eq, I.mMake_eq, I.cMkK_eq, I.sSetA_eq, I.sAugA_eq, I.bLenO_eq, I.sFrz_eq, I.cRepL_eq, I.mRev_eq, I.iRg3_eq, I.cCall0_eq, I.bListN_eq, I.mRepL_eq, I.mRg3_eq, I.gMulJ_eq] at *
  exact R.gIxO hm hi h
theorem gIxT {ts : List T} {i : Int} {t : T} (hi : atI ts i = some t) (h : P t μ) : OkI (I.gIxD (.tup ts) (.int i) μ) P E := by
  simp only [OkI_eq, I.cVar_eq, I.cK_eq, I.c1_eq, I.c2_eq, I.cN_eq, I.aNil_eq, I.aCons_eq, I.aStar_eq, I.cTest_eq, I.cTru_eq, I.cAnd_eq, I.cOr_eq, I.cNot_eq, I.cYes_eq, I.cIf_eq, I.cAndT_eq, I.cOrT_eq, I.cNotT_eq, I.cChain_eq, I.cCall_eq, I.cSlice_eq, I.oNone_eq, I.oSome_eq, I.cKw_eq, I.cMeth_eq, I.cRgL1_eq, I.cRgL2_eq, I.iSeq_eq, I.iRg1_eq, I.iRg2_eq, I.iZp_eq, I.iEn_eq, I.cLc_eq, I.cLc2_eq, I.lcT_eq, I.sNil_eq, I.sPass_eq, I.sBreak_eq, I.sCont_eq, I.sBad_eq, I.sRetN_eq, I.sSeq_eq, I.sExpr_eq, I.sRet_eq, I.sSet_eq, I.sIf_eq, I.sAsg_eq, I.sStore_eq, I.sPar_eq, I.sPar3_eq, I.sAug_eq, I.sFor_eq, I.stp_eq, I.fnD_eq, I.gIxD_eq, I.gAdd_eq, I.gSub_eq, I.gMulI_eq, I.gFdiv_eq, I.gMod_eq, I.gPow_eq, I.gLt_eq, I.gLe_eq, I.gGt_eq, I.gGe_eq, I.gNeg_eq, I.gEqD_eq, I.gIs_eq, I.gIsNot_eq, I.bLen_eq, I.bInt_eq, I.bTuple_eq, I.bListD_eq, I.mTup_eq, I.mLst_eq, I.mNew_eq, I.mSeq_eq, I.mTru_eq, I.mCut_eq, I.mPut_eq, I.bAll_eq, I.bAny_eq, I.bSum_eq, I.bSorted_eq, I.bMax_eq, I.bMin_eq, I.kMM_eq, I.bIsi_eq, I.mIt_eq, I.mEnu_eq, I.mZip_eq, I.forL_eq, I.whileL_eq, I.lcL_eq, I.lcO_eq, I.lcB2_eq, I.cDisp_eq, I.gIn_eq, I.mUpd_eq, I.mApp_eq, I.mAttr_eq, I.cMethO_eq, I.mMake_eq, I.cMkK_eq, I.sSetA_eq, I.sAugA_eq, I.bLenO_eq, I.sFrz_eq, I.cRepL_eq, I.mRev_eq, I.iRg3_eq, I.cCall0_eq, I.bListN_eq, I.mRepL_eq, I.mRg3_eq, I.gMulJ_eq] at *
  exact R.gIxT hi h
theorem gIxL {ts : List T} {i : Int} {t : T} (hi : atI ts i = some t) (h : P t μ) : OkI (I.gIxD (.lst ts) (.int i) μ) P E := by
  simp only [OkI_eq, I.cVar_eq, I.cK_eq, I.c1_eq, I.c2_eq, I.cN_eq, I.aNil_eq, I.aCons_eq, I.aStar_eq, I.cTest_eq, I.cTru_eq, I.cAnd_eq, I.cOr_eq, I.cNot_eq, I.cYes_eq, I.cIf_eq, I.cAndT_eq, I.cOrT_eq, I.cNotT_eq, I.cChain_eq, I.cCall_eq, I.cSlice_eq, I.oNone_eq, I.oSome_eq, I.cKw_eq, I.cMeth_eq, I.cRgL1_eq, I.cRgL2_eq, I.iSeq_eq, I.iRg1_eq, I.iRg2_eq, I.iZp_eq, I.iEn_eq, I.cLc_eq, I.cLc2_eq, I.lcT_eq, I.sNil_eq, I.sPass_eq, I.sBreak_eq, I.sCont_eq, I.sBad_eq, I.sRetN_eq, I.sSeq_eq, I.sExpr_eq, I.sRet_eq, I.sSet_eq, I.sIf_eq, I.sAsg_eq, I.sStore_eq, I.sPar_eq, I.sPar3_eq, I.sAug_eq, I.sFor_eq, I.stp_eq, I.fnD_eq, I.gIxD_eq, I.gAdd_eq, I.gSub_eq, I.gMulI_eq, I.gFdiv_eq, I.gMod_eq, I.gPow_eq, I.gLt_eq, I.gLe_eq, I.gGt_eq, I.gGe_eq, I.gNeg_eq, I.gEqD_eq, I.gIs_eq, I.gIsNot_eq, I.bLen_eq, I.bInt_eq, I.bTuple_eq, I.bListD_eq, I.mTup_eq, I.mLst_eq, I.mNew_eq, I.mSeq_eq, I.mTru_eq, I.mCut_eq, I.mPut_eq, I.bAll_eq, I.bAny_eq, I.bSum_eq, I.bSorted_eq, I.bMax_eq, I.bMin_eq, I.kMM_eq, I.bIsi_eq, I.mIt_eq, I.mEnu_eq, I.mZip_eq, I.forL_eq, I.whileL_eq, I.lcL_eq, I.lcO_eq, I.lcB2_eq, I.cDisp_eq, I.gIn_eq, I.mUpd_eq, I.mApp_eq, I.mAttr_eq, I.cMethO_eq, I.mMake_eq, I.cMkK_eq, I.sSetA_eq, I.sAugA_eq, I.bLenO_eq, I.sFrz_eq, I.cRepL_eq, I.mRev_eq, I.iRg3_eq, I.cCall0_eq, I.bListN_eq, I.mRepL_eq, I.mRg3_eq, I.gMulJ_eq] at *
  exact R.gIxL hi h
theorem gIxS {ts : List T} {i : Int} {t : T} (hi : atI ts i = some t) (h : P t μ) : OkI (I.gIxD (.scr ts) (.int i) μ) P E := by
  simp only [OkI_eq, I.cVar_eq, I.cK_eq, I.c1_eq, I.c2_eq, I.cN_eq, I.aNil_eq, I.aCons_eq, I.aStar_eq, I.cTest_eq, I.cTru_eq, I.cAnd_eq, I.cOr_eq, I.cNot_eq, I.cYes_eq, I.cIf_eq, I.cAndT_eq, I.cOrT_eq, I.cNotT_eq, I.cChain_eq, I.cCall_eq, I.cSlice_eq, I.oNone_eq, I.oSome_eq, I.cKw_eq, I.cMeth_eq, I.cRgL1_eq, I.cRgL2_eq, I.iSeq_eq, I.iRg1_eq, I.iRg2_eq, I.iZp_eq, I.iEn_eq, I.cLc_eq, I.cLc2_eq, I.lcT_eq, I.sNil_eq, I.sPass_eq, I.sBreak_eq, I.sCont_eq, I.sBad_eq, I.sRetN_eq, I.sSeq_eq, I.sExpr_eq, I.sRet_eq, I.sSet_eq, I.sIf_eq, I.sAsg_eq, I.sStore_eq, I.sPar_eq, I.sPar3_eq, I.sAug_eq, I.sFor_eq, I.stp_eq, I.fnD_eq, I.gIxD_eq, I.gAdd_eq, I.gSub_eq, I.gMulI_eq, I.gFdiv_eq, I.gMod_eq, I.gPow_eq, I.gLt_eq, I.gLe_eq, I.gGt_eq, I.gGe_eq, I.gNeg_eq, I.gEqD_eq, I.gIs_eq, I.gIsNot_eq, I.bLen_eq, I.bInt_eq, I.bTuple_eq, I.bListD_eq, I.mTup_eq, I.mLst_eq, I.mNew_eq, I.mSeq_eq, I.mTru_eq, I.mCut_eq, I.mPut_eq, I.bAll_eq, I.bAny_eq, I.bSum_eq, I.bSorted_eq, I.bMax_eq, I.bMin_eq, I.kMM_eq, I.bIsi_eq, I.mIt_eq, I.mEnu_eq, I.mZip_eq, I.forL_eq, I.whileL_eq, I.lcL_eq, I.lcO_eq, I.lcB2_eq, I.cDisp_eq, I.gIn_eq, I.mUpd_eq, I.mApp_eq, I.mAttr_eq, I.cMethO_eq, I.mMake_eq, I.cMkK_eq, I.sSetA_eq, I.sAugA_eq, I.bLenO_eq, I.sFrz_eq, I.cRepL_eq, I.mRev_eq, I.iRg3_eq, I.cCall0_eq, I.bListN_eq, I.mRepL_eq, I.mRg3_eq, I.gMulJ_eq] at *
  exact R.gIxS hi h
theorem gAddI {i j : Int} (h : P (.int (i + j)) μ) : OkI (I.gAdd (.int i) (.int j) μ) P E := by
  simp only [OkI_eq, I.cVar_eq, I.cK_eq, I.c1_eq, I.c2_eq, I.cN_eq, I.aNil_eq, I.aCons_eq, I.aStar_eq, I.cTest_eq, I.cTru_eq, I.cAnd_eq, I.cOr_eq, I.cNot_eq, I.cYes_eq, I.cIf_eq, I.cAndT_eq, I.cOrT_eq, I.cNotT_eq, I.cChain_eq, I.cCall_eq, I.cSlice_eq, I.oNone_eq, I.oSome_eq, I.cKw_eq, I.cMeth_eq, I.cRgL1_eq, I.cRgL2_eq, I.iSeq_eq, I.iRg1_eq, I.iRg2_eq, I.iZp_eq, I.iEn_eq, I.cLc_eq, I.cLc2_eq, I.lcT_eq, I.sNil_eq, I.sPass_eq, I.sBreak_eq, I.sCont_eq, I.sBad_eq, I.sRetN_eq, I.sSeq_eq, I.sExpr_eq, I.sRet_eq, I.sSet_eq, I.sIf_eq, I.sAsg_eq, I.sStore_eq, I.sPar_eq, I.sPar3_eq, I.sAug_eq, I.sFor_eq, I.stp_eq, I.fnD_eq, I.gIxD_eq, I.gAdd_eq, I.gSub_eq, I.gMulI_eq, I.gFdiv_eq, I.gMod_eq, I.gPow_eq, I.gLt_eq, I.gLe_eq, I.gGt_eq, I.gGe_eq, I.gNeg_eq, I.gEqD_eq, I.gIs_eq, I.gIsNot_eq, I.bLen_eq, I.bInt_eq, I.bTuple_eq, I.bListD_eq, I.mTup_eq, I.mLst_eq, I.mNew_eq, I.mSeq_eq, I.mTru_eq, I.mCut_eq, I.mPut_eq, I.bAll_eq, I.bAny_eq, I.bSum_eq, I.bSorted_eq, I.bMax_eq, I.bMin_eq, I.kMM_eq, I.bIsi_eq, I.mIt_eq, I.mEnu_eq, I.mZip_eq, I.forL_eq, I.whileL_eq, I.lcL_eq, I.lcO_eq, I.lcB2_eq, I.cDisp_eq, I.gIn_eq, I.mUpd_eq, I.mApp_eq, I.mAttr_eq, I.cMethO_eq, I.mMake_eq, I.cMkK_eq, I.sSetA_eq, I.sAugA_eq, I.bLenO_eq, I.sFrz_eq, I.cRepL_eq, I.mRev_eq, I.iRg3_eq, I.cCall0_eq, I.bListN_eq, I.mRepL_eq, I.mRg3_eq, I.gMulJ_eq] at *
  exact R.gAddI h
theorem gAddT {i j : List T} (hl : i.length + j.length ≤ lim) (h : P (.tup (i ++ j)) μ) : OkI (I.gAdd (.tup i) (.tup j) μ) P E := by
  simp only [OkI_eq, I.cVar_eq, I.cK_eq, I.c1_eq, I.c2_eq, I.cN_eq, I.aNil_eq, I.aCons_eq, I.aStar_eq, I.cTest_eq, I.cTru_eq, I.cAnd_eq, I.cOr_eq, I.cNot_eq, I.cYes_eq, I.cIf_eq, I.cAndT_eq, I.cOrT_eq, I.cNotT_eq, I.cChain_eq, I.cCall_eq, I.cSlice_eq, I.oNone_eq, I.oSome_eq, I.cKw_eq, I.cMeth_eq, I.cRgL1_eq, I.cRgL2_eq, I.iSeq_eq, I.iRg1_eq, I.iRg2_eq, I.iZp_eq, I.iEn_eq, I.cLc_eq, I.cLc2_eq, I.lcT_eq, I.sNil_eq, I.sPass_eq, I.sBreak_eq, I.sCont_eq, I.sBad_eq, I.sRetN_eq, I.sSeq_eq, I.sExpr_eq, I.sRet_eq, I.sSet_eq, I.sIf_eq, I.sAsg_eq, I.sStore_eq, I.sPar_eq, I.sPar3_eq, I.sAug_eq, I.sFor_eq, I.stp_eq, I.fnD_eq, I.gIxD_eq, I.gAdd_eq, I.gSub_eq, I.gMulI_eq, I.gFdiv_eq, I.gMod_eq, I.gPow_eq, I.gLt_eq, I.gLe_eq, I.gGt_eq, I.gGe_eq, I.gNeg_eq, I.gEqD_eq, I.gIs_eq, I.gIsNot_eq, I.bLen_eq, I.bInt_eq, I.bTuple_eq, I.bListD_eq, I.mTup_eq, I.mLst_eq, I.mNew_eq, I.mSeq_eq, I.mTru_eq, I.mCut_eq, I.mPut_eq, I.bAll_eq, I.bAny_eq, I.bSum_eq, I.bSorted_eq, I.bMax_eq, I.bMin_eq, I.kMM_eq, I.bIsi_eq, I.mIt_eq, I.mEnu_eq, I.mZip_eq, I.forL_eq, I.whileL_eq, I.lcL_eq, I.lcO_eq, I.lcB2_eq, I.cDisp_eq, I.gIn_eq, I.mUpd_eq, I.mApp_eq, I.mAttr_eq, I.cMethO_eq, I.mMake_eq, I.cMkK_eq, I.sSetA_eq, I.sAugA_eq, I.bLenO_eq, I.sFrz_eq, I.cRepL_eq, I.mRev_eq, I.iRg3_eq, I.cCall0_eq, I.bListN_eq, I.mRepL_eq, I.mRg3_eq, I.gMulJ_eq] at *
  exact R.gAddT hl h
theorem gAddL {i j : List T} (hl : i.length + j.length ≤ lim) (h : P (.lst (i ++ j)) μ) : OkI (I.gAdd (.lst i) (.lst j) μ) P E := by
  simp only [OkI_eq, I.cVar_eq, I.cK_eq, I.c1_eq, I.c2_eq, I.cN_eq, I.aNil_eq, I.aCons_eq, I.aStar_eq, I.cTest_eq, I.cTru_eq, I.cAnd_eq, I.cOr_eq, I.cNot_eq, I.cYes_eq, I.cIf_eq, I.cAndT_eq, I.cOrT_eq, I.cNotT_eq, I.cChain_eq, I.cCall_eq, I.cSlice_eq, I.oNone_eq, I.oSome_eq, I.cKw_eq, I.cMeth_eq, I.cRgL1_eq, I.cRgL2_eq, I.iSeq_eq, I.iRg1_eq, I.iRg2_eq, I.iZp_eq, I.iEn_eq, I.cLc_eq, I.cLc2_eq, I.lcT_eq, I.sNil_eq, I.sPass_eq, I.sBreak_eq, I.sCont_eq, I.sBad_eq, I.sRetN_eq, I.sSeq_eq, I.sExpr_eq, I.sRet_eq, I.sSet_eq, I.sIf_eq, I.sAsg_eq, I.sStore_eq, I.sPar_eq, I.sPar3_eq, I.sAug_eq, I.sFor_eq, I.stp_eq, I.fnD_eq, I.gIxD_eq, I.gAdd_eq, I.gSub_eq, I.gMulI_eq, I.gFdiv_eq, I.gMod_eq, I.gPow_eq, I.gLt_eq, I.gLe_eq, I.gGt_eq, I.gGe_eq, I.gNeg_eq, I.gEqD_eq, I.gIs_eq, I.gIsNot_eq, I.bLen_eq, I.bInt_eq, I.bTuple_eq, I.bListD_eq, I.mTup_eq, I.mLst_eq, I.mNew_eq, I.mSeq_eq, I.mTru_eq, I.mCut_eq, I.mPut_eq, I.bAll_eq, I.bAny_eq, I.bSum_eq, I.bSorted_eq, I.bMax_eq, I.bMin_eq, I.kMM_eq, I.bIsi_eq, I.mIt_eq, I.mEnu_eq, I.mZip_eq, I.forL_eq, I.whileL_eq, I.lcL_eq, I.lcO_eq, I.lcB2_eq, I.cDisp_eq, I.gIn_eq, I.mUpd_eq, I.mApp_eq, I.mAttr_eq, I.cMethO_eq, I.mMake_eq, I.cMkK_eq, I.sSetA_eq, I.sAugA_eq, I.bLenO_eq, I.sFrz_eq, I.cRepL_eq, I.mRev_eq, I.iRg3_eq, I.cCall0_eq, I.bListN_eq, I.mRepL_eq, I.mRg3_eq, I.gMulJ_eq] at *
  exact R.gAddL hl h
theorem gSub {i j : Int} (h : P (.int (i - j)) μ) : OkI (I.gSub (.int i) (.int j) μ) P E := by
  simp only [OkI_eq, I.cVar_eq, I.cK_eq, I.c1_eq, I.c2_eq, I.cN_eq, I.aNil_eq, I.aCons_eq, I.aStar_eq, I.cTest_eq, I.cTru_eq, I.cAnd_eq, I.cOr_eq, I.cNot_eq, I.cYes_eq, I.cIf_eq, I.cAndT_eq, I.cOrT_eq, I.cNotT_eq, I.cChain_eq, I.cCall_eq, I.cSlice_eq, I.oNone_eq, I.oSome_eq, I.cKw_eq, I.cMeth_eq, I.cRgL1_eq, I.cRgL2_eq, I.iSeq_eq, I.iRg1_eq, I.iRg2_eq, I.iZp_eq, I.iEn_eq, I.cLc_eq, I.cLc2_eq, I.lcT_eq, I.sNil_eq, I.sPass_eq, I.sBreak_eq, I.sCont_eq, I.sBad_eq, I.sRetN_eq, I.sSeq_eq, I.sExpr_eq, I.sRet_eq, I.sSet_eq, I.sIf_eq, I.sAsg_eq, I.sStore_eq, I.sPar_eq, I.sPar3_eq, I.sAug_eq, I.sFor_eq, I.stp_eq, I.fnD_eq, I.gIxD_eq, I.gAdd_eq, I.gSub_eq, I.gMulI_eq, I.gFdiv_eq, I.gMod_eq, I.gPow_eq, I.gLt_eq, I.gLe_eq, I.gGt_eq, I.gGe_eq, I.gNeg_eq, I.gEqD_eq, I.gIs_eq, I.gIsNot_eq, I.bLen_eq, I.bInt_eq, I.bTuple_eq, I.bListD_eq, I.mTup_eq, I.mLst_eq, I.mNew_eq, I.mSeq_eq, I.mTru_eq, I.mCut_eq, I.mPut_eq, I.bAll_eq, I.bAny_eq, I.bSum_eq, I.bSorted_eq, I.bMax_eq, I.bMin_eq, I.kMM_eq, I.bIsi_eq, I.mIt_eq, I.mEnu_eq, I.mZip_eq, I.forL_eq, I.whileL_eq, I.lcL_eq, I.lcO_eq, I.lcB2_eq, I.cDisp_eq, I.gIn_eq, I.mUpd_eq, I.mApp_eq, I.mAttr_eq, I.cMethO_eq, I.mMake_eq, I.cMkK_eq, I.sSetA_eq, I.sAugA_eq, I.bLenO_eq, I.sFrz_eq, I.cRepL_eq, I.mRev_eq, I.iRg3_eq, I.cCall0_eq, I.bListN_eq, I.mRepL_eq, I.mRg3_eq, I.gMulJ_eq] at *
  exact R.gSub h
theorem gMul {i j : Int} (hc : cMulB i j = true) (h : P (.int (i * j)) μ) : OkI (I.gMulI (.int i) (.int j) μ) P E := by
  simp only [OkI_eq, I.cVar_eq, I.cK_eq, I.c1_eq, I.c2_eq, I.cN_eq, I.aNil_eq, I.aCons_eq, I.aStar_eq, I.cTest_eq, I.cTru_eq, I.cAnd_eq, I.cOr_eq, I.cNot_eq, I.cYes_eq, I.cIf_eq, I.cAndT_eq, I.cOrT_eq, I.cNotT_eq, I.cChain_eq, I.cCall_eq, I.cSlice_eq, I.oNone_eq, I.oSome_eq, I.cKw_eq, I.cMeth_eq, I.cRgL1_eq, I.cRgL2_eq, I.iSeq_eq, I.iRg1_eq, I.iRg2_eq, I.iZp_eq, I.iEn_eq, I.cLc_eq, I.cLc2_eq, I.lcT_eq, I.sNil_eq, I.sPass_eq, I.sBreak_eq, I.sCont_eq, I.sBad_eq, I.sRetN_eq, I.sSeq_eq, I.sExpr_eq, I.sRet_eq, I.sSet_eq, I.sIf_eq, I.sAsg_eq, I.sStore_eq, I.sPar_eq, I.sPar3_eq, I.sAug_eq, I.sFor_eq, I.stp_eq, I.fnD_eq, I.gIxD_eq, I.gAdd_eq, I.gSub_eq, I.gMulI_eq, I.gFdiv_eq, I.gMod_eq, I.gPow_eq, I.gLt_eq, I.gLe_eq, I.gGt_eq, I.gGe_eq, I.gNeg_eq, I.gEqD_eq, I.gIs_eq, I.gIsNot_eq, I.bLen_eq, I.bInt_eq, I.bTuple_eq, I.bListD_eq, I.mTup_eq, I.mLst_eq, I.mNew_eq, I.mSeq_eq, I.mTru_eq, I.mCut_eq, I.mPut_eq, I.bAll_eq, I.bAny_eq, I.bSum_eq, I.bSorted_eq, I.bMax_eq, I.bMin_eq, I.kMM_eq, I.bIsi_eq, I.mIt_eq, I.mEnu_eq, I.mZip_eq, I.forL_eq, I.whileL_eq, I.lcL_eq, I.lcO_eq, I.lcB2_eq, I.cDisp_eq, I.gIn_eq, I.mUpd_eq, I.mApp_eq, I.mAttr_eq, I.cMethO_eq, I.mMake_eq, I.cMkK_eq, I.sSetA_eq, I.sAugA_eq, I.bLenO_eq, I.sFrz_eq, I.cRepL_eq, I.mRev_eq, I.iRg3_eq, I.cCall0_eq, I.bListN_eq, I.mRepL_eq, I.mRg3_eq, I.gMulJ_eq] at *
  exact R.gMul hc h
theorem gFdiv {i j : Int} (h0 : 0 < j) (h1 : j < 1073741824) (h : P (.int (i / j)) μ) : OkI (I.gFdiv (.int i) (.int j) μ) P E := by
  simp only [OkI_eq, I.cVar_eq, I.cK_eq, I.c1_eq, I.c2_eq, I.cN_eq, I.aNil_eq, I.aCons_eq, I.aStar_eq, I.cTest_eq, I.cTru_eq, I.cAnd_eq, I.cOr_eq, I.cNot_eq, I.cYes_eq, I.cIf_eq, I.cAndT_eq, I.cOrT_eq, I.cNotT_eq, I.cChain_eq, I.cCall_eq, I.cSlice_eq, I.oNone_eq, I.oSome_eq, I.cKw_eq, I.cMeth_eq, I.cRgL1_eq, I.cRgL2_eq, I.iSeq_eq, I.iRg1_eq, I.iRg2_eq, I.iZp_eq, I.iEn_eq, I.cLc_eq, I.cLc2_eq, I.lcT_eq, I.sNil_eq, I.sPass_eq, I.sBreak_eq, I.sCont_eq, I.sBad_eq, I.sRetN_eq, I.sSeq_eq, I.sExpr_eq, I.sRet_eq, I.sSet_eq, I.sIf_eq, I.sAsg_eq, I.sStore_eq, I.sPar_eq, I.sPar3_eq, I.sAug_eq, I.sFor_eq, I.stp_eq, I.fnD_eq, I.gIxD_eq, I.gAdd_eq, I.gSub_eq, I.gMulI_eq, I.gFdiv_eq, I.gMod_eq, I.gPow_eq, I.gLt_eq, I.gLe_eq, I.gGt_eq, I.gGe_eq, I.gNeg_eq, I.gEqD_eq, I.gIs_eq, I.gIsNot_eq, I.bLen_eq, I.bInt_eq, I.bTuple_eq, I.bListD_eq, I.mTup_eq, I.mLst_eq, I.mNew_eq, I.mSeq_eq, I.mTru_eq, I.mCut_eq, I.mPut_eq, I.bAll_eq, I.bAny_eq, I.bSum_eq, I.bSorted_eq, I.bMax_eq, I.bMin_eq, I.kMM_eq, I.bIsi_eq, I.mIt_eq, I.mEnu_eq, I.mZip_eq, I.forL_eq, I.whileL_eq, I.lcL_eq, I.lcO_eq, I.lcB2_eq, I.cDisp_eq, I.gIn_eq, I.mUpd_eq, I.mApp_eq, I.mAttr_eq, I.cMethO_eq, I.mMake_eq, I.cMkK_eq, I.sSetA_eq, I.sAugA_eq, I.bLenO_eq, I.sFrz_eq, I.cRepL_eq, I.mRev_eq, I.iRg3_eq, I.cCall0_eq, I.bListN_eq, I.mRepL_eq, I.mRg3_eq, I.gMulJ_eq] at *
  exact R.gFdiv h0 h1 h
theorem gMod {i j : Int} (h0 : 0 < j) (h : P (.int (i % j)) μ) : OkI (I.gMod (.int i) (.int j) μ) P E := by
  simp only [OkI_eq, I.cVar_eq, I.cK_eq, I.c1_eq, I.c2_eq, I.cN_eq, I.aNil_eq, I.aCons_eq, I.aStar_eq, I.cTest_eq, I.cTru_eq, I.cAnd_eq, I.cOr_eq, I.cNot_eq, I.cYes_eq, I.cIf_eq, I.cAndT_eq, I.cOrT_eq, I.cNotT_eq, I.cChain_eq, I.cCall_eq, I.cSlice_eq, I.oNone_eq, I.oSome_eq, I.cKw_eq, I.cMeth_eq, I.cRgL1_eq, I.cRgL2_eq, I.iSeq_eq, I.iRg1_eq, I.iRg2_eq, I.iZp_eq, I.iEn_eq, I.cLc_eq, I.cLc2_eq, I.lcT_eq, I.sNil_eq, I.sPass_eq, I.sBreak_eq, I.sCont_eq, I.sBad_eq, I.sRetN_eq, I.sSeq_eq, I.sExpr_eq, I.sRet_eq, I.sSet_eq, I.sIf_eq, I.sAsg_eq, I.sStore_eq, I.sPar_eq, I.sPar3_eq, I.sAug_eq, I.sFor_eq, I.stp_eq, I.fnD_eq, I.gIxD_eq, I.gAdd_eq, I.gSub_eq, I.gMulI_eq, I.gFdiv_eq, I.gMod_eq, I.gPow_eq, I.gLt_eq, I.gLe_eq, I.gGt_eq, I.gGe_eq, I.gNeg_eq, I.gEqD_eq, I.gIs_eq, I.gIsNot_eq, I.bLen_eq, I.bInt_eq, I.bTuple_eq, I.bListD_eq, I.mTup_eq, I.mLst_eq, I.mNew_eq, I.mSeq_eq, I.mTru_eq, I.mCut_eq, I.mPut_eq, I.bAll_eq, I.bAny_eq, I.bSum_eq, I.bSorted_eq, I.bMax_eq, I.bMin_eq, I.kMM_eq, I.bIsi_eq, I.mIt_eq, I.mEnu_eq, I.mZip_eq, I.forL_eq, I.whileL_eq, I.lcL_eq, I.lcO_eq, I.lcB2_eq, I.cDisp_eq, I.gIn_eq, I.mUpd_eq, I.mApp_eq, I.mAttr_eq, I.cMethO_eq, I.mMake_eq, I.cMkK_eq, I.sSetA_eq, I.sAugA_eq, I.bLenO_eq, I.sFrz_eq, I.cRepL_eq, I.mRev_eq, I.iRg3_eq, I.cCall0_eq, I.bListN_eq, I.mRepL_eq, I.mRg3_eq, I.gMulJ_eq] at *
  exact R.gMod h0 h
theorem gPow {i j : Int} (h0 : (decide (0 ≤ j) && decide (j ≤ 1000000) && decide (i.natAbs < 2 ^ 64)) = true) (h : P (.int (i ^ j.toNat)) μ) : OkI (I.gPow (.int i) (.int j) μ) P E := by
  simp only [OkI_eq, I.cVar_eq, I.cK_eq, I.c1_eq, I.c2_eq, I.cN_eq, I.aNil_eq, I.aCons_eq, I.aStar_eq, I.cTest_eq, I.cTru_eq, I.cAnd_eq, I.cOr_eq, I.cNot_eq, I.cYes_eq, I.cIf_eq, I.cAndT_eq, I.cOrT_eq, I.cNotT_eq, I.cChain_eq, I.cCall_eq, I.cSlice_eq, I.oNone_eq, I.oSome_eq, I.cKw_eq, I.cMeth_eq, I.cRgL1_eq, I.cRgL2_eq, I.iSeq_eq, I.iRg1_eq, I.iRg2_eq, I.iZp_eq, I.iEn_eq, I.cLc_eq, I.cLc2_eq, I.lcT_eq, I.sNil_eq, I.sPass_eq, I.sBreak_eq, I.sCont_eq, I.sBad_eq, I.sRetN_eq, I.sSeq_eq, I.sExpr_eq, I.sRet_eq, I.sSet_eq, I.sIf_eq, I.sAsg_eq, I.sStore_eq, I.sPar_eq, I.sPar3_eq, I.sAug_eq, I.sFor_eq, I.stp_eq, I.fnD_eq, I.gIxD_eq, I.gAdd_eq, I.gSub_eq, I.gMulI_eq, I.gFdiv_eq, I.gMod_eq, I.gPow_eq, I.gLt_eq, I.gLe_eq, I.gGt_eq, I.gGe_eq, I.gNeg_eq, I.gEqD_eq, I.gIs_eq, I.gIsNot_eq, I.bLen_eq, I.bInt_eq, I.bTuple_eq, I.bListD_eq, I.mTup_eq, I.mLst_eq, I.mNew_eq, I.mSeq_eq, I.mTru_eq, I.mCut_eq, I.mPut_eq, I.bAll_eq, I.bAny_eq, I.bSum_eq, I.bSorted_eq, I.bMax_eq, I.bMin_eq, I.kMM_eq, I.bIsi_eq, I.mIt_eq, I.mEnu_eq, I.mZip_eq, I.forL_eq, I.whileL_eq, I.lcL_eq, I.lcO_eq, I.lcB2_eq, I.cDisp_eq, I.gIn_eq, I.mUpd_eq, I.mApp_eq, I.mAttr_eq, I.cMethO_eq, I.mMake_eq, I.cMkK_eq, I.sSetA_eq, I.sAugA_eq, I.bLenO_eq, I.sFrz_eq, I.cRepL_eq, I.mRev_eq, I.iRg3_eq, I.cCall0_eq, I.bListN_eq, I.mRepL_eq, I.mRg3_eq, I.gMulJ_eq] at *
  exact R.gPow h0 h
theorem gLt {i j : Int} (h : P (.bl (decide (i < j))) μ) : OkI (I.gLt (.int i) (.int j) μ) P E := by
  simp only [OkI_eq, I.cVar_eq, I.cK_eq, I.c1_eq, I.c2_eq, I.cN_eq, I.aNil_eq, I.aCons_eq, I.aStar_eq, I.cTest_eq, I.cTru_eq, I.cAnd_eq, I.cOr_eq, I.cNot_eq, I.cYes_eq, I.cIf_eq, I.cAndT_eq, I.cOrT_eq, I.cNotT_eq, I.cChain_eq, I.cCall_eq, I.cSlice_eq, I.oNone_eq, I.oSome_eq, I.cKw_eq, I.cMeth_eq, I.cRgL1_eq, I.cRgL2_eq, I.iSeq_eq, I.iRg1_eq, I.iRg2_eq, I.iZp_eq, I.iEn_eq, I.cLc_eq, I.cLc2_eq, I.lcT_eq, I.sNil_eq, I.sPass_eq, I.sBreak_eq, I.sCont_eq, I.sBad_eq, I.sRetN_eq, I.sSeq_eq, I.sExpr_eq, I.sRet_eq, I.sSet_eq, I.sIf_eq, I.sAsg_eq, I.sStore_eq, I.sPar_eq, I.sPar3_eq, I.sAug_eq, I.sFor_eq, I.stp_eq, I.fnD_eq, I.gIxD_eq, I.gAdd_eq, I.gSub_eq, I.gMulI_eq, I.gFdiv_eq, I.gMod_eq, I.gPow_eq, I.gLt_eq, I.gLe_eq, I.gGt_eq, I.gGe_eq, I.gNeg_eq, I.gEqD_eq, I.gIs_eq, I.gIsNot_eq, I.bLen_eq, I.bInt_eq, I.bTuple_eq, I.bListD_eq, I.mTup_eq, I.mLst_eq, I.mNew_eq, I.mSeq_eq, I.mTru_eq, I.mCut_eq, I.mPut_eq, I.bAll_eq, I.bAny_eq, I.bSum_eq, I.bSorted_eq, I.bMax_eq, I.bMin_eq, I.kMM_eq, I.bIsi_eq, I.mIt_eq, I.mEnu_eq, I.mZip_eq, I.forL_eq, I.whileL_eq, I.lcL_eq, I.lcO_eq, I.lcB2_eq, I.cDisp_eq, I.gIn_eq, I.mUpd_eq, I.mApp_eq, I.mAttr_eq, I.cMethO_eq, I.mMake_eq, I.cMkK_eq, I.sSetA_eq, I.sAugA_eq, I.bLenO_eq, I.sFrz_eq, I.cRepL_eq, I.mRev_eq, I.iRg3_eq, I.cCall0_eq, I.bListN_eq, I.mRepL_eq, I.mRg3_eq, I.gMulJ_eq] at *
  exact R.gLt h
theorem gLe {i j : Int} (h : P (.bl (decide (i ≤ j))) μ) : OkI (I.gLe (.int i) (.int j) μ) P E := by
  simp only [OkI_eq, I.cVar_eq, I.cK_eq, I.c1_eq, I.c2_eq, I.cN_eq, I.aNil_eq, I.aCons_eq, I.aStar_eq, I.cTest_eq, I.cTru_eq, I.cAnd_eq, I.cOr_eq, I.cNot_eq, I.cYes_eq, I.cIf_eq, I.cAndT_eq, I.cOrT_eq, I.cNotT_eq, I.cChain_eq, I.cCall_eq, I.cSlice_eq, I.oNone_eq, I.oSome_eq, I.cKw_eq, I.cMeth_eq, I.cRgL1_eq, I.cRgL2_eq, I.iSeq_eq, I.iRg1_eq, I.iRg2_eq, I.iZp_eq, I.iEn_eq, I.cLc_eq, I.cLc2_eq, I.lcT_eq, I.sNil_eq, I.sPass_eq, I.sBreak_eq, I.sCont_eq, I.sBad_eq, I.sRetN_eq, I.sSeq_eq, I.sExpr_eq, I.sRet_eq, I.sSet_eq, I.sIf_eq, I.sAsg_eq, I.sStore_eq, I.sPar_eq, I.sPar3_eq, I.sAug_eq, I.sFor_eq, I.stp_eq, I.fnD_eq, I.gIxD_eq, I.gAdd_eq, I.gSub_eq, I.gMulI_eq, I.gFdiv_eq, I.gMod_eq, I.gPow_eq, I.gLt_eq, I.gLe_eq, I.gGt_eq, I.gGe_eq, I.gNeg_eq, I.gEqD_eq, I.gIs_eq, I.gIsNot_eq, I.bLen_eq, I.bInt_eq, I.bTuple_eq, I.bListD_eq, I.mTup_eq, I.mLst_eq, I.mNew_eq, I.mSeq_eq, I.mTru_eq, I.mCut_eq, I.mPut_eq, I.bAll_eq, I.bAny_eq, I.bSum_eq, I.bSorted_eq, I.bMax_eq, I.bMin_eq, I.kMM_eq, I.bIsi_eq, I.mIt_eq, I.mEnu_eq, I.mZip_eq, I.forL_eq, I.whileL_eq, I.lcL_eq, I.lcO_eq, I.lcB2_eq, I.cDisp_eq, I.gIn_eq, I.mUpd_eq, I.mApp_eq, I.mAttr_eq, I.cMethO_eq, I.mMake_eq, I.cMkK_eq, I.sSetA_eq, I.sAugA_eq, I.bLenO_eq, I.sFrz_eq, I.cRepL_eq, I.mRev_eq, I.iRg3_eq, I.cCall0_eq, I.bListN_eq, I.mRepL_eq, I.mRg3_eq, I.gMulJ_eq] at *
  exact R.gLe h
theorem gGt {i j : Int} (h : P (.bl (decide (j < i))) μ) : OkI (I.gGt (.int i) (.int j) μ) P E := by
  simp only [OkI_eq, I.cVar_eq, I.cK_eq, I.c1_eq, I.c2_eq, I.cN_eq, I.aNil_eq, I.aCons_eq, I.aStar_eq, I.cTest_eq, I.cTru_eq, I.cAnd_eq, I.cOr_eq, I.cNot_eq, I.cYes_eq, I.cIf_eq, I.cAndT_eq, I.cOrT_eq, I.cNotT_eq, I.cChain_eq, I.cCall_eq, I.cSlice_eq, I.oNone_eq, I.oSome_eq, I.cKw_eq, I.cMeth_eq, I.cRgL1_eq, I.cRgL2_eq, I.iSeq_eq, I.iRg1_eq, I.iRg2_eq, I.iZp_eq, I.iEn_eq, I.cLc_eq, I.cLc2_eq, I.lcT_eq, I.sNil_eq, I.sPass_eq, I.sBreak_eq, I.sCont_eq, I.sBad_eq, I.sRetN_eq, I.sSeq_eq, I.sExpr_eq, I.sRet_eq, I.sSet_eq, I.sIf_eq, I.sAsg_eq, I.sStore_eq, I.sPar_eq, I.sPar3_eq, I.sAug_eq, I.sFor_eq, I.stp_eq, I.fnD_eq, I.gIxD_eq, I.gAdd_eq, I.gSub_eq, I.gMulI_eq, I.gFdiv_eq, I.gMod_eq, I.gPow_eq, I.gLt_eq, I.gLe_eq, I.gGt_eq, I.gGe_eq, I.gNeg_eq, I.gEqD_eq, I.gIs_eq, I.gIsNot_eq, I.bLen_eq, I.bInt_eq, I.bTuple_eq, I.bListD_eq, I.mTup_eq, I.mLst_eq, I.mNew_eq, I.mSeq_eq, I.mTru_eq, I.mCut_eq, I.mPut_eq, I.bAll_eq, I.bAny_eq, I.bSum_eq, I.bSorted_eq, I.bMax_eq, I.bMin_eq, I.kMM_eq, I.bIsi_eq, I.mIt_eq, I.mEnu_eq, I.mZip_eq, I.forL_eq, I.whileL_eq, I.lcL_eq, I.lcO_eq, I.lcB2_eq, I.cDisp_eq, I.gIn_eq, I.mUpd_eq, I.mApp_eq, I.mAttr_eq, I.cMethO_eq, I.mMake_eq, I.cMkK_eq, I.sSetA_eq, I.sAugA_eq, I.bLenO_eq, I.sFrz_eq, I.cRepL_eq, I.mRev_eq, I.iRg3_eq, I.cCall0_eq, I.bListN_eq, I.mRepL_eq, I.mRg3_eq, I.gMulJ_eq] at *
  exact R.gGt h
theorem gGe {i j : Int} (h : P (.bl (decide (j ≤ i))) μ) : OkI (I.gGe (.int i) (.int j) μ) P E := by
  simp only [OkI_eq, I.cVar_eq, I.cK_eq, I.c1_eq, I.c2_eq, I.cN_eq, I.aNil_eq, I.aCons_eq, I.aStar_eq, I.cTest_eq, I.cTru_eq, I.cAnd_eq, I.cOr_eq, I.cNot_eq, I.cYes_eq, I.cIf_eq, I.cAndT_eq, I.cOrT_eq, I.cNotT_eq, I.cChain_eq, I.cCall_eq, I.cSlice_eq, I.oNone_eq, I.oSome_eq, I.cKw_eq, I.cMeth_eq, I.cRgL1_eq, I.cRgL2_eq, I.iSeq_eq, I.iRg1_eq, I.iRg2_eq, I.iZp_eq, I.iEn_eq, I.cLc_eq, I.cLc2_eq, I.lcT_eq, I.sNil_eq, I.sPass_eq, I.sBreak_eq, I.sCont_eq, I.sBad_eq, I.sRetN_eq, I.sSeq_eq, I.sExpr_eq, I.sRet_eq, I.sSet_eq, I.sIf_eq, I.sAsg_eq, I.sStore_eq, I.sPar_eq, I.sPar3_eq, I.sAug_eq, I.sFor_eq, I.stp_eq, I.fnD_eq, I.gIxD_eq, I.gAdd_eq, I.gSub_eq, I.gMulI_eq, I.gFdiv_eq, I.gMod_eq, I.gPow_eq, I.gLt_eq, I.gLe_eq, I.gGt_eq, I.gGe_eq, I.gNeg_eq, I.gEqD_eq, I.gIs_eq, I.gIsNot_eq, I.bLen_eq, I.bInt_eq, I.bTuple_eq, I.bListD_eq, I.mTup_eq, I.mLst_eq, I.mNew_eq, I.mSeq_eq, I.mTru_eq, I.mCut_eq, I.mPut_eq, I.bAll_eq, I.bAny_eq, I.bSum_eq, I.bSorted_eq, I.bMax_eq, I.bMin_eq, I.kMM_eq, I.bIsi_eq, I.mIt_eq, I.mEnu_eq, I.mZip_eq, I.forL_eq, I.whileL_eq, I.lcL_eq, I.lcO_eq, I.lcB2_eq, I.cDisp_eq, I.gIn_eq, I.mUpd_eq, I.mApp_eq, I.mAttr_eq, I.cMethO_eq, I.mMake_eq, I.cMkK_eq, I.sSetA_eq, I.sAugA_eq, I.bLenO_eq, I.sFrz_eq, I.cRepL_eq, I.mRev_eq, I.iRg3_eq, I.cCall0_eq, I.bListN_eq, I.mRepL_eq, I.mRg3_eq, I.gMulJ_eq] at *
  exact R.gGe h
theorem gNeg {i : Int} (h : P (.int (-i)) μ) : OkI (I.gNeg (.int i) μ) P E := by
  simp only [OkI_eq, I.cVar_eq, I.cK_eq, I.c1_eq, I.c2_eq, I.cN_eq, I.aNil_eq, I.aCons_eq, I.aStar_eq, I.cTest_eq, I.cTru_eq, I.cAnd_eq, I.cOr_eq, I.cNot_eq, I.cYes_eq, I.cIf_eq, I.cAndT_eq, I.cOrT_eq, I.cNotT_eq, I.cChain_eq, I.cCall_eq, I.cSlice_eq, I.oNone_eq, I.oSome_eq, I.cKw_eq, I.cMeth_eq, I.cRgL1_eq, I.cRgL2_eq, I.iSeq_eq, I.iRg1_eq, I.iRg2_eq, I.iZp_eq, I.iEn_eq, I.cLc_eq, I.cLc2_eq, I.lcT_eq, I.sNil_eq, I.sPass_eq, I.sBreak_eq, I.sCont_eq, I.sBad_eq, I.sRetN_eq, I.sSeq_eq, I.sExpr_eq, I.sRet_eq, I.sSet_eq, I.sIf_eq, I.sAsg_eq, I.sStore_eq, I.sPar_eq, I.sPar3_eq, I.sAug_eq, I.sFor_eq, I.stp_eq, I.fnD_eq, I.gIxD_eq, I.gAdd_eq, I.gSub_eq, I.gMulI_eq, I.gFdiv_eq, I.gMod_eq, I.gPow_eq, I.gLt_eq, I.gLe_eq, I.gGt_eq, I.gGe_eq, I.gNeg_eq, I.gEqD_eq, I.gIs_eq, I.gIsNot_eq, I.bLen_eq, I.bInt_eq, I.bTuple_eq, I.bListD_eq, I.mTup_eq, I.mLst_eq, I.mNew_eq, I.mSeq_eq, I.mTru_eq, I.mCut_eq, I.mPut_eq, I.bAll_eq, I.bAny_eq, I.bSum_eq, I.bSorted_eq, I.bMax_eq, I.bMin_eq, I.kMM_eq, I.bIsi_eq, I.mIt_eq, I.mEnu_eq, I.mZip_eq, I.forL_eq, I.whileL_eq, I.lcL_eq, I.lcO_eq, I.lcB2_eq, I.cDisp_eq, I.gIn_eq, I.mUpd_eq, I.mApp_eq, I.mAttr_eq, I.cMethO_eq, I.mMake_eq, I.cMkK_eq, I.sSetA_eq, I.sAugA_eq, I.bLenO_eq, I.sFrz_eq, I.cRepL_eq, I.mRev_eq, I.iRg3_eq, I.cCall0_eq, I.bListN_eq, I.mRepL_eq, I.mRg3_eq, I.gMulJ_eq] at *
  exact R.gNeg h
theorem eqI {neg : Bool} {i j : Int} (h : P (.bl (if neg then !decide (i = j) else decide (i = j))) μ) : OkI (I.gEqD neg (.int i) (.int j) μ) P E := by
  simp only [OkI_eq, I.cVar_eq, I.cK_eq, I.c1_eq, I.c2_eq, I.cN_eq, I.aNil_eq, I.aCons_eq, I.aStar_eq, I.cTest_eq, I.cTru_eq, I.cAnd_eq, I.cOr_eq, I.cNot_eq, I.cYes_eq, I.cIf_eq, I.cAndT_eq, I.cOrT_eq, I.cNotT_eq, I.cChain_eq, I.cCall_eq, I.cSlice_eq, I.oNone_eq, I.oSome_eq, I.cKw_eq, I.cMeth_eq, I.cRgL1_eq, I.cRgL2_eq, I.iSeq_eq, I.iRg1_eq, I.iRg2_eq, I.iZp_eq, I.iEn_eq, I.cLc_eq, I.cLc2_eq, I.lcT_eq, I.sNil_eq, I.sPass_eq, I.sBreak_eq, I.sCont_eq, I.sBad_eq, I.sRetN_eq, I.sSeq_eq, I.sExpr_eq, I.sRet_eq, I.sSet_eq, I.sIf_eq, I.sAsg_eq, I.sStore_eq, I.sPar_eq, I.sPar3_eq, I.sAug_eq, I.sFor_eq, I.stp_eq, I.fnD_eq, I.gIxD_eq, I.gAdd_eq, I.gSub_eq, I.gMulI_eq, I.gFdiv_eq, I.gMod_eq, I.gPow_eq, I.gLt_eq, I.gLe_eq, I.gGt_eq, I.gGe_eq, I.gNeg_eq, I.gEqD_eq, I.gIs_eq, I.gIsNot_eq, I.bLen_eq, I.bInt_eq, I.bTuple_eq, I.bListD_eq, I.mTup_eq, I.mLst_eq, I.mNew_eq, I.mSeq_eq, I.mTru_eq, I.mCut_eq, I.mPut_eq, I.bAll_eq, I.bAny_eq, I.bSum_eq, I.bSorted_eq, I.bMax_eq, I.bMin_eq, I.kMM_eq, I.bIsi_eq, I.mIt_eq, I.mEnu_eq, I.mZip_eq, I.forL_eq, I.whileL_eq, I.lcL_eq, I.lcO_eq, I.lcB2_eq, I.cDisp_eq, I.gIn_eq, I.mUpd_eq, I.mApp_eq, I.mAttr_eq, I.cMethO_eq, I.mMake_eq, I.cMkK_eq, I.sSetA_eq, I.sAugA_eq, I.bLenO_eq, I.sFrz_eq, I.cRepL_eq, I.mRev_eq, I.iRg3_eq, I.cCall0_eq, I.bListN_eq, I.mRepL_eq, I.mRg3_eq, I.gMulJ_eq] at *
  exact R.eqI h
theorem eqD {neg : Bool} {x y : T} {n : Nat} (hn : n ≤ 64) (hx : dat n x = true) (hy : dat n y = true) (h : P (.bl (if neg then !decide (x = y) else decide (x = y))) μ) : OkI (I.gEqD neg x y μ) P E := by
  simp only [OkI_eq, I.cVar_eq, I.cK_eq, I.c1_eq, I.c2_eq, I.cN_eq, I.aNil_eq, I.aCons_eq, I.aStar_eq, I.cTest_eq, I.cTru_eq, I.cAnd_eq, I.cOr_eq, I.cNot_eq, I.cYes_eq, I.cIf_eq, I.cAndT_eq, I.cOrT_eq, I.cNotT_eq, I.cChain_eq, I.cCall_eq, I.cSlice_eq, I.oNone_eq, I.oSome_eq, I.cKw_eq, I.cMeth_eq, I.cRgL1_eq, I.cRgL2_eq, I.iSeq_eq, I.iRg1_eq, I.iRg2_eq, I.iZp_eq, I.iEn_eq, I.cLc_eq, I.cLc2_eq, I.lcT_eq, I.sNil_eq, I.sPass_eq, I.sBreak_eq, I.sCont_eq, I.sBad_eq, I.sRetN_eq, I.sSeq_eq, I.sExpr_eq, I.sRet_eq, I.sSet_eq, I.sIf_eq, I.sAsg_eq, I.sStore_eq, I.sPar_eq, I.sPar3_eq, I.sAug_eq, I.sFor_eq, I.stp_eq, I.fnD_eq, I.gIxD_eq, I.gAdd_eq, I.gSub_eq, I.gMulI_eq, I.gFdiv_eq, I.gMod_eq, I.gPow_eq, I.gLt_eq, I.gLe_eq, I.gGt_eq, I.gGe_eq, I.gNeg_eq, I.gEqD_eq, I.gIs_eq, I.gIsNot_eq, I.bLen_eq, I.bInt_eq, I.bTuple_eq, I.bListD_eq, I.mTup_eq, I.mLst_eq, I.mNew_eq, I.mSeq_eq, I.mTru_eq, I.mCut_eq, I.mPut_eq, I.bAll_eq, I.bAny_eq, I.bSum_eq, I.bSorted_eq, I.bMax_eq, I.bMin_eq, I.kMM_eq, I.bIsi_eq, I.mIt_eq, I.mEnu_eq, I.mZip_eq, I.forL_eq, I.whileL_eq, I.lcL_eq, I.lcO_eq, I.lcB2_eq, I.cDisp_eq, I.gIn_eq, I.mUpd_eq, I.mApp_eq, I.mAttr_eq, I.cMethO_eq, I.mMake_eq, I.cMkK_eq, I.sSetA_eq, I.sAugA_eq, I.bLenO_eq, I.sFrz_eq, I.cRepL_eq, I.mRev_eq, I.iRg3_eq, I.cCall0_eq, I.bListN_eq, I.mRepL_eq, I.mRg3_eq, I.gMulJ_eq] at *
  exact R.eqD hn hx hy h
theorem eqI0 {i j : Int} (h : P (.bl (decide (i = j))) μ) : OkI (I.gEqD false (.int i) (.int j) μ) P E := by
  simp only [OkI_eq, I.cVar_eq, I.cK_eq, I.c1_eq, I.c2_eq, I.cN_eq, I.aNil_eq, I.aCons_eq, I.aStar_eq, I.cTest_eq, I.cTru_eq, I.cAnd_eq, I.cOr_eq, I.cNot_eq, I.cYes_eq, I.cIf_eq, I.cAndT_eq, I.cOrT_eq, I.cNotT_eq, I.cChain_eq, I.cCall_eq, I.cSlice_eq, I.oNone_eq, I.oSome_eq, I.cKw_eq, I.cMeth_eq, I.cRgL1_eq, I.cRgL2_eq, I.iSeq_eq, I.iRg1_eq, I.iRg2_eq, I.iZp_eq, I.iEn_eq, I.cLc_eq, I.cLc2_eq, I.lcT_eq, I.sNil_eq, I.sPass_eq, I.sBreak_eq, I.sCont_eq, I.sBad_eq, I.sRetN_eq, I.sSeq_eq, I.sExpr_eq, I.sRet_eq, I.sSet_eq, I.sIf_eq, I.sAsg_eq, I.sStore_eq, I.sPar_eq, I.sPar3_eq, I.sAug_eq, I.sFor_eq, I.stp_eq, I.fnD_eq, I.gIxD_eq, I.gAdd_eq, I.gSub_eq, I.gMulI_eq, I.gFdiv_eq, I.gMod_eq, I.gPow_eq, I.gLt_eq, I.gLe_eq, I.gGt_eq, I.gGe_eq, I.gNeg_eq, I.gEqD_eq, I.gIs_eq, I.gIsNot_eq, I.bLen_eq, I.bInt_eq, I.bTuple_eq, I.bListD_eq, I.mTup_eq, I.mLst_eq, I.mNew_eq, I.mSeq_eq, I.mTru_eq, I.mCut_eq, I.mPut_eq, I.bAll_eq, I.bAny_eq, I.bSum_eq, I.bSorted_eq, I.bMax_eq, I.bMin_eq, I.kMM_eq, I.bIsi_eq, I.mIt_eq, I.mEnu_eq, I.mZip_eq, I.forL_eq, I.whileL_eq, I.lcL_eq, I.lcO_eq, I.lcB2_eq, I.cDisp_eq, I.gIn_eq, I.mUpd_eq, I.mApp_eq, I.mAttr_eq, I.cMethO_eq, I.mMake_eq, I.cMkK_eq, I.sSetA_eq, I.sAugA_eq, I.bLenO_eq, I.sFrz_eq, I.cRepL_eq, I.mRev_eq, I.iRg3_eq, I.cCall0_eq, I.bListN_eq, I.mRepL_eq, I.mRg3_eq, I.gMulJ_eq] at *
  exact R.eqI0 h
theorem eqI1 {i j : Int} (h : P (.bl (!decide (i = j))) μ) : OkI (I.gEqD true (.int i) (.int j) μ) P E := by
  simp only [OkI_eq, I.cVar_eq, I.cK_eq, I.c1_eq, I.c2_eq, I.cN_eq, I.aNil_eq, I.aCons_eq, I.aStar_eq, I.cTest_eq, I.cTru_eq, I.cAnd_eq, I.cOr_eq, I.cNot_eq, I.cYes_eq, I.cIf_eq, I.cAndT_eq, I.cOrT_eq, I.cNotT_eq, I.cChain_eq, I.cCall_eq, I.cSlice_eq, I.oNone_eq, I.oSome_eq, I.cKw_eq, I.cMeth_eq, I.cRgL1_eq, I.cRgL2_eq, I.iSeq_eq, I.iRg1_eq, I.iRg2_eq, I.iZp_eq, I.iEn_eq, I.cLc_eq, I.cLc2_eq, I.lcT_eq, I.sNil_eq, I.sPass_eq, I.sBreak_eq, I.sCont_eq, I.sBad_eq, I.sRetN_eq, I.sSeq_eq, I.sExpr_eq, I.sRet_eq, I.sSet_eq, I.sIf_eq, I.sAsg_eq, I.sStore_eq, I.sPar_eq, I.sPar3_eq, I.sAug_eq, I.sFor_eq, I.stp_eq, I.fnD_eq, I.gIxD_eq, I.gAdd_eq, I.gSub_eq, I.gMulI_eq, I.gFdiv_eq, I.gMod_eq, I.gPow_eq, I.gLt_eq, I.gLe_eq, I.gGt_eq, I.gGe_eq, I.gNeg_eq, I.gEqD_eq, I.gIs_eq, I.gIsNot_eq, I.bLen_eq, I.bInt_eq, I.bTuple_eq, I.bListD_eq, I.mTup_eq, I.mLst_eq, I.mNew_eq, I.mSeq_eq, I.mTru_eq, I.mCut_eq, I.mPut_eq, I.bAll_eq, I.bAny_eq, I.bSum_eq, I.bSorted_eq, I.bMax_eq, I.bMin_eq, I.kMM_eq, I.bIsi_eq, I.mIt_eq, I.mEnu_eq, I.mZip_eq, I.forL_eq, I.whileL_eq, I.lcL_eq, I.lcO_eq, I.lcB2_eq, I.cDisp_eq, I.gIn_eq, I.mUpd_eq, I.mApp_eq, I.mAttr_eq, I.cMethO_eq, I.mMake_eq, I.cMkK_eq, I.sSetA_eq, I.sAugA_eq, I.bLenO_eq, I.sFrz_eq, I.cRepL_eq, I.mRev_eq, I.iRg3_eq, I.cCall0_eq, I.bListN_eq, I.mRepL_eq, I.mRg3_eq, I.gMulJ_eq] at *
  exact R.eqI1 h
theorem eqD0 {x y : T} {n : Nat} (hn : n ≤ 64) (hx : dat n x = true) (hy : dat n y = true) (h : P (.bl (decide (x = y))) μ) : OkI (I.gEqD false x y μ) P E := by
  simp only [OkI_eq, I.cVar_eq, I.cK_eq, I.c1_eq, I.c2_eq, I.cN_eq, I.aNil_eq, I.aCons_eq, I.aStar_eq, I.cTest_eq, I.cTru_eq, I.cAnd_eq, I.cOr_eq, I.cNot_eq, I.cYes_eq, I.cIf_eq, I.cAndT_eq, I.cOrT_eq, I.cNotT_eq, I.cChain_eq, I.cCall_eq, I.cSlice_eq, I.oNone_eq, I.oSome_eq, I.cKw_eq, I.cMeth_eq, I.cRgL1_eq, I.cRgL2_eq, I.iSeq_eq, I.iRg1_eq, I.iRg2_eq, I.iZp_eq, I.iEn_eq, I.cLc_eq, I.cLc2_eq, I.lcT_eq, I.sNil_eq, I.sPass_eq, I.sBreak_eq, I.sCont_eq, I.sBad_eq, I.sRetN_eq, I.sSeq_eq, I.sExpr_eq, I.sRet_eq, I.sSet_eq, I.sIf_eq, I.sAsg_eq, I.sStore_eq, I.sPar_eq, I.sPar3_eq, I.sAug_eq, I.sFor_eq, I.stp_eq, I.fnD_eq, I.gIxD_eq, I.gAdd_eq, I.gSub_eq, I.gMulI_eq, I.gFdiv_eq, I.gMod_eq, I.gPow_eq, I.gLt_eq, I.gLe_eq, I.gGt_eq, I.gGe_eq, I.gNeg_eq, I.gEqD_eq, I.gIs_eq, I.gIsNot_eq, I.bLen_eq, I.bInt_eq, I.bTuple_eq, I.bListD_eq, I.mTup_eq, I.mLst_eq, I.mNew_eq, I.mSeq_eq, I.mTru_eq, I.mCut_eq, I.mPut_eq, I.bAll_eq, I.bAny_eq, I.bSum_eq, I.bSorted_eq, I.bMax_eq, I.bMin_eq, I.kMM_eq, I.bIsi_eq, I.mIt_eq, I.mEnu_eq, I.mZip_eq, I.forL_eq, I.whileL_eq, I.lcL_eq, I.lcO_eq, I.lcB2_eq, I.cDisp_eq, I.gIn_eq, I.mUpd_eq, I.mApp_eq, I.mAttr_eq, I.cMethO_eq, I.mMake_eq, I.cMkK_eq, I.sSetA_eq, I.sAugA_eq, I.bLenO_eq, I.sFrz_eq, I.cRepL_eq, I.mRev_eq, I.iRg3_eq, I.cCall0_eq, I.bListN_eq, I.mRepL_eq, I.mRg3_eq, I.gMulJ_eq] at *
  exact R.eqD0 hn hx hy h
theorem eqD1 {x y : T} {n : Nat} (hn : n ≤ 64) (hx : dat n x = true) (hy : dat n y = true) (h : P (.bl (!decide (x = y))) μ) : OkI (I.gEqD true x y μ) P E := by
  simp only [OkI_eq, I.cVar_eq, I.cK_eq, I.c1_eq, I.c2_eq, I.cN_eq, I.aNil_eq, I.aCons_eq, I.aStar_eq, I.cTest_eq, I.cTru_eq, I.cAnd_eq, I.cOr_eq, I.cNot_eq, I.cYes_eq, I.cIf_eq, I.cAndT_eq, I.cOrT_eq, I.cNotT_eq, I.cChain_eq, I.cCall_eq, I.cSlice_eq, I.oNone_eq, I.oSome_eq, I.cKw_eq, I.cMeth_eq, I.cRgL1_eq, I.cRgL2_eq, I.iSeq_eq, I.iRg1_eq, I.iRg2_eq, I.iZp_eq, I.iEn_eq, I.cLc_eq, I.cLc2_eq, I.lcT_eq, I.sNil_eq, I.sPass_eq, I.sBreak_eq, I.sCont_eq, I.sBad_eq, I.sRetN_eq, I.sSeq_eq, I.sExpr_eq, I.sRet_eq, I.sSet_eq, I.sIf_eq, I.sAsg_eq, I.sStore_eq, I.sPar_eq, I.sPar3_eq, I.sAug_eq, I.sFor_eq, I.stp_eq, I.fnD_eq, I.gIxD_eq, I.gAdd_eq, I.gSub_eq, I.gMulI_eq, I.gFdiv_eq, I.gMod_eq, I.gPow_eq, I.gLt_eq, I.gLe_eq, I.gGt_eq, I.gGe_eq, I.gNeg_eq, I.gEqD_eq, I.gIs_eq, I.gIsNot_eq, I.bLen_eq, I.bInt_eq, I.bTuple_eq, I.bListD_eq, I.mTup_eq, I.mLst_eq, I.mNew_eq, I.mSeq_eq, I.mTru_eq, I.mCut_eq, I.mPut_eq, I.bAll_eq, I.bAny_eq, I.bSum_eq, I.bSorted_eq, I.bMax_eq, I.bMin_eq, I.kMM_eq, I.bIsi_eq, I.mIt_eq, I.mEnu_eq, I.mZip_eq, I.forL_eq, I.whileL_eq, I.lcL_eq, I.lcO_eq, I.lcB2_eq, I.cDisp_eq, I.gIn_eq, I.mUpd_eq, I.mApp_eq, I.mAttr_eq, I.cMethO_eq, I.mMake_eq, I.cMkK_eq, I.sSetA_eq, I.sAugA_eq, I.bLenO_eq, I.sFrz_eq, I.cRepL_eq, I.mRev_eq, I.iRg3_eq, I.cCall0_eq, I.bListN_eq, I.mRepL_eq, I.mRg3_eq, I.gMulJ_eq] at *
  exact R.eqD1 hn hx hy h
theorem bLenT {ts : List T} (h : P (.int ts.length) μ) : OkI (I.bLen [.tup ts] μ) P E := by
  simp only [OkI_eq, I.cVar_eq, I.cK_eq, I.c1_eq, I.c2_eq, I.cN_eq, I.aNil_eq, I.aCons_eq, I.aStar_eq, I.cTest_eq, I.cTru_eq, I.cAnd_eq, I.cOr_eq, I.cNot_eq, I.cYes_eq, I.cIf_eq, I.cAndT_eq, I.cOrT_eq, I.cNotT_eq, I.cChain_eq, I.cCall_eq, I.cSlice_eq, I.oNone_eq, I.oSome_eq, I.cKw_eq, I.cMeth_eq, I.cRgL1_eq, I.cRgL2_eq, I.iSeq_eq, I.iRg1_eq, I.iRg2_eq, I.iZp_eq, I.iEn_eq, I.cLc_eq, I.cLc2_eq, I.lcT_eq, I.sNil_eq, I.sPass_eq, I.sBreak_eq, I.sCont_eq, I.sBad_eq, I.sRetN_eq, I.sSeq_eq, I.sExpr_eq, I.sRet_eq, I.sSet_eq, I.sIf_eq, I.sAsg_eq, I.sStore_eq, I.sPar_eq, I.sPar3_eq, I.sAug_eq, I.sFor_eq, I.stp_eq, I.fnD_eq, I.gIxD_eq, I.gAdd_eq, I.gSub_eq, I.gMulI_eq, I.gFdiv_eq, I.gMod_eq, I.gPow_eq, I.gLt_eq, I.gLe_eq, I.gGt_eq, I.gGe_eq, I.gNeg_eq, I.gEqD_eq, I.gIs_eq, I.gIsNot_eq, I.bLen_eq, I.bInt_eq, I.bTuple_eq, I.bListD_eq, I.mTup_eq, I.mLst_eq, I.mNew_eq, I.mSeq_eq, I.mTru_eq, I.mCut_eq, I.mPut_eq, I.bAll_eq, I.bAny_eq, I.bSum_eq, I.bSorted_eq, I.bMax_eq, I.bMin_eq, I.kMM_eq, I.bIsi_eq, I.mIt_eq, I.mEnu_eq, I.mZip_eq, I.forL_eq, I.whileL_eq, I.lcL_eq, I.lcO_eq, I.lcB2_eq, I.cDisp_eq, I.gIn_eq, I.mUpd_eq, I.mApp_eq, I.mAttr_eq, I.cMethO_eq, I.mMake_eq, I.cMkK_eq, I.sSetA_eq, I.sAugA_eq, I.bLenO_eq, I.sFrz_eq, I.cRepL_eq, I.mRev_eq, I.iRg3_eq, I.cCall0_eq, I.bListN_eq, I.mRepL_eq, I.mRg3_eq, I.gMulJ_eq] at *
  exact R.bLenT h
theorem bLenL {ts : List T} (h : P (.int ts.length) μ) : OkI (I.bLen [.lst ts] μ) P E := by
  simp only [OkI_eq, I.cVar_eq, I.cK_eq, I.c1_eq, I.c2_eq, I.cN_eq, I.aNil_eq, I.aCons_eq, I.aStar_eq, I.cTest_eq, I.cTru_eq, I.cAnd_eq, I.cOr_eq, I.cNot_eq, I.cYes_eq, I.cIf_eq, I.cAndT_eq, I.cOrT_eq, I.cNotT_eq, I.cChain_eq, I.cCall_eq, I.cSlice_eq, I.oNone_eq, I.oSome_eq, I.cKw_eq, I.cMeth_eq, I.cRgL1_eq, I.cRgL2_eq, I.iSeq_eq, I.iRg1_eq, I.iRg2_eq, I.iZp_eq, I.iEn_eq, I.cLc_eq, I.cLc2_eq, I.lcT_eq, I.sNil_eq, I.sPass_eq, I.sBreak_eq, I.sCont_eq, I.sBad_eq, I.sRetN_eq, I.sSeq_eq, I.sExpr_eq, I.sRet_eq, I.sSet_eq, I.sIf_eq, I.sAsg_eq, I.sStore_eq, I.sPar_eq, I.sPar3_eq, I.sAug_eq, I.sFor_eq, I.stp_eq, I.fnD_eq, I.gIxD_eq, I.gAdd_eq, I.gSub_eq, I.gMulI_eq, I.gFdiv_eq, I.gMod_eq, I.gPow_eq, I.gLt_eq, I.gLe_eq, I.gGt_eq, I.gGe_eq, I.gNeg_eq, I.gEqD_eq, I.gIs_eq, I.gIsNot_eq, I.bLen_eq, I.bInt_eq, I.bTuple_eq, I.bListD_eq, I.mTup_eq, I.mLst_eq, I.mNew_eq, I.mSeq_eq, I.mTru_eq, I.mCut_eq, I.mPut_eq, I.bAll_eq, I.bAny_eq, I.bSum_eq, I.bSorted_eq, I.bMax_eq, I.bMin_eq, I.kMM_eq, I.bIsi_eq, I.mIt_eq, I.mEnu_eq, I.mZip_eq, I.forL_eq, I.whileL_eq, I.lcL_eq, I.lcO_eq, I.lcB2_eq, I.cDisp_eq, I.gIn_eq, I.mUpd_eq, I.mApp_eq, I.mAttr_eq, I.cMethO_eq, I.mMake_eq, I.cMkK_eq, I.sSetA_eq, I.sAugA_eq, I.bLenO_eq, I.sFrz_eq, I.cRepL_eq, I.mRev_eq, I.iRg3_eq, I.cCall0_eq, I.bListN_eq, I.mRepL_eq, I.mRg3_eq, I.gMulJ_eq] at *
  exact R.bLenL h
theorem bLenS {ts : List T} (h : P (.int ts.length) μ) : OkI (I.bLen [.scr ts] μ) P E := by
  simp only [OkI_eq, I.cVar_eq, I.cK_eq, I.c1_eq, I.c2_eq, I.cN_eq, I.aNil_eq, I.aCons_eq, I.aStar_eq, I.cTest_eq, I.cTru_eq, I.cAnd_eq, I.cOr_eq, I.cNot_eq, I.cYes_eq, I.cIf_eq, I.cAndT_eq, I.cOrT_eq, I.cNotT_eq, I.cChain_eq, I.cCall_eq, I.cSlice_eq, I.oNone_eq, I.oSome_eq, I.cKw_eq, I.cMeth_eq, I.cRgL1_eq, I.cRgL2_eq, I.iSeq_eq, I.iRg1_eq, I.iRg2_eq, I.iZp_eq, I.iEn_eq, I.cLc_eq, I.cLc2_eq, I.lcT_eq, I.sNil_eq, I.sPass_eq, I.sBreak_eq, I.sCont_eq, I.sBad_eq, I.sRetN_eq, I.sSeq_eq, I.sExpr_eq, I.sRet_eq, I.sSet_eq, I.sIf_eq, I.sAsg_eq, I.sStore_eq, I.sPar_eq, I.sPar3_eq, I.sAug_eq, I.sFor_eq, I.stp_eq, I.fnD_eq, I.gIxD_eq, I.gAdd_eq, I.gSub_eq, I.gMulI_eq, I.gFdiv_eq, I.gMod_eq, I.gPow_eq, I.gLt_eq, I.gLe_eq, I.gGt_eq, I.gGe_eq, I.gNeg_eq, I.gEqD_eq, I.gIs_eq, I.gIsNot_eq, I.bLen_eq, I.bInt_eq, I.bTuple_eq, I.bListD_eq, I.mTup_eq, I.mLst_eq, I.mNew_eq, I.mSeq_eq, I.mTru_eq, I.mCut_eq, I.mPut_eq, I.bAll_eq, I.bAny_eq, I.bSum_eq, I.bSorted_eq, I.bMax_eq, I.bMin_eq, I.kMM_eq, I.bIsi_eq, I.mIt_eq, I.mEnu_eq, I.mZip_eq, I.forL_eq, I.whileL_eq, I.lcL_eq, I.lcO_eq, I.lcB2_eq, I.cDisp_eq, I.gIn_eq, I.mUpd_eq, I.mApp_eq, I.mAttr_eq, I.cMethO_eq, I.mMake_eq, I.cMkK_eq, I.sSetA_eq, I.sAugA_eq, I.bLenO_eq, I.sFrz_eq, I.cRepL_eq, I.mRev_eq, I.iRg3_eq, I.cCall0_eq, I.bListN_eq, I.mRepL_eq, I.mRg3_eq, I.gMulJ_eq] at *
  exact R.bLenS h
theorem bLenO {n : Nat} {ts : List T} (hm : μ[n]? = some (some (.lst ts))) (h : P (.int ts.length) μ) : OkI (I.bLen [.obj n] μ) P E := by
  simp only [OkI_eq, I.cVar_eq, I.cK_eq, I.c1_eq, I.c2_eq, I.cN_eq, I.aNil_eq, I.aCons_eq, I.aStar_eq, I.cTest_eq, I.cTru_eq, I.cAnd_eq, I.cOr_eq, I.cNot_eq, I.cYes_eq, I.cIf_eq, I.cAndT_eq, I.cOrT_eq, I.cNotT_eq, I.cChain_eq, I.cCall_eq, I.cSlice_eq, I.oNone_eq, I.oSome_eq, I.cKw_eq, I.cMeth_eq, I.cRgL1_eq, I.cRgL2_eq, I.iSeq_eq, I.iRg1_eq, I.iRg2_eq, I.iZp_eq, I.iEn_eq, I.cLc_eq, I.cLc2_eq, I.lcT_eq, I.sNil_eq, I.sPass_eq, I.sBreak_eq, I.sCont_eq, I.sBad_eq, I.sRetN_eq, I.sSeq_eq, I.sExpr_eq, I.sRet_eq, I.sSet_eq, I.sIf_eq, I.sAsg_eq, I.sStore_eq, I.sPar_eq, I.sPar3_eq, I.sAug_eq, I.sFor_eq, I.stp_eq, I.fnD_eq, I.gIxD_eq, I.gAdd_eq, I.gSub_eq, I.gMulI_eq, I.gFdiv_eq, I.gMod_eq, I.gPow_eq, I.gLt_eq, I.gLe_eq, I.gGt_eq, I.gGe_eq, I.gNeg_eq, I.gEqD_eq, I.gIs_eq, I.gIsNot_eq, I.bLen_eq, I.bInt_eq, I.bTuple_eq, I.bListD_eq, I.mTup_eq, I.mLst_eq, I.mNew_eq, I.mSeq_eq, I.mTru_eq, I.mCut_eq, I.mPut_eq, I.bAll_eq, I.bAny_eq, I.bSum_eq, I.bSorted_eq, I.bMax_eq, I.bMin_eq, I.kMM_eq, I.bIsi_eq, I.mIt_eq, I.mEnu_eq, I.mZip_eq, I.forL_eq, I.whileL_eq, I.lcL_eq, I.lcO_eq, I.lcB2_eq, I.cDisp_eq, I.gIn_eq, I.mUpd_eq, I.mApp_eq, I.mAttr_eq, I.cMethO_eq, I.mMake_eq, I.cMkK_eq, I.sSetA_eq, I.sAugA_eq, I.bLenO_eq, I.sFrz_eq, I.cRepL_eq, I.mRev_eq, I.iRg3_eq, I.cCall0_eq, I.bListN_eq, I.mRepL_eq, I.mRg3_eq, I.gMulJ_eq] at *
  exact R.bLenO hm h
theorem bInt {i : Int} (h : P (.int i) μ) : OkI (I.bInt [.int i] μ) P E := by
  simp only [OkI_eq, I.cVar_eq, I.cK_eq, I.c1_eq, I.c2_eq, I.cN_eq, I.aNil_eq, I.aCons_eq, I.aStar_eq, I.cTest_eq, I.cTru_eq, I.cAnd_eq, I.cOr_eq, I.cNot_eq, I.cYes_eq, I.cIf_eq, I.cAndT_eq, I.cOrT_eq, I.cNotT_eq, I.cChain_eq, I.cCall_eq, I.cSlice_eq, I.oNone_eq, I.oSome_eq, I.cKw_eq, I.cMeth_eq, I.cRgL1_eq, I.cRgL2_eq, I.iSeq_eq, I.iRg1_eq, I.iRg2_eq, I.iZp_eq, I.iEn_eq, I.cLc_eq, I.cLc2_eq, I.lcT_eq, I.sNil_eq, I.sPass_eq, I.sBreak_eq, I.sCont_eq, I.sBad_eq, I.sRetN_eq, I.sSeq_eq, I.sExpr_eq, I.sRet_eq, I.sSet_eq, I.sIf_eq, I.sAsg_eq, I.sStore_eq, I.sPar_eq, I.sPar3_eq, I.sAug_eq, I.sFor_eq, I.stp_eq, I.fnD_eq, I.gIxD_eq, I.gAdd_eq, I.gSub_eq, I.gMulI_eq, I.gFdiv_eq, I.gMod_eq, I.gPow_eq, I.gLt_eq, I.gLe_eq, I.gGt_eq, I.gGe_eq, I.gNeg_eq, I.gEqD_eq, I.gIs_eq, I.gIsNot_eq, I.bLen_eq, I.bInt_eq, I.bTuple_eq, I.bListD_eq, I.mTup_eq, I.mLst_eq, I.mNew_eq, I.mSeq_eq, I.mTru_eq, I.mCut_eq, I.mPut_eq, I.bAll_eq, I.bAny_eq, I.bSum_eq, I.bSorted_eq, I.bMax_eq, I.bMin_eq, I.kMM_eq, I.bIsi_eq, I.mIt_eq, I.mEnu_eq, I.mZip_eq, I.forL_eq, I.whileL_eq, I.lcL_eq, I.lcO_eq, I.lcB2_eq, I.cDisp_eq, I.gIn_eq, I.mUpd_eq, I.mApp_eq, I.mAttr_eq, I.cMethO_eq, I.mMake_eq, I.cMkK_eq, I.sSetA_eq, I.sAugA_eq, I.bLenO_eq, I.sFrz_eq, I.cRepL_eq, I.mRev_eq, I.iRg3_eq, I.cCall0_eq, I.bListN_eq, I.mRepL_eq, I.mRg3_eq, I.gMulJ_eq] at *
  exact R.bInt h
theorem bIntB {k : Bool} (h : P (.int (if k then 1 else 0)) μ) : OkI (I.bInt [.bl k] μ) P E := by
  simp only [OkI_eq, I.cVar_eq, I.cK_eq, I.c1_eq, I.c2_eq, I.cN_eq, I.aNil_eq, I.aCons_eq, I.aStar_eq, I.cTest_eq, I.cTru_eq, I.cAnd_eq, I.cOr_eq, I.cNot_eq, I.cYes_eq, I.cIf_eq, I.cAndT_eq, I.cOrT_eq, I.cNotT_eq, I.cChain_eq, I.cCall_eq, I.cSlice_eq, I.oNone_eq, I.oSome_eq, I.cKw_eq, I.cMeth_eq, I.cRgL1_eq, I.cRgL2_eq, I.iSeq_eq, I.iRg1_eq, I.iRg2_eq, I.iZp_eq, I.iEn_eq, I.cLc_eq, I.cLc2_eq, I.lcT_eq, I.sNil_eq, I.sPass_eq, I.sBreak_eq, I.sCont_eq, I.sBad_eq, I.sRetN_eq, I.sSeq_eq, I.sExpr_eq, I.sRet_eq, I.sSet_eq, I.sIf_eq, I.sAsg_eq, I.sStore_eq, I.sPar_eq, I.sPar3_eq, I.sAug_eq, I.sFor_eq, I.stp_eq, I.fnD_eq, I.gIxD_eq, I.gAdd_eq, I.gSub_eq, I.gMulI_eq, I.gFdiv_eq, I.gMod_eq, I.gPow_eq, I.gLt_eq, I.gLe_eq, I.gGt_eq, I.gGe_eq, I.gNeg_eq, I.gEqD_eq, I.gIs_eq, I.gIsNot_eq, I.bLen_eq, I.bInt_eq, I.bTuple_eq, I.bListD_eq, I.mTup_eq, I.mLst_eq, I.mNew_eq, I.mSeq_eq, I.mTru_eq, I.mCut_eq, I.mPut_eq, I.bAll_eq, I.bAny_eq, I.bSum_eq, I.bSorted_eq, I.bMax_eq, I.bMin_eq, I.kMM_eq, I.bIsi_eq, I.mIt_eq, I.mEnu_eq, I.mZip_eq, I.forL_eq, I.whileL_eq, I.lcL_eq, I.lcO_eq, I.lcB2_eq, I.cDisp_eq, I.gIn_eq, I.mUpd_eq, I.mApp_eq, I.mAttr_eq, I.cMethO_eq, I.mMake_eq, I.cMkK_eq, I.sSetA_eq, I.sAugA_eq, I.bLenO_eq, I.sFrz_eq, I.cRepL_eq, I.mRev_eq, I.iRg3_eq, I.cCall0_eq, I.bListN_eq, I.mRepL_eq, I.mRg3_eq, I.gMulJ_eq] at *
  exact R.bIntB h
theorem bTupL {ts : List T} (h : P (.tup ts) μ) : OkI (I.bTuple [.lst ts] μ) P E := by
  simp only [OkI_eq, I.cVar_eq, I.cK_eq, I.c1_eq, I.c2_eq, I.cN_eq, I.aNil_eq, I.aCons_eq, I.aStar_eq, I.cTest_eq, I.cTru_eq, I.cAnd_eq, I.cOr_eq, I.cNot_eq, I.cYes_eq, I.cIf_eq, I.cAndT_eq, I.cOrT_eq, I.cNotT_eq, I.cChain_eq, I.cCall_eq, I.cSlice_eq, I.oNone_eq, I.oSome_eq, I.cKw_eq, I.cMeth_eq, I.cRgL1_eq, I.cRgL2_eq, I.iSeq_eq, I.iRg1_eq, I.iRg2_eq, I.iZp_eq, I.iEn_eq, I.cLc_eq, I.cLc2_eq, I.lcT_eq, I.sNil_eq, I.sPass_eq, I.sBreak_eq, I.sCont_eq, I.sBad_eq, I.sRetN_eq, I.sSeq_eq, I.sExpr_eq, I.sRet_eq, I.sSet_eq, I.sIf_eq, I.sAsg_eq, I.sStore_eq, I.sPar_eq, I.sPar3_eq, I.sAug_eq, I.sFor_eq, I.stp_eq, I.fnD_eq, I.gIxD_eq, I.gAdd_eq, I.gSub_eq, I.gMulI_eq, I.gFdiv_eq, I.gMod_eq, I.gPow_eq, I.gLt_eq, I.gLe_eq, I.gGt_eq, I.gGe_eq, I.gNeg_eq, I.gEqD_eq, I.gIs_eq, I.gIsNot_eq, I.bLen_eq, I.bInt_eq, I.bTuple_eq, I.bListD_eq, I.mTup_eq, I.mLst_eq, I.mNew_eq, I.mSeq_eq, I.mTru_eq, I.mCut_eq, I.mPut_eq, I.bAll_eq, I.bAny_eq, I.bSum_eq, I.bSorted_eq, I.bMax_eq, I.bMin_eq, I.kMM_eq, I.bIsi_eq, I.mIt_eq, I.mEnu_eq, I.mZip_eq, I.forL_eq, I.whileL_eq, I.lcL_eq, I.lcO_eq, I.lcB2_eq, I.cDisp_eq, I.gIn_eq, I.mUpd_eq, I.mApp_eq, I.mAttr_eq, I.cMethO_eq, I.mMake_eq, I.cMkK_eq, I.sSetA_eq, I.sAugA_eq, I.bLenO_eq, I.sFrz_eq, I.cRepL_eq, I.mRev_eq, I.iRg3_eq, I.cCall0_eq, I.bListN_eq, I.mRepL_eq, I.mRg3_eq, I.gMulJ_eq] at *
  exact R.bTupL h
theorem bTupT {ts : List T} (h : P (.tup ts) μ) : OkI (I.bTuple [.tup ts] μ) P E := by
  simp only [OkI_eq, I.cVar_eq, I.cK_eq, I.c1_eq, I.c2_eq, I.cN_eq, I.aNil_eq, I.aCons_eq, I.aStar_eq, I.cTest_eq, I.cTru_eq, I.cAnd_eq, I.cOr_eq, I.cNot_eq, I.cYes_eq, I.cIf_eq, I.cAndT_eq, I.cOrT_eq, I.cNotT_eq, I.cChain_eq, I.cCall_eq, I.cSlice_eq, I.oNone_eq, I.oSome_eq, I.cKw_eq, I.cMeth_eq, I.cRgL1_eq, I.cRgL2_eq, I.iSeq_eq, I.iRg1_eq, I.iRg2_eq, I.iZp_eq, I.iEn_eq, I.cLc_eq, I.cLc2_eq, I.lcT_eq, I.sNil_eq, I.sPass_eq, I.sBreak_eq, I.sCont_eq, I.sBad_eq, I.sRetN_eq, I.sSeq_eq, I.sExpr_eq, I.sRet_eq, I.sSet_eq, I.sIf_eq, I.sAsg_eq, I.sStore_eq, I.sPar_eq, I.sPar3_eq, I.sAug_eq, I.sFor_eq, I.stp_eq, I.fnD_eq, I.gIxD_eq, I.gAdd_eq, I.gSub_eq, I.gMulI_eq, I.gFdiv_eq, I.gMod_eq, I.gPow_eq, I.gLt_eq, I.gLe_eq, I.gGt_eq, I.gGe_eq, I.gNeg_eq, I.gEqD_eq, I.gIs_eq, I.gIsNot_eq, I.bLen_eq, I.bInt_eq, I.bTuple_eq, I.bListD_eq, I.mTup_eq, I.mLst_eq, I.mNew_eq, I.mSeq_eq, I.mTru_eq, I.mCut_eq, I.mPut_eq, I.bAll_eq, I.bAny_eq, I.bSum_eq, I.bSorted_eq, I.bMax_eq, I.bMin_eq, I.kMM_eq, I.bIsi_eq, I.mIt_eq, I.mEnu_eq, I.mZip_eq, I.forL_eq, I.whileL_eq, I.lcL_eq, I.lcO_eq, I.lcB2_eq, I.cDisp_eq, I.gIn_eq, I.mUpd_eq, I.mApp_eq, I.mAttr_eq, I.cMethO_eq, I.mMake_eq, I.cMkK_eq, I.sSetA_eq, I.sAugA_eq, I.bLenO_eq, I.sFrz_eq, I.cRepL_eq, I.mRev_eq, I.iRg3_eq, I.cCall0_eq, I.bListN_eq, I.mRepL_eq, I.mRg3_eq, I.gMulJ_eq] at *
  exact R.bTupT h
theorem bLstT {ts : List T} (h : P (.lst ts) μ) : OkI (I.bListD [.tup ts] μ) P E := by
  simp only [OkI_eq, I.cVar_eq, I.cK_eq, I.c1_eq, I.c2_eq, I.cN_eq, I.aNil_eq, I.aCons_eq, I.aStar_eq, I.cTest_eq, I.cTru_eq, I.cAnd_eq, I.cOr_eq, I.cNot_eq, I.cYes_eq, I.cIf_eq, I.cAndT_eq, I.cOrT_eq, I.cNotT_eq, I.cChain_eq, I.cCall_eq, I.cSlice_eq, I.oNone_eq, I.oSome_eq, I.cKw_eq, I.cMeth_eq, I.cRgL1_eq, I.cRgL2_eq, I.iSeq_eq, I.iRg1_eq, I.iRg2_eq, I.iZp_eq, I.iEn_eq, I.cLc_eq, I.cLc2_eq, I.lcT_eq, I.sNil_eq, I.sPass_eq, I.sBreak_eq, I.sCont_eq, I.sBad_eq, I.sRetN_eq, I.sSeq_eq, I.sExpr_eq, I.sRet_eq, I.sSet_eq, I.sIf_eq, I.sAsg_eq, I.sStore_eq, I.sPar_eq, I.sPar3_eq, I.sAug_eq, I.sFor_eq, I.stp_eq, I.fnD_eq, I.gIxD_eq, I.gAdd_eq, I.gSub_eq, I.gMulI_eq, I.gFdiv_eq, I.gMod_eq, I.gPow_eq, I.gLt_eq, I.gLe_eq, I.gGt_eq, I.gGe_eq, I.gNeg_eq, I.gEqD_eq, I.gIs_eq, I.gIsNot_eq, I.bLen_eq, I.bInt_eq, I.bTuple_eq, I.bListD_eq, I.mTup_eq, I.mLst_eq, I.mNew_eq, I.mSeq_eq, I.mTru_eq, I.mCut_eq, I.mPut_eq, I.bAll_eq, I.bAny_eq, I.bSum_eq, I.bSorted_eq, I.bMax_eq, I.bMin_eq, I.kMM_eq, I.bIsi_eq, I.mIt_eq, I.mEnu_eq, I.mZip_eq, I.forL_eq, I.whileL_eq, I.lcL_eq, I.lcO_eq, I.lcB2_eq, I.cDisp_eq, I.gIn_eq, I.mUpd_eq, I.mApp_eq, I.mAttr_eq, I.cMethO_eq, I.mMake_eq, I.cMkK_eq, I.sSetA_eq, I.sAugA_eq, I.bLenO_eq, I.sFrz_eq, I.cRepL_eq, I.mRev_eq, I.iRg3_eq, I.cCall0_eq, I.bListN_eq, I.mRepL_eq, I.mRg3_eq, I.gMulJ_eq] at *
  exact R.bLstT h
theorem bLstL {ts : List T} (h : P (.lst ts) μ) : OkI (I.bListD [.lst ts] μ) P E := by
  simp only [OkI_eq, I.cVar_eq, I.cK_eq, I.c1_eq, I.c2_eq, I.cN_eq, I.aNil_eq, I.aCons_eq, I.aStar_eq, I.cTest_eq, I.cTru_eq, I.cAnd_eq, I.cOr_eq, I.cNot_eq, I.cYes_eq, I.cIf_eq, I.cAndT_eq, I.cOrT_eq, I.cNotT_eq, I.cChain_eq, I.cCall_eq, I.cSlice_eq, I.oNone_eq, I.oSome_eq, I.cKw_eq, I.cMeth_eq, I.cRgL1_eq, I.cRgL2_eq, I.iSeq_eq, I.iRg1_eq, I.iRg2_eq, I.iZp_eq, I.iEn_eq, I.cLc_eq, I.cLc2_eq, I.lcT_eq, I.sNil_eq, I.sPass_eq, I.sBreak_eq, I.sCont_eq, I.sBad_eq, I.sRetN_eq, I.sSeq_eq, I.sExpr_eq, I.sRet_eq, I.sSet_eq, I.sIf_eq, I.sAsg_eq, I.sStore_eq, I.sPar_eq, I.sPar3_eq, I.sAug_eq, I.sFor_eq, I.stp_eq, I.fnD_eq, I.gIxD_eq, I.gAdd_eq, I.gSub_eq, I.gMulI_eq, I.gFdiv_eq, I.gMod_eq, I.gPow_eq, I.gLt_eq, I.gLe_eq, I.gGt_eq, I.gGe_eq, I.gNeg_eq, I.gEqD_eq, I.gIs_eq, I.gIsNot_eq, I.bLen_eq, I.bInt_eq, I.bTuple_eq, I.bListD_eq, I.mTup_eq, I.mLst_eq, I.mNew_eq, I.mSeq_eq, I.mTru_eq, I.mCut_eq, I.mPut_eq, I.bAll_eq, I.bAny_eq, I.bSum_eq, I.bSorted_eq, I.bMax_eq, I.bMin_eq, I.kMM_eq, I.bIsi_eq, I.mIt_eq, I.mEnu_eq, I.mZip_eq, I.forL_eq, I.whileL_eq, I.lcL_eq, I.lcO_eq, I.lcB2_eq, I.cDisp_eq, I.gIn_eq, I.mUpd_eq, I.mApp_eq, I.mAttr_eq, I.cMethO_eq, I.mMake_eq, I.cMkK_eq, I.sSetA_eq, I.sAugA_eq, I.bLenO_eq, I.sFrz_eq, I.cRepL_eq, I.mRev_eq, I.iRg3_eq, I.cCall0_eq, I.bListN_eq, I.mRepL_eq, I.mRg3_eq, I.gMulJ_eq] at *
  exact R.bLstL h
theorem bLstD {n : Nat} {ks : List Key} {ts : List T} (hm : μ[n]? = some (some (.dic ks ts))) (h : P (.lst (ks.map unKey)) μ) : OkI (I.bListD [.obj n] μ) P E := by
  simp only [OkI_eq, I.cVar_eq, I.cK_eq, I.c1_eq, I.c2_eq, I.cN_eq, I.aNil_eq, I.aCons_eq, I.aStar_eq, I.cTest_eq, I.cTru_eq, I.cAnd_eq, I.cOr_eq, I.cNot_eq, I.cYes_eq, I.cIf_eq, I.cAndT_eq, I.cOrT_eq, I.cNotT_eq, I.cChain_eq, I.cCall_eq, I.cSlice_eq, I.oNone_eq, I.oSome_eq, I.cKw_eq, I.cMeth_eq, I.cRgL1_eq, I.cRgL2_eq, I.iSeq_eq, I.iRg1_eq, I.iRg2_eq, I.iZp_eq, I.iEn_eq, I.cLc_eq, I.cLc2_eq, I.lcT_eq, I.sNil_eq, I.sPass_eq, I.sBreak_eq, I.sCont_eq, I.sBad_eq, I.sRetN_eq, I.sSeq_eq, I.sExpr_eq, I.sRet_eq, I.sSet_eq, I.sIf_eq, I.sAsg_eq, I.sStore_eq, I.sPar_eq, I.sPar3_eq, I.sAug_eq, I.sFor_eq, I.stp_eq, I.fnD_eq, I.gIxD_eq, I.gAdd_eq, I.gSub_eq, I.gMulI_eq, I.gFdiv_eq, I.gMod_eq, I.gPow_eq, I.gLt_eq, I.gLe_eq, I.gGt_eq, I.gGe_eq, I.gNeg_eq, I.gEqD_eq, I.gIs_eq, I.gIsNot_eq, I.bLen_eq, I.bInt_eq, I.bTuple_eq, I.bListD_eq, I.mTup_eq, I.mLst_eq, I.mNew_eq, I.mSeq_eq, I.mTru_eq, I.mCut_eq, I.mPut_eq, I.bAll_eq, I.bAny_eq, I.bSum_eq, I.bSorted_eq, I.bMax_eq, I.bMin_eq, I.kMM_eq, I.bIsi_eq, I.mIt_eq, I.mEnu_eq, I.mZip_eq, I.forL_eq, I.whileL_eq, I.lcL_eq, I.lcO_eq, I.lcB2_eq, I.cDisp_eq, I.gIn_eq, I.mUpd_eq, I.mApp_eq, I.mAttr_eq, I.cMethO_eq, I.mMake_eq, I.cMkK_eq, I.sSetA_eq, I.sAugA_eq, I.bLenO_eq, I.sFrz_eq, I.cRepL_eq, I.mRev_eq, I.iRg3_eq, I.cCall0_eq, I.bListN_eq, I.mRepL_eq, I.mRg3_eq, I.gMulJ_eq] at *
  exact R.bLstD hm h
theorem mTup {ts : List T} (hl : ts.length ≤ lim) (h : P (.tup ts) μ) : OkI (I.mTup ts μ) P E := by
  simp only [OkI_eq, I.cVar_eq, I.cK_eq, I.c1_eq, I.c2_eq, I.cN_eq, I.aNil_eq, I.aCons_eq, I.aStar_eq, I.cTest_eq, I.cTru_eq, I.cAnd_eq, I.cOr_eq, I.cNot_eq, I.cYes_eq, I.cIf_eq, I.cAndT_eq, I.cOrT_eq, I.cNotT_eq, I.cChain_eq, I.cCall_eq, I.cSlice_eq, I.oNone_eq, I.oSome_eq, I.cKw_eq, I.cMeth_eq, I.cRgL1_eq, I.cRgL2_eq, I.iSeq_eq, I.iRg1_eq, I.iRg2_eq, I.iZp_eq, I.iEn_eq, I.cLc_eq, I.cLc2_eq, I.lcT_eq, I.sNil_eq, I.sPass_eq, I.sBreak_eq, I.sCont_eq, I.sBad_eq, I.sRetN_eq, I.sSeq_eq, I.sExpr_eq, I.sRet_eq, I.sSet_eq, I.sIf_eq, I.sAsg_eq, I.sStore_eq, I.sPar_eq, I.sPar3_eq, I.sAug_eq, I.sFor_eq, I.stp_eq, I.fnD_eq, I.gIxD_eq, I.gAdd_eq, I.gSub_eq, I.gMulI_eq, I.gFdiv_eq, I.gMod_eq, I.gPow_eq, I.gLt_eq, I.gLe_eq, I.gGt_eq, I.gGe_eq, I.gNeg_eq, I.gEqD_eq, I.gIs_eq, I.gIsNot_eq, I.bLen_eq, I.bInt_eq, I.bTuple_eq, I.bListD_eq, I.mTup_eq, I.mLst_eq, I.mNew_eq, I.mSeq_eq, I.mTru_eq, I.mCut_eq, I.mPut_eq, I.bAll_eq, I.bAny_eq, I.bSum_eq, I.bSorted_eq, I.bMax_eq, I.bMin_eq, I.kMM_eq, I.bIsi_eq, I.mIt_eq, I.mEnu_eq, I.mZip_eq, I.forL_eq, I.whileL_eq, I.lcL_eq, I.lcO_eq, I.lcB2_eq, I.cDisp_eq, I.gIn_eq, I.mUpd_eq, I.mApp_eq, I.mAttr_eq, I.cMethO_eq, I.mMake_eq, I.cMkK_eq, I.sSetA_eq, I.sAugA_eq, I.bLenO_eq, I.sFrz_eq, I.cRepL_eq, I.mRev_eq, I.iRg3_eq, I.cCall0_eq, I.bListN_eq, I.mRepL_eq, I.mRg3_eq, I.gMulJ_eq] at *
  exact R.mTup hl h
theorem mLst {ts : List T} (hl : ts.length ≤ lim) (h : P (.lst ts) μ) : OkI (I.mLst ts μ) P E := by
  simp only [OkI_eq, I.cVar_eq, I.cK_eq, I.c1_eq, I.c2_eq, I.cN_eq, I.aNil_eq, I.aCons_eq, I.aStar_eq, I.cTest_eq, I.cTru_eq, I.cAnd_eq, I.cOr_eq, I.cNot_eq, I.cYes_eq, I.cIf_eq, I.cAndT_eq, I.cOrT_eq, I.cNotT_eq, I.cChain_eq, I.cCall_eq, I.cSlice_eq, I.oNone_eq, I.oSome_eq, I.cKw_eq, I.cMeth_eq, I.cRgL1_eq, I.cRgL2_eq, I.iSeq_eq, I.iRg1_eq, I.iRg2_eq, I.iZp_eq, I.iEn_eq, I.cLc_eq, I.cLc2_eq, I.lcT_eq, I.sNil_eq, I.sPass_eq, I.sBreak_eq, I.sCont_eq, I.sBad_eq, I.sRetN_eq, I.sSeq_eq, I.sExpr_eq, I.sRet_eq, I.sSet_eq, I.sIf_eq, I.sAsg_eq, I.sStore_eq, I.sPar_eq, I.sPar3_eq, I.sAug_eq, I.sFor_eq, I.stp_eq, I.fnD_eq, I.gIxD_eq, I.gAdd_eq, I.gSub_eq, I.gMulI_eq, I.gFdiv_eq, I.gMod_eq, I.gPow_eq, I.gLt_eq, I.gLe_eq, I.gGt_eq, I.gGe_eq, I.gNeg_eq, I.gEqD_eq, I.gIs_eq, I.gIsNot_eq, I.bLen_eq, I.bInt_eq, I.bTuple_eq, I.bListD_eq, I.mTup_eq, I.mLst_eq, I.mNew_eq, I.mSeq_eq, I.mTru_eq, I.mCut_eq, I.mPut_eq, I.bAll_eq, I.bAny_eq, I.bSum_eq, I.bSorted_eq, I.bMax_eq, I.bMin_eq, I.kMM_eq, I.bIsi_eq, I.mIt_eq, I.mEnu_eq, I.mZip_eq, I.forL_eq, I.whileL_eq, I.lcL_eq, I.lcO_eq, I.lcB2_eq, I.cDisp_eq, I.gIn_eq, I.mUpd_eq, I.mApp_eq, I.mAttr_eq, I.cMethO_eq, I.mMake_eq, I.cMkK_eq, I.sSetA_eq, I.sAugA_eq, I.bLenO_eq, I.sFrz_eq, I.cRepL_eq, I.mRev_eq, I.iRg3_eq, I.cCall0_eq, I.bListN_eq, I.mRepL_eq, I.mRg3_eq, I.gMulJ_eq] at *
  exact R.mLst hl h
theorem mNew {ts : List T} (hl : ts.length ≤ lim) (h : P (.obj μ.length) (μ ++ [some (.lst ts)])) : OkI (I.mNew ts μ) P E := by
  simp only [OkI_eq, I.cVar_eq, I.cK_eq, I.c1_eq, I.c2_eq, I.cN_eq, I.aNil_eq, I.aCons_eq, I.aStar_eq, I.cTest_eq, I.cTru_eq, I.cAnd_eq, I.cOr_eq, I.cNot_eq, I.cYes_eq, I.cIf_eq, I.cAndT_eq, I.cOrT_eq, I.cNotT_eq, I.cChain_eq, I.cCall_eq, I.cSlice_eq, I.oNone_eq, I.oSome_eq, I.cKw_eq, I.cMeth_eq, I.cRgL1_eq, I.cRgL2_eq, I.iSeq_eq, I.iRg1_eq, I.iRg2_eq, I.iZp_eq, I.iEn_eq, I.cLc_eq, I.cLc2_eq, I.lcT_eq, I.sNil_eq, I.sPass_eq, I.sBreak_eq, I.sCont_eq, I.sBad_eq, I.sRetN_eq, I.sSeq_eq, I.sExpr_eq, I.sRet_eq, I.sSet_eq, I.sIf_eq, I.sAsg_eq, I.sStore_eq, I.sPar_eq, I.sPar3_eq, I.sAug_eq, I.sFor_eq, I.stp_eq, I.fnD_eq, I.gIxD_eq, I.gAdd_eq, I.gSub_eq, I.gMulI_eq, I.gFdiv_eq, I.gMod_eq, I.gPow_eq, I.gLt_eq, I.gLe_eq, I.gGt_eq, I.gGe_eq, I.gNeg_eq, I.gEqD_eq, I.gIs_eq, I.gIsNot_eq, I.bLen_eq, I.bInt_eq, I.bTuple_eq, I.bListD_eq, I.mTup_eq, I.mLst_eq, I.mNew_eq, I.mSeq_eq, I.mTru_eq, I.mCut_eq, I.mPut_eq, I.bAll_eq, I.bAny_eq, I.bSum_eq, I.bSorted_eq, I.bMax_eq, I.bMin_eq, I.kMM_eq, I.bIsi_eq, I.mIt_eq, I.mEnu_eq, I.mZip_eq, I.forL_eq, I.whileL_eq, I.lcL_eq, I.lcO_eq, I.lcB2_eq, I.cDisp_eq, I.gIn_eq, I.mUpd_eq, I.mApp_eq, I.mAttr_eq, I.cMethO_eq, I.mMake_eq, I.cMkK_eq, I.sSetA_eq, I.sAugA_eq, I.bLenO_eq, I.sFrz_eq, I.cRepL_eq, I.mRev_eq, I.iRg3_eq, I.cCall0_eq, I.bListN_eq, I.mRepL_eq, I.mRg3_eq, I.gMulJ_eq] at *
  exact R.mNew hl h
theorem mSeqT {ts : List T} (h : PL ts μ) : OkI (I.mSeq (.tup ts) μ) PL E := by
  simp only [OkI_eq, I.cVar_eq, I.cK_eq, I.c1_eq, I.c2_eq, I.cN_eq, I.aNil_eq, I.aCons_eq, I.aStar_eq, I.cTest_eq, I.cTru_eq, I.cAnd_eq, I.cOr_eq, I.cNot_eq, I.cYes_eq, I.cIf_eq, I.cAndT_eq, I.cOrT_eq, I.cNotT_eq, I.cChain_eq, I.cCall_eq, I.cSlice_eq, I.oNone_eq, I.oSome_eq, I.cKw_eq, I.cMeth_eq, I.cRgL1_eq, I.cRgL2_eq, I.iSeq_eq, I.iRg1_eq, I.iRg2_eq, I.iZp_eq, I.iEn_eq, I.cLc_eq, I.cLc2_eq, I.lcT_eq, I.sNil_eq, I.sPass_eq, I.sBreak_eq, I.sCont_eq, I.sBad_eq, I.sRetN_eq, I.sSeq_eq, I.sExpr_eq, I.sRet_eq, I.sSet_eq, I.sIf_eq, I.sAsg_eq, I.sStore_eq, I.sPar_eq, I.sPar3_eq, I.sAug_eq, I.sFor_eq, I.stp_eq, I.fnD_eq, I.gIxD_eq, I.gAdd_eq, I.gSub_eq, I.gMulI_eq, I.gFdiv_eq, I.gMod_eq, I.gPow_eq, I.gLt_eq, I.gLe_eq, I.gGt_eq, I.gGe_eq, I.gNeg_eq, I.gEqD_eq, I.gIs_eq, I.gIsNot_eq, I.bLen_eq, I.bInt_eq, I.bTuple_eq, I.bListD_eq, I.mTup_eq, I.mLst_eq, I.mNew_eq, I.mSeq_eq, I.mTru_eq, I.mCut_eq, I.mPut_eq, I.bAll_eq, I.bAny_eq, I.bSum_eq, I.bSorted_eq, I.bMax_eq, I.bMin_eq, I.kMM_eq, I.bIsi_eq, I.mIt_eq, I.mEnu_eq, I.mZip_eq, I.forL_eq, I.whileL_eq, I.lcL_eq, I.lcO_eq, I.lcB2_eq, I.cDisp_eq, I.gIn_eq, I.mUpd_eq, I.mApp_eq, I.mAttr_eq, I.cMethO_eq, I.mMake_eq, I.cMkK_eq, I.sSetA_eq, I.sAugA_eq, I.bLenO_eq, I.sFrz_eq, I.cRepL_eq, I.mRev_eq, I.iRg3_eq, I.cCall0_eq, I.bListN_eq, I.mRepL_eq, I.mRg3_eq, I.gMulJ_eq] at *
  exact R.mSeqT h
theorem mSeqL {ts : List T} (h : PL ts μ) : OkI (I.mSeq (.lst ts) μ) PL E := by
  simp only [OkI_eq, I.cVar_eq, I.cK_eq, I.c1_eq, I.c2_eq, I.cN_eq, I.aNil_eq, I.aCons_eq, I.aStar_eq, I.cTest_eq, I.cTru_eq, I.cAnd_eq, I.cOr_eq, I.cNot_eq, I.cYes_eq, I.cIf_eq, I.cAndT_eq, I.cOrT_eq, I.cNotT_eq, I.cChain_eq, I.cCall_eq, I.cSlice_eq, I.oNone_eq, I.oSome_eq, I.cKw_eq, I.cMeth_eq, I.cRgL1_eq, I.cRgL2_eq, I.iSeq_eq, I.iRg1_eq, I.iRg2_eq, I.iZp_eq, I.iEn_eq, I.cLc_eq, I.cLc2_eq, I.lcT_eq, I.sNil_eq, I.sPass_eq, I.sBreak_eq, I.sCont_eq, I.sBad_eq, I.sRetN_eq, I.sSeq_eq, I.sExpr_eq, I.sRet_eq, I.sSet_eq, I.sIf_eq, I.sAsg_eq, I.sStore_eq, I.sPar_eq, I.sPar3_eq, I.sAug_eq, I.sFor_eq, I.stp_eq, I.fnD_eq, I.gIxD_eq, I.gAdd_eq, I.gSub_eq, I.gMulI_eq, I.gFdiv_eq, I.gMod_eq, I.gPow_eq, I.gLt_eq, I.gLe_eq, I.gGt_eq, I.gGe_eq, I.gNeg_eq, I.gEqD_eq, I.gIs_eq, I.gIsNot_eq, I.bLen_eq, I.bInt_eq, I.bTuple_eq, I.bListD_eq, I.mTup_eq, I.mLst_eq, I.mNew_eq, I.mSeq_eq, I.mTru_eq, I.mCut_eq, I.mPut_eq, I.bAll_eq, I.bAny_eq, I.bSum_eq, I.bSorted_eq, I.bMax_eq, I.bMin_eq, I.kMM_eq, I.bIsi_eq, I.mIt_eq, I.mEnu_eq, I.mZip_eq, I.forL_eq, I.whileL_eq, I.lcL_eq, I.lcO_eq, I.lcB2_eq, I.cDisp_eq, I.gIn_eq, I.mUpd_eq, I.mApp_eq, I.mAttr_eq, I.cMethO_eq, I.mMake_eq, I.cMkK_eq, I.sSetA_eq, I.sAugA_eq, I.bLenO_eq, I.sFrz_eq, I.cRepL_eq, I.mRev_eq, I.iRg3_eq, I.cCall0_eq, I.bListN_eq, I.mRepL_eq, I.mRg3_eq, I.gMulJ_eq] at *
  exact R.mSeqL h
theorem mTruB {k : Bool} (h : PB k μ) : OkI (I.mTru (.bl k) μ) PB E := by
  simp only [OkI_eq, I.cVar_eq, I.cK_eq, I.c1_eq, I.c2_eq, I.cN_eq, I.aNil_eq, I.aCons_eq, I.aStar_eq, I.cTest_eq, I.cTru_eq, I.cAnd_eq, I.cOr_eq, I.cNot_eq, I.cYes_eq, I.cIf_eq, I.cAndT_eq, I.cOrT_eq, I.cNotT_eq, I.cChain_eq, I.cCall_eq, I.cSlice_eq, I.oNone_eq, I.oSome_eq, I.cKw_eq, I.cMeth_eq, I.cRgL1_eq, I.cRgL2_eq, I.iSeq_eq, I.iRg1_eq, I.iRg2_eq, I.iZp_eq, I.iEn_eq, I.cLc_eq, I.cLc2_eq, I.lcT_eq, I.sNil_eq, I.sPass_eq, I.sBreak_eq, I.sCont_eq, I.sBad_eq, I.sRetN_eq, I.sSeq_eq, I.sExpr_eq, I.sRet_eq, I.sSet_eq, I.sIf_eq, I.sAsg_eq, I.sStore_eq, I.sPar_eq, I.sPar3_eq, I.sAug_eq, I.sFor_eq, I.stp_eq, I.fnD_eq, I.gIxD_eq, I.gAdd_eq, I.gSub_eq, I.gMulI_eq, I.gFdiv_eq, I.gMod_eq, I.gPow_eq, I.gLt_eq, I.gLe_eq, I.gGt_eq, I.gGe_eq, I.gNeg_eq, I.gEqD_eq, I.gIs_eq, I.gIsNot_eq, I.bLen_eq, I.bInt_eq, I.bTuple_eq, I.bListD_eq, I.mTup_eq, I.mLst_eq, I.mNew_eq, I.mSeq_eq, I.mTru_eq, I.mCut_eq, I.mPut_eq, I.bAll_eq, I.bAny_eq, I.bSum_eq, I.bSorted_eq, I.bMax_eq, I.bMin_eq, I.kMM_eq, I.bIsi_eq, I.mIt_eq, I.mEnu_eq, I.mZip_eq, I.forL_eq, I.whileL_eq, I.lcL_eq, I.lcO_eq, I.lcB2_eq, I.cDisp_eq, I.gIn_eq, I.mUpd_eq, I.mApp_eq, I.mAttr_eq, I.cMethO_eq, I.mMake_eq, I.cMkK_eq, I.sSetA_eq, I.sAugA_eq, I.bLenO_eq, I.sFrz_eq, I.cRepL_eq, I.mRev_eq, I.iRg3_eq, I.cCall0_eq, I.bListN_eq, I.mRepL_eq, I.mRg3_eq, I.gMulJ_eq] at *
  exact R.mTruB h
theorem mTruI {k : Int} (h : PB (k != 0) μ) : OkI (I.mTru (.int k) μ) PB E := by
  simp only [OkI_eq, I.cVar_eq, I.cK_eq, I.c1_eq, I.c2_eq, I.cN_eq, I.aNil_eq, I.aCons_eq, I.aStar_eq, I.cTest_eq, I.cTru_eq, I.cAnd_eq, I.cOr_eq, I.cNot_eq, I.cYes_eq, I.cIf_eq, I.cAndT_eq, I.cOrT_eq, I.cNotT_eq, I.cChain_eq, I.cCall_eq, I.cSlice_eq, I.oNone_eq, I.oSome_eq, I.cKw_eq, I.cMeth_eq, I.cRgL1_eq, I.cRgL2_eq, I.iSeq_eq, I.iRg1_eq, I.iRg2_eq, I.iZp_eq, I.iEn_eq, I.cLc_eq, I.cLc2_eq, I.lcT_eq, I.sNil_eq, I.sPass_eq, I.sBreak_eq, I.sCont_eq, I.sBad_eq, I.sRetN_eq, I.sSeq_eq, I.sExpr_eq, I.sRet_eq, I.sSet_eq, I.sIf_eq, I.sAsg_eq, I.sStore_eq, I.sPar_eq, I.sPar3_eq, I.sAug_eq, I.sFor_eq, I.stp_eq, I.fnD_eq, I.gIxD_eq, I.gAdd_eq, I.gSub_eq, I.gMulI_eq, I.gFdiv_eq, I.gMod_eq, I.gPow_eq, I.gLt_eq, I.gLe_eq, I.gGt_eq, I.gGe_eq, I.gNeg_eq, I.gEqD_eq, I.gIs_eq, I.gIsNot_eq, I.bLen_eq, I.bInt_eq, I.bTuple_eq, I.bListD_eq, I.mTup_eq, I.mLst_eq, I.mNew_eq, I.mSeq_eq, I.mTru_eq, I.mCut_eq, I.mPut_eq, I.bAll_eq, I.bAny_eq, I.bSum_eq, I.bSorted_eq, I.bMax_eq, I.bMin_eq, I.kMM_eq, I.bIsi_eq, I.mIt_eq, I.mEnu_eq, I.mZip_eq, I.forL_eq, I.whileL_eq, I.lcL_eq, I.lcO_eq, I.lcB2_eq, I.cDisp_eq, I.gIn_eq, I.mUpd_eq, I.mApp_eq, I.mAttr_eq, I.cMethO_eq, I.mMake_eq, I.cMkK_eq, I.sSetA_eq, I.sAugA_eq, I.bLenO_eq, I.sFrz_eq, I.cRepL_eq, I.mRev_eq, I.iRg3_eq, I.cCall0_eq, I.bListN_eq, I.mRepL_eq, I.mRg3_eq, I.gMulJ_eq] at *
  exact R.mTruI h
theorem mTruT {ts : List T} (h : PB (!ts.isEmpty) μ) : OkI (I.mTru (.tup ts) μ) PB E := by
  simp only [OkI_eq, I.cVar_eq, I.cK_eq, I.c1_eq, I.c2_eq, I.cN_eq, I.aNil_eq, I.aCons_eq, I.aStar_eq, I.cTest_eq, I.cTru_eq, I.cAnd_eq, I.cOr_eq, I.cNot_eq, I.cYes_eq, I.cIf_eq, I.cAndT_eq, I.cOrT_eq, I.cNotT_eq, I.cChain_eq, I.cCall_eq, I.cSlice_eq, I.oNone_eq, I.oSome_eq, I.cKw_eq, I.cMeth_eq, I.cRgL1_eq, I.cRgL2_eq, I.iSeq_eq, I.iRg1_eq, I.iRg2_eq, I.iZp_eq, I.iEn_eq, I.cLc_eq, I.cLc2_eq, I.lcT_eq, I.sNil_eq, I.sPass_eq, I.sBreak_eq, I.sCont_eq, I.sBad_eq, I.sRetN_eq, I.sSeq_eq, I.sExpr_eq, I.sRet_eq, I.sSet_eq, I.sIf_eq, I.sAsg_eq, I.sStore_eq, I.sPar_eq, I.sPar3_eq, I.sAug_eq, I.sFor_eq, I.stp_eq, I.fnD_eq, I.gIxD_eq, I.gAdd_eq, I.gSub_eq, I.gMulI_eq, I.gFdiv_eq, I.gMod_eq, I.gPow_eq, I.gLt_eq, I.gLe_eq, I.gGt_eq, I.gGe_eq, I.gNeg_eq, I.gEqD_eq, I.gIs_eq, I.gIsNot_eq, I.bLen_eq, I.bInt_eq, I.bTuple_eq, I.bListD_eq, I.mTup_eq, I.mLst_eq, I.mNew_eq, I.mSeq_eq, I.mTru_eq, I.mCut_eq, I.mPut_eq, I.bAll_eq, I.bAny_eq, I.bSum_eq, I.bSorted_eq, I.bMax_eq, I.bMin_eq, I.kMM_eq, I.bIsi_eq, I.mIt_eq, I.mEnu_eq, I.mZip_eq, I.forL_eq, I.whileL_eq, I.lcL_eq, I.lcO_eq, I.lcB2_eq, I.cDisp_eq, I.gIn_eq, I.mUpd_eq, I.mApp_eq, I.mAttr_eq, I.cMethO_eq, I.mMake_eq, I.cMkK_eq, I.sSetA_eq, I.sAugA_eq, I.bLenO_eq, I.sFrz_eq, I.cRepL_eq, I.mRev_eq, I.iRg3_eq, I.cCall0_eq, I.bListN_eq, I.mRepL_eq, I.mRg3_eq, I.gMulJ_eq] at *
  exact R.mTruT h
theorem mTruL {ts : List T} (h : PB (!ts.isEmpty) μ) : OkI (I.mTru (.lst ts) μ) PB E := by
  simp only [OkI_eq, I.cVar_eq, I.cK_eq, I.c1_eq, I.c2_eq, I.cN_eq, I.aNil_eq, I.aCons_eq, I.aStar_eq, I.cTest_eq, I.cTru_eq, I.cAnd_eq, I.cOr_eq, I.cNot_eq, I.cYes_eq, I.cIf_eq, I.cAndT_eq, I.cOrT_eq, I.cNotT_eq, I.cChain_eq, I.cCall_eq, I.cSlice_eq, I.oNone_eq, I.oSome_eq, I.cKw_eq, I.cMeth_eq, I.cRgL1_eq, I.cRgL2_eq, I.iSeq_eq, I.iRg1_eq, I.iRg2_eq, I.iZp_eq, I.iEn_eq, I.cLc_eq, I.cLc2_eq, I.lcT_eq, I.sNil_eq, I.sPass_eq, I.sBreak_eq, I.sCont_eq, I.sBad_eq, I.sRetN_eq, I.sSeq_eq, I.sExpr_eq, I.sRet_eq, I.sSet_eq, I.sIf_eq, I.sAsg_eq, I.sStore_eq, I.sPar_eq, I.sPar3_eq, I.sAug_eq, I.sFor_eq, I.stp_eq, I.fnD_eq, I.gIxD_eq, I.gAdd_eq, I.gSub_eq, I.gMulI_eq, I.gFdiv_eq, I.gMod_eq, I.gPow_eq, I.gLt_eq, I.gLe_eq, I.gGt_eq, I.gGe_eq, I.gNeg_eq, I.gEqD_eq, I.gIs_eq, I.gIsNot_eq, I.bLen_eq, I.bInt_eq, I.bTuple_eq, I.bListD_eq, I.mTup_eq, I.mLst_eq, I.mNew_eq, I.mSeq_eq, I.mTru_eq, I.mCut_eq, I.mPut_eq, I.bAll_eq, I.bAny_eq, I.bSum_eq, I.bSorted_eq, I.bMax_eq, I.bMin_eq, I.kMM_eq, I.bIsi_eq, I.mIt_eq, I.mEnu_eq, I.mZip_eq, I.forL_eq, I.whileL_eq, I.lcL_eq, I.lcO_eq, I.lcB2_eq, I.cDisp_eq, I.gIn_eq, I.mUpd_eq, I.mApp_eq, I.mAttr_eq, I.cMethO_eq, I.mMake_eq, I.cMkK_eq, I.sSetA_eq, I.sAugA_eq, I.bLenO_eq, I.sFrz_eq, I.cRepL_eq, I.mRev_eq, I.iRg3_eq, I.cCall0_eq, I.bListN_eq, I.mRepL_eq, I.mRg3_eq, I.gMulJ_eq] at *
  exact R.mTruL h
theorem mTruN (h : PB false μ) : OkI (I.mTru .non μ) PB E := by
  simp only [OkI_eq, I.cVar_eq, I.cK_eq, I.c1_eq, I.c2_eq, I.cN_eq, I.aNil_eq, I.aCons_eq, I.aStar_eq, I.cTest_eq, I.cTru_eq, I.cAnd_eq, I.cOr_eq, I.cNot_eq, I.cYes_eq, I.cIf_eq, I.cAndT_eq, I.cOrT_eq, I.cNotT_eq, I.cChain_eq, I.cCall_eq, I.cSlice_eq, I.oNone_eq, I.oSome_eq, I.cKw_eq, I.cMeth_eq, I.cRgL1_eq, I.cRgL2_eq, I.iSeq_eq, I.iRg1_eq, I.iRg2_eq, I.iZp_eq, I.iEn_eq, I.cLc_eq, I.cLc2_eq, I.lcT_eq, I.sNil_eq, I.sPass_eq, I.sBreak_eq, I.sCont_eq, I.sBad_eq, I.sRetN_eq, I.sSeq_eq, I.sExpr_eq, I.sRet_eq, I.sSet_eq, I.sIf_eq, I.sAsg_eq, I.sStore_eq, I.sPar_eq, I.sPar3_eq, I.sAug_eq, I.sFor_eq, I.stp_eq, I.fnD_eq, I.gIxD_eq, I.gAdd_eq, I.gSub_eq, I.gMulI_eq, I.gFdiv_eq, I.gMod_eq, I.gPow_eq, I.gLt_eq, I.gLe_eq, I.gGt_eq, I.gGe_eq, I.gNeg_eq, I.gEqD_eq, I.gIs_eq, I.gIsNot_eq, I.bLen_eq, I.bInt_eq, I.bTuple_eq, I.bListD_eq, I.mTup_eq, I.mLst_eq, I.mNew_eq, I.mSeq_eq, I.mTru_eq, I.mCut_eq, I.mPut_eq, I.bAll_eq, I.bAny_eq, I.bSum_eq, I.bSorted_eq, I.bMax_eq, I.bMin_eq, I.kMM_eq, I.bIsi_eq, I.mIt_eq, I.mEnu_eq, I.mZip_eq, I.forL_eq, I.whileL_eq, I.lcL_eq, I.lcO_eq, I.lcB2_eq, I.cDisp_eq, I.gIn_eq, I.mUpd_eq, I.mApp_eq, I.mAttr_eq, I.cMethO_eq, I.mMake_eq, I.cMkK_eq, I.sSetA_eq, I.sAugA_eq, I.bLenO_eq, I.sFrz_eq, I.cRepL_eq, I.mRev_eq, I.iRg3_eq, I.cCall0_eq, I.bListN_eq, I.mRepL_eq, I.mRg3_eq, I.gMulJ_eq] at *
  exact R.mTruN h
theorem mCutT {ts : List T} {l u : Option Int} (h : P (.tup (cutT ts l u)) μ) : OkI (I.mCut (.tup ts) l u μ) P E := by
  simp only [OkI_eq, I.cVar_eq, I.cK_eq, I.c1_eq, I.c2_eq, I.cN_eq, I.aNil_eq, I.aCons_eq, I.aStar_eq, I.cTest_eq, I.cTru_eq, I.cAnd_eq, I.cOr_eq, I.cNot_eq, I.cYes_eq, I.cIf_eq, I.cAndT_eq, I.cOrT_eq, I.cNotT_eq, I.cChain_eq, I.cCall_eq, I.cSlice_eq, I.oNone_eq, I.oSome_eq, I.cKw_eq, I.cMeth_eq, I.cRgL1_eq, I.cRgL2_eq, I.iSeq_eq, I.iRg1_eq, I.iRg2_eq, I.iZp_eq, I.iEn_eq, I.cLc_eq, I.cLc2_eq, I.lcT_eq, I.sNil_eq, I.sPass_eq, I.sBreak_eq, I.sCont_eq, I.sBad_eq, I.sRetN_eq, I.sSeq_eq, I.sExpr_eq, I.sRet_eq, I.sSet_eq, I.sIf_eq, I.sAsg_eq, I.sStore_eq, I.sPar_eq, I.sPar3_eq, I.sAug_eq, I.sFor_eq, I.stp_eq, I.fnD_eq, I.gIxD_eq, I.gAdd_eq, I.gSub_eq, I.gMulI_eq, I.gFdiv_eq, I.gMod_eq, I.gPow_eq, I.gLt_eq, I.gLe_eq, I.gGt_eq, I.gGe_eq, I.gNeg_eq, I.gEqD_eq, I.gIs_eq, I.gIsNot_eq, I.bLen_eq, I.bInt_eq, I.bTuple_eq, I.bListD_eq, I.mTup_eq, I.mLst_eq, I.mNew_eq, I.mSeq_eq, I.mTru_eq, I.mCut_eq, I.mPut_eq, I.bAll_eq, I.bAny_eq, I.bSum_eq, I.bSorted_eq, I.bMax_eq, I.bMin_eq, I.kMM_eq, I.bIsi_eq, I.mIt_eq, I.mEnu_eq, I.mZip_eq, I.forL_eq, I.whileL_eq, I.lcL_eq, I.lcO_eq, I.lcB2_eq, I.cDisp_eq, I.gIn_eq, I.mUpd_eq, I.mApp_eq, I.mAttr_eq, I.cMethO_eq, I.mMake_eq, I.cMkK_eq, I.sSetA_eq, I.sAugA_eq, I.bLenO_eq, I.sFrz_eq, I.cRepL_eq, I.mRev_eq, I.iRg3_eq, I.cCall0_eq, I.bListN_eq, I.mRepL_eq, I.mRg3_eq, I.gMulJ_eq] at *
  exact R.mCutT h
theorem mCutL {ts : List T} {l u : Option Int} (h : P (.lst (cutT ts l u)) μ) : OkI (I.mCut (.lst ts) l u μ) P E := by
  simp only [OkI_eq, I.cVar_eq, I.cK_eq, I.c1_eq, I.c2_eq, I.cN_eq, I.aNil_eq, I.aCons_eq, I.aStar_eq, I.cTest_eq, I.cTru_eq, I.cAnd_eq, I.cOr_eq, I.cNot_eq, I.cYes_eq, I.cIf_eq, I.cAndT_eq, I.cOrT_eq, I.cNotT_eq, I.cChain_eq, I.cCall_eq, I.cSlice_eq, I.oNone_eq, I.oSome_eq, I.cKw_eq, I.cMeth_eq, I.cRgL1_eq, I.cRgL2_eq, I.iSeq_eq, I.iRg1_eq, I.iRg2_eq, I.iZp_eq, I.iEn_eq, I.cLc_eq, I.cLc2_eq, I.lcT_eq, I.sNil_eq, I.sPass_eq, I.sBreak_eq, I.sCont_eq, I.sBad_eq, I.sRetN_eq, I.sSeq_eq, I.sExpr_eq, I.sRet_eq, I.sSet_eq, I.sIf_eq, I.sAsg_eq, I.sStore_eq, I.sPar_eq, I.sPar3_eq, I.sAug_eq, I.sFor_eq, I.stp_eq, I.fnD_eq, I.gIxD_eq, I.gAdd_eq, I.gSub_eq, I.gMulI_eq, I.gFdiv_eq, I.gMod_eq, I.gPow_eq, I.gLt_eq, I.gLe_eq, I.gGt_eq, I.gGe_eq, I.gNeg_eq, I.gEqD_eq, I.gIs_eq, I.gIsNot_eq, I.bLen_eq, I.bInt_eq, I.bTuple_eq, I.bListD_eq, I.mTup_eq, I.mLst_eq, I.mNew_eq, I.mSeq_eq, I.mTru_eq, I.mCut_eq, I.mPut_eq, I.bAll_eq, I.bAny_eq, I.bSum_eq, I.bSorted_eq, I.bMax_eq, I.bMin_eq, I.kMM_eq, I.bIsi_eq, I.mIt_eq, I.mEnu_eq, I.mZip_eq, I.forL_eq, I.whileL_eq, I.lcL_eq, I.lcO_eq, I.lcB2_eq, I.cDisp_eq, I.gIn_eq, I.mUpd_eq, I.mApp_eq, I.mAttr_eq, I.cMethO_eq, I.mMake_eq, I.cMkK_eq, I.sSetA_eq, I.sAugA_eq, I.bLenO_eq, I.sFrz_eq, I.cRepL_eq, I.mRev_eq, I.iRg3_eq, I.cCall0_eq, I.bListN_eq, I.mRepL_eq, I.mRg3_eq, I.gMulJ_eq] at *
  exact R.mCutL h
theorem mPutL {n : Nat} {ts : List T} {k : Int} {j : Nat} {v : T} {PU : Unit → Store → Prop} (hm : μ[n]? = some (some (.lst ts))) (hj : ixN ts.length k = some j) (h : ∀ μ', μ' = μ.set n (some (.lst (ts.set j v))) → μ'[n]? = some (some (.lst (ts.set j v))) → PU () μ') : OkI (I.mPut (.obj n) (.int k) v μ) PU E := by
  simp only [OkI_eq, I.cVar_eq, I.cK_eq, I.c1_eq, I.c2_eq, I.cN_eq, I.aNil_eq, I.aCons_eq, I.aStar_eq, I.cTest_eq, I.cTru_eq, I.cAnd_eq, I.cOr_eq, I.cNot_eq, I.cYes_eq, I.cIf_eq, I.cAndT_eq, I.cOrT_eq, I.cNotT_eq, I.cChain_eq, I.cCall_eq, I.cSlice_eq, I.oNone_eq, I.oSome_eq, I.cKw_eq, I.cMeth_eq, I.cRgL1_eq, I.cRgL2_eq, I.iSeq_eq, I.iRg1_eq, I.iRg2_eq, I.iZp_eq, I.iEn_eq, I.cLc_eq, I.cLc2_eq, I.lcT_eq, I.sNil_eq, I.sPass_eq, I.sBreak_eq, I.sCont_eq, I.sBad_eq, I.sRetN_eq, I.sSeq_eq, I.sExpr_eq, I.sRet_eq, I.sSet_eq, I.sIf_eq, I.sAsg_eq, I.sStore_eq, I.sPar_eq, I.sPar3_eq, I.sAug_eq, I.sFor_eq, I.stp_eq, I.fnD_eq, I.gIxD_eq, I.gAdd_eq, I.gSub_eq, I.gMulI_eq, I.gFdiv_eq, I.gMod_eq, I.gPow_eq, I.gLt_eq, I.gLe_eq, I.gGt_eq, I.gGe_eq, I.gNeg_eq, I.gEqD_eq, I.gIs_eq, I.gIsNot_eq, I.bLen_eq, I.bInt_eq, I.bTuple_eq, I.bListD_eq, I.mTup_eq, I.mLst_eq, I.mNew_eq, I.mSeq_eq, I.mTru_eq, I.mCut_eq, I.mPut_eq, I.bAll_eq, I.bAny_eq, I.bSum_eq, I.bSorted_eq, I.bMax_eq, I.bMin_eq, I.kMM_eq, I.bIsi_eq, I.mIt_eq, I.mEnu_eq, I.mZip_eq, I.forL_eq, I.whileL_eq, I.lcL_eq, I.lcO_eq, I.lcB2_eq, I.cDisp_eq, I.gIn_eq, I.mUpd_eq, I.mApp_eq, I.mAttr_eq, I.cMethO_eq, I.mMake_eq, I.cMkK_eq, I.sSetA_eq, I.sAugA_eq, I.bLenO_eq, I.sFrz_eq, I.cRepL_eq, I.mRev_eq, I.iRg3_eq, I.cCall0_eq, I.bListN_eq, I.mRepL_eq, I.mRg3_eq, I.gMulJ_eq] at *
  exact R.mPutL hm hj h
theorem bAll {bs : List Bool} (h : P (.bl (bs.all id)) μ) : OkI (I.bAll [.lst (bs.map T.bl)] μ) P E := by
  simp only [OkI_eq, I.cVar_eq, I.cK_eq, I.c1_eq, I.c2_eq, I.cN_eq, I.aNil_eq, I.aCons_eq, I.aStar_eq, I.cTest_eq, I.cTru_eq, I.cAnd_eq, I.cOr_eq, I.cNot_eq, I.cYes_eq, I.cIf_eq, I.cAndT_eq, I.cOrT_eq, I.cNotT_eq, I.cChain_eq, I.cCall_eq, I.cSlice_eq, I.oNone_eq, I.oSome_eq, I.cKw_eq, I.cMeth_eq, I.cRgL1_eq, I.cRgL2_eq, I.iSeq_eq, I.iRg1_eq, I.iRg2_eq, I.iZp_eq, I.iEn_eq, I.cLc_eq, I.cLc2_eq, I.lcT_eq, I.sNil_eq, I.sPass_eq, I.sBreak_eq, I.sCont_eq, I.sBad_eq, I.sRetN_eq, I.sSeq_eq, I.sExpr_eq, I.sRet_eq, I.sSet_eq, I.sIf_eq, I.sAsg_eq, I.sStore_eq, I.sPar_eq, I.sPar3_eq, I.sAug_eq, I.sFor_eq, I.stp_eq, I.fnD_eq, I.gIxD_eq, I.gAdd_eq, I.gSub_eq, I.gMulI_eq, I.gFdiv_eq, I.gMod_eq, I.gPow_eq, I.gLt_eq, I.gLe_eq, I.gGt_eq, I.gGe_eq, I.gNeg_eq, I.gEqD_eq, I.gIs_eq, I.gIsNot_eq, I.bLen_eq, I.bInt_eq, I.bTuple_eq, I.bListD_eq, I.mTup_eq, I.mLst_eq, I.mNew_eq, I.mSeq_eq, I.mTru_eq, I.mCut_eq, I.mPut_eq, I.bAll_eq, I.bAny_eq, I.bSum_eq, I.bSorted_eq, I.bMax_eq, I.bMin_eq, I.kMM_eq, I.bIsi_eq, I.mIt_eq, I.mEnu_eq, I.mZip_eq, I.forL_eq, I.whileL_eq, I.lcL_eq, I.lcO_eq, I.lcB2_eq, I.cDisp_eq, I.gIn_eq, I.mUpd_eq, I.mApp_eq, I.mAttr_eq, I.cMethO_eq, I.mMake_eq, I.cMkK_eq, I.sSetA_eq, I.sAugA_eq, I.bLenO_eq, I.sFrz_eq, I.cRepL_eq, I.mRev_eq, I.iRg3_eq, I.cCall0_eq, I.bListN_eq, I.mRepL_eq, I.mRg3_eq, I.gMulJ_eq] at *
  exact R.bAll h
theorem bSum {ns : List Int} (h : P (.int ns.sum) μ) : OkI (I.bSum [.lst (ns.map T.int)] μ) P E := by
  simp only [OkI_eq, I.cVar_eq, I.cK_eq, I.c1_eq, I.c2_eq, I.cN_eq, I.aNil_eq, I.aCons_eq, I.aStar_eq, I.cTest_eq, I.cTru_eq, I.cAnd_eq, I.cOr_eq, I.cNot_eq, I.cYes_eq, I.cIf_eq, I.cAndT_eq, I.cOrT_eq, I.cNotT_eq, I.cChain_eq, I.cCall_eq, I.cSlice_eq, I.oNone_eq, I.oSome_eq, I.cKw_eq, I.cMeth_eq, I.cRgL1_eq, I.cRgL2_eq, I.iSeq_eq, I.iRg1_eq, I.iRg2_eq, I.iZp_eq, I.iEn_eq, I.cLc_eq, I.cLc2_eq, I.lcT_eq, I.sNil_eq, I.sPass_eq, I.sBreak_eq, I.sCont_eq, I.sBad_eq, I.sRetN_eq, I.sSeq_eq, I.sExpr_eq, I.sRet_eq, I.sSet_eq, I.sIf_eq, I.sAsg_eq, I.sStore_eq, I.sPar_eq, I.sPar3_eq, I.sAug_eq, I.sFor_eq, I.stp_eq, I.fnD_eq, I.gIxD_eq, I.gAdd_eq, I.gSub_eq, I.gMulI_eq, I.gFdiv_eq, I.gMod_eq, I.gPow_eq, I.gLt_eq, I.gLe_eq, I.gGt_eq, I.gGe_eq, I.gNeg_eq, I.gEqD_eq, I.gIs_eq, I.gIsNot_eq, I.bLen_eq, I.bInt_eq, I.bTuple_eq, I.bListD_eq, I.mTup_eq, I.mLst_eq, I.mNew_eq, I.mSeq_eq, I.mTru_eq, I.mCut_eq, I.mPut_eq, I.bAll_eq, I.bAny_eq, I.bSum_eq, I.bSorted_eq, I.bMax_eq, I.bMin_eq, I.kMM_eq, I.bIsi_eq, I.mIt_eq, I.mEnu_eq, I.mZip_eq, I.forL_eq, I.whileL_eq, I.lcL_eq, I.lcO_eq, I.lcB2_eq, I.cDisp_eq, I.gIn_eq, I.mUpd_eq, I.mApp_eq, I.mAttr_eq, I.cMethO_eq, I.mMake_eq, I.cMkK_eq, I.sSetA_eq, I.sAugA_eq, I.bLenO_eq, I.sFrz_eq, I.cRepL_eq, I.mRev_eq, I.iRg3_eq, I.cCall0_eq, I.bListN_eq, I.mRepL_eq, I.mRg3_eq, I.gMulJ_eq] at *
  exact R.bSum h
theorem bSortR {rs : List (List Int)} (h : P (.lst ((rs.mergeSort leRow).map rowT)) μ) : OkI (I.bSorted [.lst (rs.map rowT)] μ) P E := by
  simp only [OkI_eq, I.cVar_eq, I.cK_eq, I.c1_eq, I.c2_eq, I.cN_eq, I.aNil_eq, I.aCons_eq, I.aStar_eq, I.cTest_eq, I.cTru_eq, I.cAnd_eq, I.cOr_eq, I.cNot_eq, I.cYes_eq, I.cIf_eq, I.cAndT_eq, I.cOrT_eq, I.cNotT_eq, I.cChain_eq, I.cCall_eq, I.cSlice_eq, I.oNone_eq, I.oSome_eq, I.cKw_eq, I.cMeth_eq, I.cRgL1_eq, I.cRgL2_eq, I.iSeq_eq, I.iRg1_eq, I.iRg2_eq, I.iZp_eq, I.iEn_eq, I.cLc_eq, I.cLc2_eq, I.lcT_eq, I.sNil_eq, I.sPass_eq, I.sBreak_eq, I.sCont_eq, I.sBad_eq, I.sRetN_eq, I.sSeq_eq, I.sExpr_eq, I.sRet_eq, I.sSet_eq, I.sIf_eq, I.sAsg_eq, I.sStore_eq, I.sPar_eq, I.sPar3_eq, I.sAug_eq, I.sFor_eq, I.stp_eq, I.fnD_eq, I.gIxD_eq, I.gAdd_eq, I.gSub_eq, I.gMulI_eq, I.gFdiv_eq, I.gMod_eq, I.gPow_eq, I.gLt_eq, I.gLe_eq, I.gGt_eq, I.gGe_eq, I.gNeg_eq, I.gEqD_eq, I.gIs_eq, I.gIsNot_eq, I.bLen_eq, I.bInt_eq, I.bTuple_eq, I.bListD_eq, I.mTup_eq, I.mLst_eq, I.mNew_eq, I.mSeq_eq, I.mTru_eq, I.mCut_eq, I.mPut_eq, I.bAll_eq, I.bAny_eq, I.bSum_eq, I.bSorted_eq, I.bMax_eq, I.bMin_eq, I.kMM_eq, I.bIsi_eq, I.mIt_eq, I.mEnu_eq, I.mZip_eq, I.forL_eq, I.whileL_eq, I.lcL_eq, I.lcO_eq, I.lcB2_eq, I.cDisp_eq, I.gIn_eq, I.mUpd_eq, I.mApp_eq, I.mAttr_eq, I.cMethO_eq, I.mMake_eq, I.cMkK_eq, I.sSetA_eq, I.sAugA_eq, I.bLenO_eq, I.sFrz_eq, I.cRepL_eq, I.mRev_eq, I.iRg3_eq, I.cCall0_eq, I.bListN_eq, I.mRepL_eq, I.mRg3_eq, I.gMulJ_eq] at *
  exact R.bSortR h
theorem kMax {g : Int → List Int → Int} {ns : List Int} {d : T} (h : P (dfl g ns d) μ) : OkI (I.kMM g [.tup (ns.map T.int)] d μ) P E := by
  simp only [OkI_eq, I.cVar_eq, I.cK_eq, I.c1_eq, I.c2_eq, I.cN_eq, I.aNil_eq, I.aCons_eq, I.aStar_eq, I.cTest_eq, I.cTru_eq, I.cAnd_eq, I.cOr_eq, I.cNot_eq, I.cYes_eq, I.cIf_eq, I.cAndT_eq, I.cOrT_eq, I.cNotT_eq, I.cChain_eq, I.cCall_eq, I.cSlice_eq, I.oNone_eq, I.oSome_eq, I.cKw_eq, I.cMeth_eq, I.cRgL1_eq, I.cRgL2_eq, I.iSeq_eq, I.iRg1_eq, I.iRg2_eq, I.iZp_eq, I.iEn_eq, I.cLc_eq, I.cLc2_eq, I.lcT_eq, I.sNil_eq, I.sPass_eq, I.sBreak_eq, I.sCont_eq, I.sBad_eq, I.sRetN_eq, I.sSeq_eq, I.sExpr_eq, I.sRet_eq, I.sSet_eq, I.sIf_eq, I.sAsg_eq, I.sStore_eq, I.sPar_eq, I.sPar3_eq, I.sAug_eq, I.sFor_eq, I.stp_eq, I.fnD_eq, I.gIxD_eq, I.gAdd_eq, I.gSub_eq, I.gMulI_eq, I.gFdiv_eq, I.gMod_eq, I.gPow_eq, I.gLt_eq, I.gLe_eq, I.gGt_eq, I.gGe_eq, I.gNeg_eq, I.gEqD_eq, I.gIs_eq, I.gIsNot_eq, I.bLen_eq, I.bInt_eq, I.bTuple_eq, I.bListD_eq, I.mTup_eq, I.mLst_eq, I.mNew_eq, I.mSeq_eq, I.mTru_eq, I.mCut_eq, I.mPut_eq, I.bAll_eq, I.bAny_eq, I.bSum_eq, I.bSorted_eq, I.bMax_eq, I.bMin_eq, I.kMM_eq, I.bIsi_eq, I.mIt_eq, I.mEnu_eq, I.mZip_eq, I.forL_eq, I.whileL_eq, I.lcL_eq, I.lcO_eq, I.lcB2_eq, I.cDisp_eq, I.gIn_eq, I.mUpd_eq, I.mApp_eq, I.mAttr_eq, I.cMethO_eq, I.mMake_eq, I.cMkK_eq, I.sSetA_eq, I.sAugA_eq, I.bLenO_eq, I.sFrz_eq, I.cRepL_eq, I.mRev_eq, I.iRg3_eq, I.cCall0_eq, I.bListN_eq, I.mRepL_eq, I.mRg3_eq, I.gMulJ_eq] at *
  exact R.kMax h
theorem mAttrF {Cs : List CE} {Φ : Nat → List T → M T} {f : Str} {c : Nat} {ts : List T} {e : CE} {t : T} (hc : Cs[c]? = some e) (hp : e.pr.lookup f = none) (hg : IK.get e f (.sl c ts) = some t) (h : P t μ) : OkI (I.mAttr Cs Φ f (.ins c ts) μ) P E := by
  simp only [OkI_eq, I.cVar_eq, I.cK_eq, I.c1_eq, I.c2_eq, I.cN_eq, I.aNil_eq, I.aCons_eq, I.aStar_eq, I.cTest_eq, I.cTru_eq, I.cAnd_eq, I.cOr_eq, I.cNot_eq, I.cYes_eq, I.cIf_eq, I.cAndT_eq, I.cOrT_eq, I.cNotT_eq, I.cChain_eq, I.cCall_eq, I.cSlice_eq, I.oNone_eq, I.oSome_eq, I.cKw_eq, I.cMeth_eq, I.cRgL1_eq, I.cRgL2_eq, I.iSeq_eq, I.iRg1_eq, I.iRg2_eq, I.iZp_eq, I.iEn_eq, I.cLc_eq, I.cLc2_eq, I.lcT_eq, I.sNil_eq, I.sPass_eq, I.sBreak_eq, I.sCont_eq, I.sBad_eq, I.sRetN_eq, I.sSeq_eq, I.sExpr_eq, I.sRet_eq, I.sSet_eq, I.sIf_eq, I.sAsg_eq, I.sStore_eq, I.sPar_eq, I.sPar3_eq, I.sAug_eq, I.sFor_eq, I.stp_eq, I.fnD_eq, I.gIxD_eq, I.gAdd_eq, I.gSub_eq, I.gMulI_eq, I.gFdiv_eq, I.gMod_eq, I.gPow_eq, I.gLt_eq, I.gLe_eq, I.gGt_eq, I.gGe_eq, I.gNeg_eq, I.gEqD_eq, I.gIs_eq, I.gIsNot_eq, I.bLen_eq, I.bInt_eq, I.bTuple_eq, I.bListD_eq, I.mTup_eq, I.mLst_eq, I.mNew_eq, I.mSeq_eq, I.mTru_eq, I.mCut_eq, I.mPut_eq, I.bAll_eq, I.bAny_eq, I.bSum_eq, I.bSorted_eq, I.bMax_eq, I.bMin_eq, I.kMM_eq, I.bIsi_eq, I.mIt_eq, I.mEnu_eq, I.mZip_eq, I.forL_eq, I.whileL_eq, I.lcL_eq, I.lcO_eq, I.lcB2_eq, I.cDisp_eq, I.gIn_eq, I.mUpd_eq, I.mApp_eq, I.mAttr_eq, I.cMethO_eq, I.mMake_eq, I.cMkK_eq, I.sSetA_eq, I.sAugA_eq, I.bLenO_eq, I.sFrz_eq, I.cRepL_eq, I.mRev_eq, I.iRg3_eq, I.cCall0_eq, I.bListN_eq, I.mRepL_eq, I.mRg3_eq, I.gMulJ_eq] at *
  exact R.mAttrF hc hp hg h
theorem mAttrFP {Cs : List CE} {Φ : Nat → List T → M T} {f : Str} {c j : Nat} {ts : List T} {e : CE} (hc : Cs[c]? = some e) (hp : e.pr.lookup f = some j) (h : OkI (Φ j [.ins c ts] μ) P fun _ _ => False) : OkI (I.mAttr Cs Φ f (.ins c ts) μ) P E := by
  simp only [OkI_eq, I.cVar_eq, I.cK_eq, I.c1_eq, I.c2_eq, I.cN_eq, I.aNil_eq, I.aCons_eq, I.aStar_eq, I.cTest_eq, I.cTru_eq, I.cAnd_eq, I.cOr_eq, I.cNot_eq, I.cYes_eq, I.cIf_eq, I.cAndT_eq, I.cOrT_eq, I.cNotT_eq, I.cChain_eq, I.cCall_eq, I.cSlice_eq, I.oNone_eq, I.oSome_eq, I.cKw_eq, I.cMeth_eq, I.cRgL1_eq, I.cRgL2_eq, I.iSeq_eq, I.iRg1_eq, I.iRg2_eq, I.iZp_eq, I.iEn_eq, I.cLc_eq, I.cLc2_eq, I.lcT_eq, I.sNil_eq, I.sPass_eq, I.sBreak_eq, I.sCont_eq, I.sBad_eq, I.sRetN_eq, I.sSeq_eq, I.sExpr_eq, I.sRet_eq, I.sSet_eq, I.sIf_eq, I.sAsg_eq, I.sStore_eq, I.sPar_eq, I.sPar3_eq, I.sAug_eq, I.sFor_eq, I.stp_eq, I.fnD_eq, I.gIxD_eq, I.gAdd_eq, I.gSub_eq, I.gMulI_eq, I.gFdiv_eq, I.gMod_eq, I.gPow_eq, I.gLt_eq, I.gLe_eq, I.gGt_eq, I.gGe_eq, I.gNeg_eq, I.gEqD_eq, I.gIs_eq, I.gIsNot_eq, I.bLen_eq, I.bInt_eq, I.bTuple_eq, I.bListD_eq, I.mTup_eq, I.mLst_eq, I.mNew_eq, I.mSeq_eq, I.mTru_eq, I.mCut_eq, I.mPut_eq, I.bAll_eq, I.bAny_eq, I.bSum_eq, I.bSorted_eq, I.bMax_eq, I.bMin_eq, I.kMM_eq, I.bIsi_eq, I.mIt_eq, I.mEnu_eq, I.mZip_eq, I.forL_eq, I.whileL_eq, I.lcL_eq, I.lcO_eq, I.lcB2_eq, I.cDisp_eq, I.gIn_eq, I.mUpd_eq, I.mApp_eq, I.mAttr_eq, I.cMethO_eq, I.mMake_eq, I.cMkK_eq, I.sSetA_eq, I.sAugA_eq, I.bLenO_eq, I.sFrz_eq, I.cRepL_eq, I.mRev_eq, I.iRg3_eq, I.cCall0_eq, I.bListN_eq, I.mRepL_eq, I.mRg3_eq, I.gMulJ_eq] at *
  exact R.mAttrFP hc hp h
theorem mAttrO {Cs : List CE} {Φ : Nat → List T → M T} {f : Str} {n c : Nat} {ns : List Str} {ts : List T} {e : CE} {t : T} (hm : μ[n]? = some (some (.ins c ns ts))) (hc : Cs[c]? = some e) (hp : e.pr.lookup f = none) (hg : IK.get e f (.dc c ns ts) = some t) (h : P t μ) : OkI (I.mAttr Cs Φ f (.obj n) μ) P E := by
  simp only [OkI_eq, I.cVar_eq, I.cK_eq, I.c1_eq, I.c2_eq, I.cN_eq, I.aNil_eq, I.aCons_eq, I.aStar_eq, I.cTest_eq, I.cTru_eq, I.cAnd_eq, I.cOr_eq, I.cNot_eq, I.cYes_eq, I.cIf_eq, I.cAndT_eq, I.cOrT_eq, I.cNotT_eq, I.cChain_eq, I.cCall_eq, I.cSlice_eq, I.oNone_eq, I.oSome_eq, I.cKw_eq, I.cMeth_eq, I.cRgL1_eq, I.cRgL2_eq, I.iSeq_eq, I.iRg1_eq, I.iRg2_eq, I.iZp_eq, I.iEn_eq, I.cLc_eq, I.cLc2_eq, I.lcT_eq, I.sNil_eq, I.sPass_eq, I.sBreak_eq, I.sCont_eq, I.sBad_eq, I.sRetN_eq, I.sSeq_eq, I.sExpr_eq, I.sRet_eq, I.sSet_eq, I.sIf_eq, I.sAsg_eq, I.sStore_eq, I.sPar_eq, I.sPar3_eq, I.sAug_eq, I.sFor_eq, I.stp_eq, I.fnD_eq, I.gIxD_eq, I.gAdd_eq, I.gSub_eq, I.gMulI_eq, I.gFdiv_eq, I.gMod_eq, I.gPow_eq, I.gLt_eq, I.gLe_eq, I.gGt_eq, I.gGe_eq, I.gNeg_eq, I.gEqD_eq, I.gIs_eq, I.gIsNot_eq, I.bLen_eq, I.bInt_eq, I.bTuple_eq, I.bListD_eq, I.mTup_eq, I.mLst_eq, I.mNew_eq, I.mSeq_eq, I.mTru_eq, I.mCut_eq, I.mPut_eq, I.bAll_eq, I.bAny_eq, I.bSum_eq, I.bSorted_eq, I.bMax_eq, I.bMin_eq, I.kMM_eq, I.bIsi_eq, I.mIt_eq, I.mEnu_eq, I.mZip_eq, I.forL_eq, I.whileL_eq, I.lcL_eq, I.lcO_eq, I.lcB2_eq, I.cDisp_eq, I.gIn_eq, I.mUpd_eq, I.mApp_eq, I.mAttr_eq, I.cMethO_eq, I.mMake_eq, I.cMkK_eq, I.sSetA_eq, I.sAugA_eq, I.bLenO_eq, I.sFrz_eq, I.cRepL_eq, I.mRev_eq, I.iRg3_eq, I.cCall0_eq, I.bListN_eq, I.mRepL_eq, I.mRg3_eq, I.gMulJ_eq] at *
  exact R.mAttrO hm hc hp hg h
theorem mAttrS {Cs : List CE} {Φ : Nat → List T → M T} {f : Str} {n c : Nat} {ts : List T} {e : CE} {t : T} (hm : μ[n]? = some (some (.sl c ts))) (hc : Cs[c]? = some e) (hp : e.pr.lookup f = none) (hg : IK.get e f (.sl c ts) = some t) (h : P t μ) : OkI (I.mAttr Cs Φ f (.obj n) μ) P E := by
  simp only [OkI_eq, I.cVar_eq, I.cK_eq, I.c1_eq, I.c2_eq, I.cN_eq, I.aNil_eq, I.aCons_eq, I.aStar_eq, I.cTest_eq, I.cTru_eq, I.cAnd_eq, I.cOr_eq, I.cNot_eq, I.cYes_eq, I.cIf_eq, I.cAndT_eq, I.cOrT_eq, I.cNotT_eq, I.cChain_eq, I.cCall_eq, I.cSlice_eq, I.oNone_eq, I.oSome_eq, I.cKw_eq, I.cMeth_eq, I.cRgL1_eq, I.cRgL2_eq, I.iSeq_eq, I.iRg1_eq, I.iRg2_eq, I.iZp_eq, I.iEn_eq, I.cLc_eq, I.cLc2_eq, I.lcT_eq, I.sNil_eq, I.sPass_eq, I.sBreak_eq, I.sCont_eq, I.sBad_eq, I.sRetN_eq, I.sSeq_eq, I.sExpr_eq, I.sRet_eq, I.sSet_eq, I.sIf_eq, I.sAsg_eq, I.sStore_eq, I.sPar_eq, I.sPar3_eq, I.sAug_eq, I.sFor_eq, I.stp_eq, I.fnD_eq, I.gIxD_eq, I.gAdd_eq, I.gSub_eq, I.gMulI_eq, I.gFdiv_eq, I.gMod_eq, I.gPow_eq, I.gLt_eq, I.gLe_eq, I.gGt_eq, I.gGe_eq, I.gNeg_eq, I.gEqD_eq, I.gIs_eq, I.gIsNot_eq, I.bLen_eq, I.bInt_eq, I.bTuple_eq, I.bListD_eq, I.mTup_eq, I.mLst_eq, I.mNew_eq, I.mSeq_eq, I.mTru_eq, I.mCut_eq, I.mPut_eq, I.bAll_eq, I.bAny_eq, I.bSum_eq, I.bSorted_eq, I.bMax_eq, I.bMin_eq, I.kMM_eq, I.bIsi_eq, I.mIt_eq, I.mEnu_eq, I.mZip_eq, I.forL_eq, I.whileL_eq, I.lcL_eq, I.lcO_eq, I.lcB2_eq, I.cDisp_eq, I.gIn_eq, I.mUpd_eq, I.mApp_eq, I.mAttr_eq, I.cMethO_eq, I.mMake_eq, I.cMkK_eq, I.sSetA_eq, I.sAugA_eq, I.bLenO_eq, I.sFrz_eq, I.cRepL_eq, I.mRev_eq, I.iRg3_eq, I.cCall0_eq, I.bListN_eq, I.mRepL_eq, I.mRg3_eq, I.gMulJ_eq] at *
  exact R.mAttrS hm hc hp hg h
theorem cMethO {Cs : List CE} {Φ : Nat → List T → M T} {m : Str} (h : OkI (a ρ μ) (fun t μ1 => ∃ j n, gMeth Cs μ1 t m = some (j, n + 1) ∧ OkI (as ρ μ1) (fun ts μ2 => Len ts n (OkI (Φ j (t :: ts) μ2) P E)) E) E) : OkI (I.cMethO Cs Φ m a as ρ μ) P E := by
  simp only [OkI_eq, I.cVar_eq, I.cK_eq, I.c1_eq, I.c2_eq, I.cN_eq, I.aNil_eq, I.aCons_eq, I.aStar_eq, I.cTest_eq, I.cTru_eq, I.cAnd_eq, I.cOr_eq, I.cNot_eq, I.cYes_eq, I.cIf_eq, I.cAndT_eq, I.cOrT_eq, I.cNotT_eq, I.cChain_eq, I.cCall_eq, I.cSlice_eq, I.oNone_eq, I.oSome_eq, I.cKw_eq, I.cMeth_eq, I.cRgL1_eq, I.cRgL2_eq, I.iSeq_eq, I.iRg1_eq, I.iRg2_eq, I.iZp_eq, I.iEn_eq, I.cLc_eq, I.cLc2_eq, I.lcT_eq, I.sNil_eq, I.sPass_eq, I.sBreak_eq, I.sCont_eq, I.sBad_eq, I.sRetN_eq, I.sSeq_eq, I.sExpr_eq, I.sRet_eq, I.sSet_eq, I.sIf_eq, I.sAsg_eq, I.sStore_eq, I.sPar_eq, I.sPar3_eq, I.sAug_eq, I.sFor_eq, I.stp_eq, I.fnD_eq, I.gIxD_eq, I.gAdd_eq, I.gSub_eq, I.gMulI_eq, I.gFdiv_eq, I.gMod_eq, I.gPow_eq, I.gLt_eq, I.gLe_eq, I.gGt_eq, I.gGe_eq, I.gNeg_eq, I.gEqD_eq, I.gIs_eq, I.gIsNot_eq, I.bLen_eq, I.bInt_eq, I.bTuple_eq, I.bListD_eq, I.mTup_eq, I.mLst_eq, I.mNew_eq, I.mSeq_eq, I.mTru_eq, I.mCut_eq, I.mPut_eq, I.bAll_eq, I.bAny_eq, I.bSum_eq, I.bSorted_eq, I.bMax_eq, I.bMin_eq, I.kMM_eq, I.bIsi_eq, I.mIt_eq, I.mEnu_eq, I.mZip_eq, I.forL_eq, I.whileL_eq, I.lcL_eq, I.lcO_eq, I.lcB2_eq, I.cDisp_eq, I.gIn_eq, I.mUpd_eq, I.mApp_eq, I.mAttr_eq, I.cMethO_eq, I.mMake_eq, I.cMkK_eq, I.sSetA_eq, I.sAugA_eq, I.bLenO_eq, I.sFrz_eq, I.cRepL_eq, I.mRev_eq, I.iRg3_eq, I.cCall0_eq, I.bListN_eq, I.mRepL_eq, I.mRg3_eq, I.gMulJ_eq] at *
  exact R.cMethO h
theorem lenT {Cs : List CE} {Φ : Nat → List T → M T} {ts : List T} (h : P (.int ts.length) μ) : OkI (I.bLenO Cs Φ [.tup ts] μ) P E := by
  simp only [OkI_eq, I.cVar_eq, I.cK_eq, I.c1_eq, I.c2_eq, I.cN_eq, I.aNil_eq, I.aCons_eq, I.aStar_eq, I.cTest_eq, I.cTru_eq, I.cAnd_eq, I.cOr_eq, I.cNot_eq, I.cYes_eq, I.cIf_eq, I.cAndT_eq, I.cOrT_eq, I.cNotT_eq, I.cChain_eq, I.cCall_eq, I.cSlice_eq, I.oNone_eq, I.oSome_eq, I.cKw_eq, I.cMeth_eq, I.cRgL1_eq, I.cRgL2_eq, I.iSeq_eq, I.iRg1_eq, I.iRg2_eq, I.iZp_eq, I.iEn_eq, I.cLc_eq, I.cLc2_eq, I.lcT_eq, I.sNil_eq, I.sPass_eq, I.sBreak_eq, I.sCont_eq, I.sBad_eq, I.sRetN_eq, I.sSeq_eq, I.sExpr_eq, I.sRet_eq, I.sSet_eq, I.sIf_eq, I.sAsg_eq, I.sStore_eq, I.sPar_eq, I.sPar3_eq, I.sAug_eq, I.sFor_eq, I.stp_eq, I.fnD_eq, I.gIxD_eq, I.gAdd_eq, I.gSub_eq, I.gMulI_eq, I.gFdiv_eq, I.gMod_eq, I.gPow_eq, I.gLt_eq, I.gLe_eq, I.gGt_eq, I.gGe_eq, I.gNeg_eq, I.gEqD_eq, I.gIs_eq, I.gIsNot_eq, I.bLen_eq, I.bInt_eq, I.bTuple_eq, I.bListD_eq, I.mTup_eq, I.mLst_eq, I.mNew_eq, I.mSeq_eq, I.mTru_eq, I.mCut_eq, I.mPut_eq, I.bAll_eq, I.bAny_eq, I.bSum_eq, I.bSorted_eq, I.bMax_eq, I.bMin_eq, I.kMM_eq, I.bIsi_eq, I.mIt_eq, I.mEnu_eq, I.mZip_eq, I.forL_eq, I.whileL_eq, I.lcL_eq, I.lcO_eq, I.lcB2_eq, I.cDisp_eq, I.gIn_eq, I.mUpd_eq, I.mApp_eq, I.mAttr_eq, I.cMethO_eq, I.mMake_eq, I.cMkK_eq, I.sSetA_eq, I.sAugA_eq, I.bLenO_eq, I.sFrz_eq, I.cRepL_eq, I.mRev_eq, I.iRg3_eq, I.cCall0_eq, I.bListN_eq, I.mRepL_eq, I.mRg3_eq, I.gMulJ_eq] at *
  exact R.lenT h
theorem lenL {Cs : List CE} {Φ : Nat → List T → M T} {ts : List T} (h : P (.int ts.length) μ) : OkI (I.bLenO Cs Φ [.lst ts] μ) P E := by
  simp only [OkI_eq, I.cVar_eq, I.cK_eq, I.c1_eq, I.c2_eq, I.cN_eq, I.aNil_eq, I.aCons_eq, I.aStar_eq, I.cTest_eq, I.cTru_eq, I.cAnd_eq, I.cOr_eq, I.cNot_eq, I.cYes_eq, I.cIf_eq, I.cAndT_eq, I.cOrT_eq, I.cNotT_eq, I.cChain_eq, I.cCall_eq, I.cSlice_eq, I.oNone_eq, I.oSome_eq, I.cKw_eq, I.cMeth_eq, I.cRgL1_eq, I.cRgL2_eq, I.iSeq_eq, I.iRg1_eq, I.iRg2_eq, I.iZp_eq, I.iEn_eq, I.cLc_eq, I.cLc2_eq, I.lcT_eq, I.sNil_eq, I.sPass_eq, I.sBreak_eq, I.sCont_eq, I.sBad_eq, I.sRetN_eq, I.sSeq_eq, I.sExpr_eq, I.sRet_eq, I.sSet_eq, I.sIf_eq, I.sAsg_eq, I.sStore_eq, I.sPar_eq, I.sPar3_eq, I.sAug_eq, I.sFor_eq, I.stp_eq, I.fnD_eq, I.gIxD_eq, I.gAdd_eq, I.gSub_eq, I.gMulI_eq, I.gFdiv_eq, I.gMod_eq, I.gPow_eq, I.gLt_eq, I.gLe_eq, I.gGt_eq, I.gGe_eq, I.gNeg_eq, I.gEqD_eq, I.gIs_eq, I.gIsNot_eq, I.bLen_eq, I.bInt_eq, I.bTuple_eq, I.bListD_eq, I.mTup_eq, I.mLst_eq, I.mNew_eq, I.mSeq_eq, I.mTru_eq, I.mCut_eq, I.mPut_eq, I.bAll_eq, I.bAny_eq, I.bSum_eq, I.bSorted_eq, I.bMax_eq, I.bMin_eq, I.kMM_eq, I.bIsi_eq, I.mIt_eq, I.mEnu_eq, I.mZip_eq, I.forL_eq, I.whileL_eq, I.lcL_eq, I.lcO_eq, I.lcB2_eq, I.cDisp_eq, I.gIn_eq, I.mUpd_eq, I.mApp_eq, I.mAttr_eq, I.cMethO_eq, I.mMake_eq, I.cMkK_eq, I.sSetA_eq, I.sAugA_eq, I.bLenO_eq, I.sFrz_eq, I.cRepL_eq, I.mRev_eq, I.iRg3_eq, I.cCall0_eq, I.bListN_eq, I.mRepL_eq, I.mRg3_eq, I.gMulJ_eq] at *
  exact R.lenL h
theorem lenS {Cs : List CE} {Φ : Nat → List T → M T} {ts : List T} (h : P (.int ts.length) μ) : OkI (I.bLenO Cs Φ [.scr ts] μ) P E := by
  simp only [OkI_eq, I.cVar_eq, I.cK_eq, I.c1_eq, I.c2_eq, I.cN_eq, I.aNil_eq, I.aCons_eq, I.aStar_eq, I.cTest_eq, I.cTru_eq, I.cAnd_eq, I.cOr_eq, I.cNot_eq, I.cYes_eq, I.cIf_eq, I.cAndT_eq, I.cOrT_eq, I.cNotT_eq, I.cChain_eq, I.cCall_eq, I.cSlice_eq, I.oNone_eq, I.oSome_eq, I.cKw_eq, I.cMeth_eq, I.cRgL1_eq, I.cRgL2_eq, I.iSeq_eq, I.iRg1_eq, I.iRg2_eq, I.iZp_eq, I.iEn_eq, I.cLc_eq, I.cLc2_eq, I.lcT_eq, I.sNil_eq, I.sPass_eq, I.sBreak_eq, I.sCont_eq, I.sBad_eq, I.sRetN_eq, I.sSeq_eq, I.sExpr_eq, I.sRet_eq, I.sSet_eq, I.sIf_eq, I.sAsg_eq, I.sStore_eq, I.sPar_eq, I.sPar3_eq, I.sAug_eq, I.sFor_eq, I.stp_eq, I.fnD_eq, I.gIxD_eq, I.gAdd_eq, I.gSub_eq, I.gMulI_eq, I.gFdiv_eq, I.gMod_eq, I.gPow_eq, I.gLt_eq, I.gLe_eq, I.gGt_eq, I.gGe_eq, I.gNeg_eq, I.gEqD_eq, I.gIs_eq, I.gIsNot_eq, I.bLen_eq, I.bInt_eq, I.bTuple_eq, I.bListD_eq, I.mTup_eq, I.mLst_eq, I.mNew_eq, I.mSeq_eq, I.mTru_eq, I.mCut_eq, I.mPut_eq, I.bAll_eq, I.bAny_eq, I.bSum_eq, I.bSorted_eq, I.bMax_eq, I.bMin_eq, I.kMM_eq, I.bIsi_eq, I.mIt_eq, I.mEnu_eq, I.mZip_eq, I.forL_eq, I.whileL_eq, I.lcL_eq, I.lcO_eq, I.lcB2_eq, I.cDisp_eq, I.gIn_eq, I.mUpd_eq, I.mApp_eq, I.mAttr_eq, I.cMethO_eq, I.mMake_eq, I.cMkK_eq, I.sSetA_eq, I.sAugA_eq, I.bLenO_eq, I.sFrz_eq, I.cRepL_eq, I.mRev_eq, I.iRg3_eq, I.cCall0_eq, I.bListN_eq, I.mRepL_eq, I.mRg3_eq, I.gMulJ_eq] at *
  exact R.lenS h
theorem lenO {Cs : List CE} {Φ : Nat → List T → M T} {n : Nat} {ts : List T} (hm : μ[n]? = some (some (.lst ts))) (h : P (.int ts.length) μ) : OkI (I.bLenO Cs Φ [.obj n] μ) P E := by
  simp only [OkI_eq, I.cVar_eq, I.cK_eq, I.c1_eq, I.c2_eq, I.cN_eq, I.aNil_eq, I.aCons_eq, I.aStar_eq, I.cTest_eq, I.cTru_eq, I.cAnd_eq, I.cOr_eq, I.cNot_eq, I.cYes_eq, I.cIf_eq, I.cAndT_eq, I.cOrT_eq, I.cNotT_eq, I.cChain_eq, I.cCall_eq, I.cSlice_eq, I.oNone_eq, I.oSome_eq, I.cKw_eq, I.cMeth_eq, I.cRgL1_eq, I.cRgL2_eq, I.iSeq_eq, I.iRg1_eq, I.iRg2_eq, I.iZp_eq, I.iEn_eq, I.cLc_eq, I.cLc2_eq, I.lcT_eq, I.sNil_eq, I.sPass_eq, I.sBreak_eq, I.sCont_eq, I.sBad_eq, I.sRetN_eq, I.sSeq_eq, I.sExpr_eq, I.sRet_eq, I.sSet_eq, I.sIf_eq, I.sAsg_eq, I.sStore_eq, I.sPar_eq, I.sPar3_eq, I.sAug_eq, I.sFor_eq, I.stp_eq, I.fnD_eq, I.gIxD_eq, I.gAdd_eq, I.gSub_eq, I.gMulI_eq, I.gFdiv_eq, I.gMod_eq, I.gPow_eq, I.gLt_eq, I.gLe_eq, I.gGt_eq, I.gGe_eq, I.gNeg_eq, I.gEqD_eq, I.gIs_eq, I.gIsNot_eq, I.bLen_eq, I.bInt_eq, I.bTuple_eq, I.bListD_eq, I.mTup_eq, I.mLst_eq, I.mNew_eq, I.mSeq_eq, I.mTru_eq, I.mCut_eq, I.mPut_eq, I.bAll_eq, I.bAny_eq, I.bSum_eq, I.bSorted_eq, I.bMax_eq, I.bMin_eq, I.kMM_eq, I.bIsi_eq, I.mIt_eq, I.mEnu_eq, I.mZip_eq, I.forL_eq, I.whileL_eq, I.lcL_eq, I.lcO_eq, I.lcB2_eq, I.cDisp_eq, I.gIn_eq, I.mUpd_eq, I.mApp_eq, I.mAttr_eq, I.cMethO_eq, I.mMake_eq, I.cMkK_eq, I.sSetA_eq, I.sAugA_eq, I.bLenO_eq, I.sFrz_eq, I.cRepL_eq, I.mRev_eq, I.iRg3_eq, I.cCall0_eq, I.bListN_eq, I.mRepL_eq, I.mRg3_eq, I.gMulJ_eq] at *
  exact R.lenO hm h
theorem lenF {Cs : List CE} {Φ : Nat → List T → M T} {c j : Nat} {ts : List T} {e : CE} {n : Int} (hc : Cs[c]? = some e) (hp : e.ms.lookup ("__len__" : Str) = some (j, 1)) (hj : Φ j [.ins c ts] μ = .ok (.int n) μ) (h0 : 0 ≤ n) (h1 : n < 1000000) (h : P (.int n) μ) : OkI (I.bLenO Cs Φ [.ins c ts] μ) P E := by
  simp only [OkI_eq, I.cVar_eq, I.cK_eq, I.c1_eq, I.c2_eq, I.cN_eq, I.aNil_eq, I.aCons_eq, I.aStar_eq, I.cTest_eq, I.cTru_eq, I.cAnd_eq, I.cOr_eq, I.cNot_eq, I.cYes_eq, I.cIf_eq, I.cAndT_eq, I.cOrT_eq, I.cNotT_eq, I.cChain_eq, I.cCall_eq, I.cSlice_eq, I.oNone_eq, I.oSome_eq, I.cKw_eq, I.cMeth_eq, I.cRgL1_eq, I.cRgL2_eq, I.iSeq_eq, I.iRg1_eq, I.iRg2_eq, I.iZp_eq, I.iEn_eq, I.cLc_eq, I.cLc2_eq, I.lcT_eq, I.sNil_eq, I.sPass_eq, I.sBreak_eq, I.sCont_eq, I.sBad_eq, I.sRetN_eq, I.sSeq_eq, I.sExpr_eq, I.sRet_eq, I.sSet_eq, I.sIf_eq, I.sAsg_eq, I.sStore_eq, I.sPar_eq, I.sPar3_eq, I.sAug_eq, I.sFor_eq, I.stp_eq, I.fnD_eq, I.gIxD_eq, I.gAdd_eq, I.gSub_eq, I.gMulI_eq, I.gFdiv_eq, I.gMod_eq, I.gPow_eq, I.gLt_eq, I.gLe_eq, I.gGt_eq, I.gGe_eq, I.gNeg_eq, I.gEqD_eq, I.gIs_eq, I.gIsNot_eq, I.bLen_eq, I.bInt_eq, I.bTuple_eq, I.bListD_eq, I.mTup_eq, I.mLst_eq, I.mNew_eq, I.mSeq_eq, I.mTru_eq, I.mCut_eq, I.mPut_eq, I.bAll_eq, I.bAny_eq, I.bSum_eq, I.bSorted_eq, I.bMax_eq, I.bMin_eq, I.kMM_eq, I.bIsi_eq, I.mIt_eq, I.mEnu_eq, I.mZip_eq, I.forL_eq, I.whileL_eq, I.lcL_eq, I.lcO_eq, I.lcB2_eq, I.cDisp_eq, I.gIn_eq, I.mUpd_eq, I.mApp_eq, I.mAttr_eq, I.cMethO_eq, I.mMake_eq, I.cMkK_eq, I.sSetA_eq, I.sAugA_eq, I.bLenO_eq, I.sFrz_eq, I.cRepL_eq, I.mRev_eq, I.iRg3_eq, I.cCall0_eq, I.bListN_eq, I.mRepL_eq, I.mRg3_eq, I.gMulJ_eq] at *
  exact R.lenF hc hp hj h0 h1 h
theorem sFrzL {i n : Nat} {ts : List T} {ρ' : Env} (hr : ρ[i]? = some (some (.obj n))) (hm : μ[n]? = some (some (.lst ts))) (e : ρ.set i (some (.lst ts)) = ρ') (h : OkI (s ρ' (μ.set n none)) Q E) : OkI (I.sFrz i s ρ μ) Q E := by
  simp only [OkI_eq, I.cVar_eq, I.cK_eq, I.c1_eq, I.c2_eq, I.cN_eq, I.aNil_eq, I.aCons_eq, I.aStar_eq, I.cTest_eq, I.cTru_eq, I.cAnd_eq, I.cOr_eq, I.cNot_eq, I.cYes_eq, I.cIf_eq, I.cAndT_eq, I.cOrT_eq, I.cNotT_eq, I.cChain_eq, I.cCall_eq, I.cSlice_eq, I.oNone_eq, I.oSome_eq, I.cKw_eq, I.cMeth_eq, I.cRgL1_eq, I.cRgL2_eq, I.iSeq_eq, I.iRg1_eq, I.iRg2_eq, I.iZp_eq, I.iEn_eq, I.cLc_eq, I.cLc2_eq, I.lcT_eq, I.sNil_eq, I.sPass_eq, I.sBreak_eq, I.sCont_eq, I.sBad_eq, I.sRetN_eq, I.sSeq_eq, I.sExpr_eq, I.sRet_eq, I.sSet_eq, I.sIf_eq, I.sAsg_eq, I.sStore_eq, I.sPar_eq, I.sPar3_eq, I.sAug_eq, I.sFor_eq, I.stp_eq, I.fnD_eq, I.gIxD_eq, I.gAdd_eq, I.gSub_eq, I.gMulI_eq, I.gFdiv_eq, I.gMod_eq, I.gPow_eq, I.gLt_eq, I.gLe_eq, I.gGt_eq, I.gGe_eq, I.gNeg_eq, I.gEqD_eq, I.gIs_eq, I.gIsNot_eq, I.bLen_eq, I.bInt_eq, I.bTuple_eq, I.bListD_eq, I.mTup_eq, I.mLst_eq, I.mNew_eq, I.mSeq_eq, I.mTru_eq, I.mCut_eq, I.mPut_eq, I.bAll_eq, I.bAny_eq, I.bSum_eq, I.bSorted_eq, I.bMax_eq, I.bMin_eq, I.kMM_eq, I.bIsi_eq, I.mIt_eq, I.mEnu_eq, I.mZip_eq, I.forL_eq, I.whileL_eq, I.lcL_eq, I.lcO_eq, I.lcB2_eq, I.cDisp_eq, I.gIn_eq, I.mUpd_eq, I.mApp_eq, I.mAttr_eq, I.cMethO_eq, I.mMake_eq, I.cMkK_eq, I.sSetA_eq, I.sAugA_eq, I.bLenO_eq, I.sFrz_eq, I.cRepL_eq, I.mRev_eq, I.iRg3_eq, I.cCall0_eq, I.bListN_eq, I.mRepL_eq, I.mRg3_eq, I.gMulJ_eq] at *
  exact R.sFrzL hr hm e h
theorem sFrzT {i : Nat} {t : T} (hr : ρ[i]? = some (some t)) (hn : ∀ n, t ≠ .obj n) (h : OkI (s ρ μ) Q E) : OkI (I.sFrz i s ρ μ) Q E := by
  simp only [OkI_eq, I.cVar_eq, I.cK_eq, I.c1_eq, I.c2_eq, I.cN_eq, I.aNil_eq, I.aCons_eq, I.aStar_eq, I.cTest_eq, I.cTru_eq, I.cAnd_eq, I.cOr_eq, I.cNot_eq, I.cYes_eq, I.cIf_eq, I.cAndT_eq, I.cOrT_eq, I.cNotT_eq, I.cChain_eq, I.cCall_eq, I.cSlice_eq, I.oNone_eq, I.oSome_eq, I.cKw_eq, I.cMeth_eq, I.cRgL1_eq, I.cRgL2_eq, I.iSeq_eq, I.iRg1_eq, I.iRg2_eq, I.iZp_eq, I.iEn_eq, I.cLc_eq, I.cLc2_eq, I.lcT_eq, I.sNil_eq, I.sPass_eq, I.sBreak_eq, I.sCont_eq, I.sBad_eq, I.sRetN_eq, I.sSeq_eq, I.sExpr_eq, I.sRet_eq, I.sSet_eq, I.sIf_eq, I.sAsg_eq, I.sStore_eq, I.sPar_eq, I.sPar3_eq, I.sAug_eq, I.sFor_eq, I.stp_eq, I.fnD_eq, I.gIxD_eq, I.gAdd_eq, I.gSub_eq, I.gMulI_eq, I.gFdiv_eq, I.gMod_eq, I.gPow_eq, I.gLt_eq, I.gLe_eq, I.gGt_eq, I.gGe_eq, I.gNeg_eq, I.gEqD_eq, I.gIs_eq, I.gIsNot_eq, I.bLen_eq, I.bInt_eq, I.bTuple_eq, I.bListD_eq, I.mTup_eq, I.mLst_eq, I.mNew_eq, I.mSeq_eq, I.mTru_eq, I.mCut_eq, I.mPut_eq, I.bAll_eq, I.bAny_eq, I.bSum_eq, I.bSorted_eq, I.bMax_eq, I.bMin_eq, I.kMM_eq, I.bIsi_eq, I.mIt_eq, I.mEnu_eq, I.mZip_eq, I.forL_eq, I.whileL_eq, I.lcL_eq, I.lcO_eq, I.lcB2_eq, I.cDisp_eq, I.gIn_eq, I.mUpd_eq, I.mApp_eq, I.mAttr_eq, I.cMethO_eq, I.mMake_eq, I.cMkK_eq, I.sSetA_eq, I.sAugA_eq, I.bLenO_eq, I.sFrz_eq, I.cRepL_eq, I.mRev_eq, I.iRg3_eq, I.cCall0_eq, I.bListN_eq, I.mRepL_eq, I.mRg3_eq, I.gMulJ_eq] at *
  exact R.sFrzT hr hn h
theorem cRepL {new : Bool} (h : OkI (as ρ μ) (fun ts μ1 => ts.length ≤ lim ∧ OkI (b ρ μ1) (fun y μ2 => OkI (I.mRepL new ts y μ2) P E) E) E) : OkI (I.cRepL new as b ρ μ) P E := by
  simp only [OkI_eq, I.cVar_eq, I.cK_eq, I.c1_eq, I.c2_eq, I.cN_eq, I.aNil_eq, I.aCons_eq, I.aStar_eq, I.cTest_eq, I.cTru_eq, I.cAnd_eq, I.cOr_eq, I.cNot_eq, I.cYes_eq, I.cIf_eq, I.cAndT_eq, I.cOrT_eq, I.cNotT_eq, I.cChain_eq, I.cCall_eq, I.cSlice_eq, I.oNone_eq, I.oSome_eq, I.cKw_eq, I.cMeth_eq, I.cRgL1_eq, I.cRgL2_eq, I.iSeq_eq, I.iRg1_eq, I.iRg2_eq, I.iZp_eq, I.iEn_eq, I.cLc_eq, I.cLc2_eq, I.lcT_eq, I.sNil_eq, I.sPass_eq, I.sBreak_eq, I.sCont_eq, I.sBad_eq, I.sRetN_eq, I.sSeq_eq, I.sExpr_eq, I.sRet_eq, I.sSet_eq, I.sIf_eq, I.sAsg_eq, I.sStore_eq, I.sPar_eq, I.sPar3_eq, I.sAug_eq, I.sFor_eq, I.stp_eq, I.fnD_eq, I.gIxD_eq, I.gAdd_eq, I.gSub_eq, I.gMulI_eq, I.gFdiv_eq, I.gMod_eq, I.gPow_eq, I.gLt_eq, I.gLe_eq, I.gGt_eq, I.gGe_eq, I.gNeg_eq, I.gEqD_eq, I.gIs_eq, I.gIsNot_eq, I.bLen_eq, I.bInt_eq, I.bTuple_eq, I.bListD_eq, I.mTup_eq, I.mLst_eq, I.mNew_eq, I.mSeq_eq, I.mTru_eq, I.mCut_eq, I.mPut_eq, I.bAll_eq, I.bAny_eq, I.bSum_eq, I.bSorted_eq, I.bMax_eq, I.bMin_eq, I.kMM_eq, I.bIsi_eq, I.mIt_eq, I.mEnu_eq, I.mZip_eq, I.forL_eq, I.whileL_eq, I.lcL_eq, I.lcO_eq, I.lcB2_eq, I.cDisp_eq, I.gIn_eq, I.mUpd_eq, I.mApp_eq, I.mAttr_eq, I.cMethO_eq, I.mMake_eq, I.cMkK_eq, I.sSetA_eq, I.sAugA_eq, I.bLenO_eq, I.sFrz_eq, I.cRepL_eq, I.mRev_eq, I.iRg3_eq, I.cCall0_eq, I.bListN_eq, I.mRepL_eq, I.mRg3_eq, I.gMulJ_eq] at *
  exact R.cRepL h
theorem mRep0 {t : T} {k : Int} (h0 : 0 ≤ k) (h1 : k ≤ 1000000) (h : P (.lst (List.replicate k.toNat t)) μ) : OkI (I.mRepL false [t] (.int k) μ) P E := by
  simp only [OkI_eq, I.cVar_eq, I.cK_eq, I.c1_eq, I.c2_eq, I.cN_eq, I.aNil_eq, I.aCons_eq, I.aStar_eq, I.cTest_eq, I.cTru_eq, I.cAnd_eq, I.cOr_eq, I.cNot_eq, I.cYes_eq, I.cIf_eq, I.cAndT_eq, I.cOrT_eq, I.cNotT_eq, I.cChain_eq, I.cCall_eq, I.cSlice_eq, I.oNone_eq, I.oSome_eq, I.cKw_eq, I.cMeth_eq, I.cRgL1_eq, I.cRgL2_eq, I.iSeq_eq, I.iRg1_eq, I.iRg2_eq, I.iZp_eq, I.iEn_eq, I.cLc_eq, I.cLc2_eq, I.lcT_eq, I.sNil_eq, I.sPass_eq, I.sBreak_eq, I.sCont_eq, I.sBad_eq, I.sRetN_eq, I.sSeq_eq, I.sExpr_eq, I.sRet_eq, I.sSet_eq, I.sIf_eq, I.sAsg_eq, I.sStore_eq, I.sPar_eq, I.sPar3_eq, I.sAug_eq, I.sFor_eq, I.stp_eq, I.fnD_eq, I.gIxD_eq, I.gAdd_eq, I.gSub_eq, I.gMulI_eq, I.gFdiv_eq, I.gMod_eq, I.gPow_eq, I.gLt_eq, I.gLe_eq, I.gGt_eq, I.gGe_eq, I.gNeg_eq, I.gEqD_eq, I.gIs_eq, I.gIsNot_eq, I.bLen_eq, I.bInt_eq, I.bTuple_eq, I.bListD_eq, I.mTup_eq, I.mLst_eq, I.mNew_eq, I.mSeq_eq, I.mTru_eq, I.mCut_eq, I.mPut_eq, I.bAll_eq, I.bAny_eq, I.bSum_eq, I.bSorted_eq, I.bMax_eq, I.bMin_eq, I.kMM_eq, I.bIsi_eq, I.mIt_eq, I.mEnu_eq, I.mZip_eq, I.forL_eq, I.whileL_eq, I.lcL_eq, I.lcO_eq, I.lcB2_eq, I.cDisp_eq, I.gIn_eq, I.mUpd_eq, I.mApp_eq, I.mAttr_eq, I.cMethO_eq, I.mMake_eq, I.cMkK_eq, I.sSetA_eq, I.sAugA_eq, I.bLenO_eq, I.sFrz_eq, I.cRepL_eq, I.mRev_eq, I.iRg3_eq, I.cCall0_eq, I.bListN_eq, I.mRepL_eq, I.mRg3_eq, I.gMulJ_eq] at *
  exact R.mRep0 h0 h1 h
theorem mRep1 {t : T} {k : Int} (h0 : 0 ≤ k) (h1 : k ≤ 1000000) (h : P (.obj μ.length) (μ ++ [some (.lst (List.replicate k.toNat t))])) : OkI (I.mRepL true [t] (.int k) μ) P E := by
  simp only [OkI_eq, I.cVar_eq, I.cK_eq, I.c1_eq, I.c2_eq, I.cN_eq, I.aNil_eq, I.aCons_eq, I.aStar_eq, I.cTest_eq, I.cTru_eq, I.cAnd_eq, I.cOr_eq, I.cNot_eq, I.cYes_eq, I.cIf_eq, I.cAndT_eq, I.cOrT_eq, I.cNotT_eq, I.cChain_eq, I.cCall_eq, I.cSlice_eq, I.oNone_eq, I.oSome_eq, I.cKw_eq, I.cMeth_eq, I.cRgL1_eq, I.cRgL2_eq, I.iSeq_eq, I.iRg1_eq, I.iRg2_eq, I.iZp_eq, I.iEn_eq, I.cLc_eq, I.cLc2_eq, I.lcT_eq, I.sNil_eq, I.sPass_eq, I.sBreak_eq, I.sCont_eq, I.sBad_eq, I.sRetN_eq, I.sSeq_eq, I.sExpr_eq, I.sRet_eq, I.sSet_eq, I.sIf_eq, I.sAsg_eq, I.sStore_eq, I.sPar_eq, I.sPar3_eq, I.sAug_eq, I.sFor_eq, I.stp_eq, I.fnD_eq, I.gIxD_eq, I.gAdd_eq, I.gSub_eq, I.gMulI_eq, I.gFdiv_eq, I.gMod_eq, I.gPow_eq, I.gLt_eq, I.gLe_eq, I.gGt_eq, I.gGe_eq, I.gNeg_eq, I.gEqD_eq, I.gIs_eq, I.gIsNot_eq, I.bLen_eq, I.bInt_eq, I.bTuple_eq, I.bListD_eq, I.mTup_eq, I.mLst_eq, I.mNew_eq, I.mSeq_eq, I.mTru_eq, I.mCut_eq, I.mPut_eq, I.bAll_eq, I.bAny_eq, I.bSum_eq, I.bSorted_eq, I.bMax_eq, I.bMin_eq, I.kMM_eq, I.bIsi_eq, I.mIt_eq, I.mEnu_eq, I.mZip_eq, I.forL_eq, I.whileL_eq, I.lcL_eq, I.lcO_eq, I.lcB2_eq, I.cDisp_eq, I.gIn_eq, I.mUpd_eq, I.mApp_eq, I.mAttr_eq, I.cMethO_eq, I.mMake_eq, I.cMkK_eq, I.sSetA_eq, I.sAugA_eq, I.bLenO_eq, I.sFrz_eq, I.cRepL_eq, I.mRev_eq, I.iRg3_eq, I.cCall0_eq, I.bListN_eq, I.mRepL_eq, I.mRg3_eq, I.gMulJ_eq] at *
  exact R.mRep1 h0 h1 h
theorem mRevL {ts : List T} (h : P (.lst ts.reverse) μ) : OkI (I.mRev (.lst ts) μ) P E := by
  simp only [OkI_eq, I.cVar_eq, I.cK_eq, I.c1_eq, I.c2_eq, I.cN_eq, I.aNil_eq, I.aCons_eq, I.aStar_eq, I.cTest_eq, I.cTru_eq, I.cAnd_eq, I.cOr_eq, I.cNot_eq, I.cYes_eq, I.cIf_eq, I.cAndT_eq, I.cOrT_eq, I.cNotT_eq, I.cChain_eq, I.cCall_eq, I.cSlice_eq, I.oNone_eq, I.oSome_eq, I.cKw_eq, I.cMeth_eq, I.cRgL1_eq, I.cRgL2_eq, I.iSeq_eq, I.iRg1_eq, I.iRg2_eq, I.iZp_eq, I.iEn_eq, I.cLc_eq, I.cLc2_eq, I.lcT_eq, I.sNil_eq, I.sPass_eq, I.sBreak_eq, I.sCont_eq, I.sBad_eq, I.sRetN_eq, I.sSeq_eq, I.sExpr_eq, I.sRet_eq, I.sSet_eq, I.sIf_eq, I.sAsg_eq, I.sStore_eq, I.sPar_eq, I.sPar3_eq, I.sAug_eq, I.sFor_eq, I.stp_eq, I.fnD_eq, I.gIxD_eq, I.gAdd_eq, I.gSub_eq, I.gMulI_eq, I.gFdiv_eq, I.gMod_eq, I.gPow_eq, I.gLt_eq, I.gLe_eq, I.gGt_eq, I.gGe_eq, I.gNeg_eq, I.gEqD_eq, I.gIs_eq, I.gIsNot_eq, I.bLen_eq, I.bInt_eq, I.bTuple_eq, I.bListD_eq, I.mTup_eq, I.mLst_eq, I.mNew_eq, I.mSeq_eq, I.mTru_eq, I.mCut_eq, I.mPut_eq, I.bAll_eq, I.bAny_eq, I.bSum_eq, I.bSorted_eq, I.bMax_eq, I.bMin_eq, I.kMM_eq, I.bIsi_eq, I.mIt_eq, I.mEnu_eq, I.mZip_eq, I.forL_eq, I.whileL_eq, I.lcL_eq, I.lcO_eq, I.lcB2_eq, I.cDisp_eq, I.gIn_eq, I.mUpd_eq, I.mApp_eq, I.mAttr_eq, I.cMethO_eq, I.mMake_eq, I.cMkK_eq, I.sSetA_eq, I.sAugA_eq, I.bLenO_eq, I.sFrz_eq, I.cRepL_eq, I.mRev_eq, I.iRg3_eq, I.cCall0_eq, I.bListN_eq, I.mRepL_eq, I.mRg3_eq, I.gMulJ_eq] at *
  exact R.mRevL h
theorem iRg3 (h : OkI (as ρ μ) (fun x μ' => ∃ i j c, x = [.int i, .int j, .int c] ∧ rg3B i j c = true ∧ PL (rg3T i j c) μ') E) : OkI (I.iRg3 as ρ μ) PL E := by
  simp only [OkI_eq, I.cVar_eq, I.cK_eq, I.c1_eq, I.c2_eq, I.cN_eq, I.aNil_eq, I.aCons_eq, I.aStar_eq, I.cTest_eq, I.cTru_eq, I.cAnd_eq, I.cOr_eq, I.cNot_eq, I.cYes_eq, I.cIf_eq, I.cAndT_eq, I.cOrT_eq, I.cNotT_eq, I.cChain_eq, I.cCall_eq, I.cSlice_eq, I.oNone_eq, I.oSome_eq, I.cKw_eq, I.cMeth_eq, I.cRgL1_eq, I.cRgL2_eq, I.iSeq_eq, I.iRg1_eq, I.iRg2_eq, I.iZp_eq, I.iEn_eq, I.cLc_eq, I.cLc2_eq, I.lcT_eq, I.sNil_eq, I.sPass_eq, I.sBreak_eq, I.sCont_eq, I.sBad_eq, I.sRetN_eq, I.sSeq_eq, I.sExpr_eq, I.sRet_eq, I.sSet_eq, I.sIf_eq, I.sAsg_eq, I.sStore_eq, I.sPar_eq, I.sPar3_eq, I.sAug_eq, I.sFor_eq, I.stp_eq, I.fnD_eq, I.gIxD_eq, I.gAdd_eq, I.gSub_eq, I.gMulI_eq, I.gFdiv_eq, I.gMod_eq, I.gPow_eq, I.gLt_eq, I.gLe_eq, I.gGt_eq, I.gGe_eq, I.gNeg_eq, I.gEqD_eq, I.gIs_eq, I.gIsNot_eq, I.bLen_eq, I.bInt_eq, I.bTuple_eq, I.bListD_eq, I.mTup_eq, I.mLst_eq, I.mNew_eq, I.mSeq_eq, I.mTru_eq, I.mCut_eq, I.mPut_eq, I.bAll_eq, I.bAny_eq, I.bSum_eq, I.bSorted_eq, I.bMax_eq, I.bMin_eq, I.kMM_eq, I.bIsi_eq, I.mIt_eq, I.mEnu_eq, I.mZip_eq, I.forL_eq, I.whileL_eq, I.lcL_eq, I.lcO_eq, I.lcB2_eq, I.cDisp_eq, I.gIn_eq, I.mUpd_eq, I.mApp_eq, I.mAttr_eq, I.cMethO_eq, I.mMake_eq, I.cMkK_eq, I.sSetA_eq, I.sAugA_eq, I.bLenO_eq, I.sFrz_eq, I.cRepL_eq, I.mRev_eq, I.iRg3_eq, I.cCall0_eq, I.bListN_eq, I.mRepL_eq, I.mRg3_eq, I.gMulJ_eq] at *
  exact R.iRg3 h
theorem cCall0 {g : List T → M T} (h : OkI (g [] μ) P fun _ _ => False) : OkI (I.cCall0 g ρ μ) P E := by
  simp only [OkI_eq, I.cVar_eq, I.cK_eq, I.c1_eq, I.c2_eq, I.cN_eq, I.aNil_eq, I.aCons_eq, I.aStar_eq, I.cTest_eq, I.cTru_eq, I.cAnd_eq, I.cOr_eq, I.cNot_eq, I.cYes_eq, I.cIf_eq, I.cAndT_eq, I.cOrT_eq, I.cNotT_eq, I.cChain_eq, I.cCall_eq, I.cSlice_eq, I.oNone_eq, I.oSome_eq, I.cKw_eq, I.cMeth_eq, I.cRgL1_eq, I.cRgL2_eq, I.iSeq_eq, I.iRg1_eq, I.iRg2_eq, I.iZp_eq, I.iEn_eq, I.cLc_eq, I.cLc2_eq, I.lcT_eq, I.sNil_eq, I.sPass_eq, I.sBreak_eq, I.sCont_eq, I.sBad_eq, I.sRetN_eq, I.sSeq_eq, I.sExpr_eq, I.sRet_eq, I.sSet_eq, I.sIf_eq, I.sAsg_eq, I.sStore_eq, I.sPar_eq, I.sPar3_eq, I.sAug_eq, I.sFor_eq, I.stp_eq, I.fnD_eq, I.gIxD_eq, I.gAdd_eq, I.gSub_eq, I.gMulI_eq, I.gFdiv_eq, I.gMod_eq, I.gPow_eq, I.gLt_eq, I.gLe_eq, I.gGt_eq, I.gGe_eq, I.gNeg_eq, I.gEqD_eq, I.gIs_eq, I.gIsNot_eq, I.bLen_eq, I.bInt_eq, I.bTuple_eq, I.bListD_eq, I.mTup_eq, I.mLst_eq, I.mNew_eq, I.mSeq_eq, I.mTru_eq, I.mCut_eq, I.mPut_eq, I.bAll_eq, I.bAny_eq, I.bSum_eq, I.bSorted_eq, I.bMax_eq, I.bMin_eq, I.kMM_eq, I.bIsi_eq, I.mIt_eq, I.mEnu_eq, I.mZip_eq, I.forL_eq, I.whileL_eq, I.lcL_eq, I.lcO_eq, I.lcB2_eq, I.cDisp_eq, I.gIn_eq, I.mUpd_eq, I.mApp_eq, I.mAttr_eq, I.cMethO_eq, I.mMake_eq, I.cMkK_eq, I.sSetA_eq, I.sAugA_eq, I.bLenO_eq, I.sFrz_eq, I.cRepL_eq, I.mRev_eq, I.iRg3_eq, I.cCall0_eq, I.bListN_eq, I.mRepL_eq, I.mRg3_eq, I.gMulJ_eq] at *
  exact R.cCall0 h
theorem bListNT {ts : List T} (h : P (.obj μ.length) (μ ++ [some (.lst ts)])) : OkI (I.bListN [.tup ts] μ) P E := by
  simp only [OkI_eq, I.cVar_eq, I.cK_eq, I.c1_eq, I.c2_eq, I.cN_eq, I.aNil_eq, I.aCons_eq, I.aStar_eq, I.cTest_eq, I.cTru_eq, I.cAnd_eq, I.cOr_eq, I.cNot_eq, I.cYes_eq, I.cIf_eq, I.cAndT_eq, I.cOrT_eq, I.cNotT_eq, I.cChain_eq, I.cCall_eq, I.cSlice_eq, I.oNone_eq, I.oSome_eq, I.cKw_eq, I.cMeth_eq, I.cRgL1_eq, I.cRgL2_eq, I.iSeq_eq, I.iRg1_eq, I.iRg2_eq, I.iZp_eq, I.iEn_eq, I.cLc_eq, I.cLc2_eq, I.lcT_eq, I.sNil_eq, I.sPass_eq, I.sBreak_eq, I.sCont_eq, I.sBad_eq, I.sRetN_eq, I.sSeq_eq, I.sExpr_eq, I.sRet_eq, I.sSet_eq, I.sIf_eq, I.sAsg_eq, I.sStore_eq, I.sPar_eq, I.sPar3_eq, I.sAug_eq, I.sFor_eq, I.stp_eq, I.fnD_eq, I.gIxD_eq, I.gAdd_eq, I.gSub_eq, I.gMulI_eq, I.gFdiv_eq, I.gMod_eq, I.gPow_eq, I.gLt_eq, I.gLe_eq, I.gGt_eq, I.gGe_eq, I.gNeg_eq, I.gEqD_eq, I.gIs_eq, I.gIsNot_eq, I.bLen_eq, I.bInt_eq, I.bTuple_eq, I.bListD_eq, I.mTup_eq, I.mLst_eq, I.mNew_eq, I.mSeq_eq, I.mTru_eq, I.mCut_eq, I.mPut_eq, I.bAll_eq, I.bAny_eq, I.bSum_eq, I.bSorted_eq, I.bMax_eq, I.bMin_eq, I.kMM_eq, I.bIsi_eq, I.mIt_eq, I.mEnu_eq, I.mZip_eq, I.forL_eq, I.whileL_eq, I.lcL_eq, I.lcO_eq, I.lcB2_eq, I.cDisp_eq, I.gIn_eq, I.mUpd_eq, I.mApp_eq, I.mAttr_eq, I.cMethO_eq, I.mMake_eq, I.cMkK_eq, I.sSetA_eq, I.sAugA_eq, I.bLenO_eq, I.sFrz_eq, I.cRepL_eq, I.mRev_eq, I.iRg3_eq, I.cCall0_eq, I.bListN_eq, I.mRepL_eq, I.mRg3_eq, I.gMulJ_eq] at *
  exact R.bListNT h
theorem bListNL {ts : List T} (h : P (.obj μ.length) (μ ++ [some (.lst ts)])) : OkI (I.bListN [.lst ts] μ) P E := by
  simp only [OkI_eq, I.cVar_eq, I.cK_eq, I.c1_eq, I.c2_eq, I.cN_eq, I.aNil_eq, I.aCons_eq, I.aStar_eq, I.cTest_eq, I.cTru_eq, I.cAnd_eq, I.cOr_eq, I.cNot_eq, I.cYes_eq, I.cIf_eq, I.cAndT_eq, I.cOrT_eq, I.cNotT_eq, I.cChain_eq, I.cCall_eq, I.cSlice_eq, I.oNone_eq, I.oSome_eq, I.cKw_eq, I.cMeth_eq, I.cRgL1_eq, I.cRgL2_eq, I.iSeq_eq, I.iRg1_eq, I.iRg2_eq, I.iZp_eq, I.iEn_eq, I.cLc_eq, I.cLc2_eq, I.lcT_eq, I.sNil_eq, I.sPass_eq, I.sBreak_eq, I.sCont_eq, I.sBad_eq, I.sRetN_eq, I.sSeq_eq, I.sExpr_eq, I.sRet_eq, I.sSet_eq, I.sIf_eq, I.sAsg_eq, I.sStore_eq, I.sPar_eq, I.sPar3_eq, I.sAug_eq, I.sFor_eq, I.stp_eq, I.fnD_eq, I.gIxD_eq, I.gAdd_eq, I.gSub_eq, I.gMulI_eq, I.gFdiv_eq, I.gMod_eq, I.gPow_eq, I.gLt_eq, I.gLe_eq, I.gGt_eq, I.gGe_eq, I.gNeg_eq, I.gEqD_eq, I.gIs_eq, I.gIsNot_eq, I.bLen_eq, I.bInt_eq, I.bTuple_eq, I.bListD_eq, I.mTup_eq, I.mLst_eq, I.mNew_eq, I.mSeq_eq, I.mTru_eq, I.mCut_eq, I.mPut_eq, I.bAll_eq, I.bAny_eq, I.bSum_eq, I.bSorted_eq, I.bMax_eq, I.bMin_eq, I.kMM_eq, I.bIsi_eq, I.mIt_eq, I.mEnu_eq, I.mZip_eq, I.forL_eq, I.whileL_eq, I.lcL_eq, I.lcO_eq, I.lcB2_eq, I.cDisp_eq, I.gIn_eq, I.mUpd_eq, I.mApp_eq, I.mAttr_eq, I.cMethO_eq, I.mMake_eq, I.cMkK_eq, I.sSetA_eq, I.sAugA_eq, I.bLenO_eq, I.sFrz_eq, I.cRepL_eq, I.mRev_eq, I.iRg3_eq, I.cCall0_eq, I.bListN_eq, I.mRepL_eq, I.mRg3_eq, I.gMulJ_eq] at *
  exact R.bListNL h
theorem gMulT1 {ts : List T} (h : P (.tup ts) μ) : OkI (I.gMulI (.tup ts) (.int 1) μ) P E := by
  simp only [OkI_eq, I.cVar_eq, I.cK_eq, I.c1_eq, I.c2_eq, I.cN_eq, I.aNil_eq, I.aCons_eq, I.aStar_eq, I.cTest_eq, I.cTru_eq, I.cAnd_eq, I.cOr_eq, I.cNot_eq, I.cYes_eq, I.cIf_eq, I.cAndT_eq, I.cOrT_eq, I.cNotT_eq, I.cChain_eq, I.cCall_eq, I.cSlice_eq, I.oNone_eq, I.oSome_eq, I.cKw_eq, I.cMeth_eq, I.cRgL1_eq, I.cRgL2_eq, I.iSeq_eq, I.iRg1_eq, I.iRg2_eq, I.iZp_eq, I.iEn_eq, I.cLc_eq, I.cLc2_eq, I.lcT_eq, I.sNil_eq, I.sPass_eq, I.sBreak_eq, I.sCont_eq, I.sBad_eq, I.sRetN_eq, I.sSeq_eq, I.sExpr_eq, I.sRet_eq, I.sSet_eq, I.sIf_eq, I.sAsg_eq, I.sStore_eq, I.sPar_eq, I.sPar3_eq, I.sAug_eq, I.sFor_eq, I.stp_eq, I.fnD_eq, I.gIxD_eq, I.gAdd_eq, I.gSub_eq, I.gMulI_eq, I.gFdiv_eq, I.gMod_eq, I.gPow_eq, I.gLt_eq, I.gLe_eq, I.gGt_eq, I.gGe_eq, I.gNeg_eq, I.gEqD_eq, I.gIs_eq, I.gIsNot_eq, I.bLen_eq, I.bInt_eq, I.bTuple_eq, I.bListD_eq, I.mTup_eq, I.mLst_eq, I.mNew_eq, I.mSeq_eq, I.mTru_eq, I.mCut_eq, I.mPut_eq, I.bAll_eq, I.bAny_eq, I.bSum_eq, I.bSorted_eq, I.bMax_eq, I.bMin_eq, I.kMM_eq, I.bIsi_eq, I.mIt_eq, I.mEnu_eq, I.mZip_eq, I.forL_eq, I.whileL_eq, I.lcL_eq, I.lcO_eq, I.lcB2_eq, I.cDisp_eq, I.gIn_eq, I.mUpd_eq, I.mApp_eq, I.mAttr_eq, I.cMethO_eq, I.mMake_eq, I.cMkK_eq, I.sSetA_eq, I.sAugA_eq, I.bLenO_eq, I.sFrz_eq, I.cRepL_eq, I.mRev_eq, I.iRg3_eq, I.cCall0_eq, I.bListN_eq, I.mRepL_eq, I.mRg3_eq, I.gMulJ_eq] at *
  exact R.gMulT1 h
theorem gMulT {t : T} {k : Int} (h0 : 1 ≤ k) (h1 : k ≤ 1000) (h : P (.tup (List.replicate k.toNat t)) μ) : OkI (I.gMulI (.tup [t]) (.int k) μ) P E := by
  simp only [OkI_eq, I.cVar_eq, I.cK_eq, I.c1_eq, I.c2_eq, I.cN_eq, I.aNil_eq, I.aCons_eq, I.aStar_eq, I.cTest_eq, I.cTru_eq, I.cAnd_eq, I.cOr_eq, I.cNot_eq, I.cYes_eq, I.cIf_eq, I.cAndT_eq, I.cOrT_eq, I.cNotT_eq, I.cChain_eq, I.cCall_eq, I.cSlice_eq, I.oNone_eq, I.oSome_eq, I.cKw_eq, I.cMeth_eq, I.cRgL1_eq, I.cRgL2_eq, I.iSeq_eq, I.iRg1_eq, I.iRg2_eq, I.iZp_eq, I.iEn_eq, I.cLc_eq, I.cLc2_eq, I.lcT_eq, I.sNil_eq, I.sPass_eq, I.sBreak_eq, I.sCont_eq, I.sBad_eq, I.sRetN_eq, I.sSeq_eq, I.sExpr_eq, I.sRet_eq, I.sSet_eq, I.sIf_eq, I.sAsg_eq, I.sStore_eq, I.sPar_eq, I.sPar3_eq, I.sAug_eq, I.sFor_eq, I.stp_eq, I.fnD_eq, I.gIxD_eq, I.gAdd_eq, I.gSub_eq, I.gMulI_eq, I.gFdiv_eq, I.gMod_eq, I.gPow_eq, I.gLt_eq, I.gLe_eq, I.gGt_eq, I.gGe_eq, I.gNeg_eq, I.gEqD_eq, I.gIs_eq, I.gIsNot_eq, I.bLen_eq, I.bInt_eq, I.bTuple_eq, I.bListD_eq, I.mTup_eq, I.mLst_eq, I.mNew_eq, I.mSeq_eq, I.mTru_eq, I.mCut_eq, I.mPut_eq, I.bAll_eq, I.bAny_eq, I.bSum_eq, I.bSorted_eq, I.bMax_eq, I.bMin_eq, I.kMM_eq, I.bIsi_eq, I.mIt_eq, I.mEnu_eq, I.mZip_eq, I.forL_eq, I.whileL_eq, I.lcL_eq, I.lcO_eq, I.lcB2_eq, I.cDisp_eq, I.gIn_eq, I.mUpd_eq, I.mApp_eq, I.mAttr_eq, I.cMethO_eq, I.mMake_eq, I.cMkK_eq, I.sSetA_eq, I.sAugA_eq, I.bLenO_eq, I.sFrz_eq, I.cRepL_eq, I.mRev_eq, I.iRg3_eq, I.cCall0_eq, I.bListN_eq, I.mRepL_eq, I.mRg3_eq, I.gMulJ_eq] at *
  exact R.gMulT h0 h1 h
theorem isiTup {ts : List T} (h : P (.bl true) μ) : OkI (I.bIsi [.tup ts, .ty "tuple"] μ) P E := by
  simp only [OkI_eq, I.cVar_eq, I.cK_eq, I.c1_eq, I.c2_eq, I.cN_eq, I.aNil_eq, I.aCons_eq, I.aStar_eq, I.cTest_eq, I.cTru_eq, I.cAnd_eq, I.cOr_eq, I.cNot_eq, I.cYes_eq, I.cIf_eq, I.cAndT_eq, I.cOrT_eq, I.cNotT_eq, I.cChain_eq, I.cCall_eq, I.cSlice_eq, I.oNone_eq, I.oSome_eq, I.cKw_eq, I.cMeth_eq, I.cRgL1_eq, I.cRgL2_eq, I.iSeq_eq, I.iRg1_eq, I.iRg2_eq, I.iZp_eq, I.iEn_eq, I.cLc_eq, I.cLc2_eq, I.lcT_eq, I.sNil_eq, I.sPass_eq, I.sBreak_eq, I.sCont_eq, I.sBad_eq, I.sRetN_eq, I.sSeq_eq, I.sExpr_eq, I.sRet_eq, I.sSet_eq, I.sIf_eq, I.sAsg_eq, I.sStore_eq, I.sPar_eq, I.sPar3_eq, I.sAug_eq, I.sFor_eq, I.stp_eq, I.fnD_eq, I.gIxD_eq, I.gAdd_eq, I.gSub_eq, I.gMulI_eq, I.gFdiv_eq, I.gMod_eq, I.gPow_eq, I.gLt_eq, I.gLe_eq, I.gGt_eq, I.gGe_eq, I.gNeg_eq, I.gEqD_eq, I.gIs_eq, I.gIsNot_eq, I.bLen_eq, I.bInt_eq, I.bTuple_eq, I.bListD_eq, I.mTup_eq, I.mLst_eq, I.mNew_eq, I.mSeq_eq, I.mTru_eq, I.mCut_eq, I.mPut_eq, I.bAll_eq, I.bAny_eq, I.bSum_eq, I.bSorted_eq, I.bMax_eq, I.bMin_eq, I.kMM_eq, I.bIsi_eq, I.mIt_eq, I.mEnu_eq, I.mZip_eq, I.forL_eq, I.whileL_eq, I.lcL_eq, I.lcO_eq, I.lcB2_eq, I.cDisp_eq, I.gIn_eq, I.mUpd_eq, I.mApp_eq, I.mAttr_eq, I.cMethO_eq, I.mMake_eq, I.cMkK_eq, I.sSetA_eq, I.sAugA_eq, I.bLenO_eq, I.sFrz_eq, I.cRepL_eq, I.mRev_eq, I.iRg3_eq, I.cCall0_eq, I.bListN_eq, I.mRepL_eq, I.mRg3_eq, I.gMulJ_eq] at *
  exact R.isiTup h
theorem isiInt {i : Int} (h : P (.bl true) μ) : OkI (I.bIsi [.int i, .ty "int"] μ) P E := by
  simp only [OkI_eq, I.cVar_eq, I.cK_eq, I.c1_eq, I.c2_eq, I.cN_eq, I.aNil_eq, I.aCons_eq, I.aStar_eq, I.cTest_eq, I.cTru_eq, I.cAnd_eq, I.cOr_eq, I.cNot_eq, I.cYes_eq, I.cIf_eq, I.cAndT_eq, I.cOrT_eq, I.cNotT_eq, I.cChain_eq, I.cCall_eq, I.cSlice_eq, I.oNone_eq, I.oSome_eq, I.cKw_eq, I.cMeth_eq, I.cRgL1_eq, I.cRgL2_eq, I.iSeq_eq, I.iRg1_eq, I.iRg2_eq, I.iZp_eq, I.iEn_eq, I.cLc_eq, I.cLc2_eq, I.lcT_eq, I.sNil_eq, I.sPass_eq, I.sBreak_eq, I.sCont_eq, I.sBad_eq, I.sRetN_eq, I.sSeq_eq, I.sExpr_eq, I.sRet_eq, I.sSet_eq, I.sIf_eq, I.sAsg_eq, I.sStore_eq, I.sPar_eq, I.sPar3_eq, I.sAug_eq, I.sFor_eq, I.stp_eq, I.fnD_eq, I.gIxD_eq, I.gAdd_eq, I.gSub_eq, I.gMulI_eq, I.gFdiv_eq, I.gMod_eq, I.gPow_eq, I.gLt_eq, I.gLe_eq, I.gGt_eq, I.gGe_eq, I.gNeg_eq, I.gEqD_eq, I.gIs_eq, I.gIsNot_eq, I.bLen_eq, I.bInt_eq, I.bTuple_eq, I.bListD_eq, I.mTup_eq, I.mLst_eq, I.mNew_eq, I.mSeq_eq, I.mTru_eq, I.mCut_eq, I.mPut_eq, I.bAll_eq, I.bAny_eq, I.bSum_eq, I.bSorted_eq, I.bMax_eq, I.bMin_eq, I.kMM_eq, I.bIsi_eq, I.mIt_eq, I.mEnu_eq, I.mZip_eq, I.forL_eq, I.whileL_eq, I.lcL_eq, I.lcO_eq, I.lcB2_eq, I.cDisp_eq, I.gIn_eq, I.mUpd_eq, I.mApp_eq, I.mAttr_eq, I.cMethO_eq, I.mMake_eq, I.cMkK_eq, I.sSetA_eq, I.sAugA_eq, I.bLenO_eq, I.sFrz_eq, I.cRepL_eq, I.mRev_eq, I.iRg3_eq, I.cCall0_eq, I.bListN_eq, I.mRepL_eq, I.mRg3_eq, I.gMulJ_eq] at *
  exact R.isiInt h
theorem isiIntB {i : Int} (h : P (.bl false) μ) : OkI (I.bIsi [.int i, .ty "bool"] μ) P E := by
  simp only [OkI_eq, I.cVar_eq, I.cK_eq, I.c1_eq, I.c2_eq, I.cN_eq, I.aNil_eq, I.aCons_eq, I.aStar_eq, I.cTest_eq, I.cTru_eq, I.cAnd_eq, I.cOr_eq, I.cNot_eq, I.cYes_eq, I.cIf_eq, I.cAndT_eq, I.cOrT_eq, I.cNotT_eq, I.cChain_eq, I.cCall_eq, I.cSlice_eq, I.oNone_eq, I.oSome_eq, I.cKw_eq, I.cMeth_eq, I.cRgL1_eq, I.cRgL2_eq, I.iSeq_eq, I.iRg1_eq, I.iRg2_eq, I.iZp_eq, I.iEn_eq, I.cLc_eq, I.cLc2_eq, I.lcT_eq, I.sNil_eq, I.sPass_eq, I.sBreak_eq, I.sCont_eq, I.sBad_eq, I.sRetN_eq, I.sSeq_eq, I.sExpr_eq, I.sRet_eq, I.sSet_eq, I.sIf_eq, I.sAsg_eq, I.sStore_eq, I.sPar_eq, I.sPar3_eq, I.sAug_eq, I.sFor_eq, I.stp_eq, I.fnD_eq, I.gIxD_eq, I.gAdd_eq, I.gSub_eq, I.gMulI_eq, I.gFdiv_eq, I.gMod_eq, I.gPow_eq, I.gLt_eq, I.gLe_eq, I.gGt_eq, I.gGe_eq, I.gNeg_eq, I.gEqD_eq, I.gIs_eq, I.gIsNot_eq, I.bLen_eq, I.bInt_eq, I.bTuple_eq, I.bListD_eq, I.mTup_eq, I.mLst_eq, I.mNew_eq, I.mSeq_eq, I.mTru_eq, I.mCut_eq, I.mPut_eq, I.bAll_eq, I.bAny_eq, I.bSum_eq, I.bSorted_eq, I.bMax_eq, I.bMin_eq, I.kMM_eq, I.bIsi_eq, I.mIt_eq, I.mEnu_eq, I.mZip_eq, I.forL_eq, I.whileL_eq, I.lcL_eq, I.lcO_eq, I.lcB2_eq, I.cDisp_eq, I.gIn_eq, I.mUpd_eq, I.mApp_eq, I.mAttr_eq, I.cMethO_eq, I.mMake_eq, I.cMkK_eq, I.sSetA_eq, I.sAugA_eq, I.bLenO_eq, I.sFrz_eq, I.cRepL_eq, I.mRev_eq, I.iRg3_eq, I.cCall0_eq, I.bListN_eq, I.mRepL_eq, I.mRg3_eq, I.gMulJ_eq] at *
  exact R.isiIntB h
end

section
variable {E : Exc → Store → Prop} {Q : Out → Store → Prop} {P : List T → Store → Prop}
theorem forI {step : T → Env → M Out} {ts : List T} {ρ : Env} {μ : Store} (J : Nat → Env → Store → Prop) (h0 : J 0 ρ μ)
    (hs : ∀ j t ρ μ, ts[j]? = some t → J j ρ μ → OkI (step t ρ μ) (fun o μ' => match o with
      | .nx ρ' => J (j + 1) ρ' μ'
      | .ct ρ' => J (j + 1) ρ' μ'
      | .bk ρ' => Q (.nx ρ') μ'
      | .rt u => Q (.rt u) μ'
      | .xx ρ' e => Q (.xx ρ' e) μ') E) (he : ∀ ρ μ, J ts.length ρ μ → Q (.nx ρ) μ) : OkI (I.forL ts step ρ μ) Q E := by
  rw [I.forL_eq]
  simp only [OkI_eq] at *
  exact ok_for J h0 hs he
theorem whileI {c : Env → M Bool} {b : Env → M Out} (J : Nat → Env → Store → Prop) (hs : ∀ n ρ μ, J (n + 1) ρ μ → OkI (c ρ μ) (fun k μ1 => if k then OkI (b ρ μ1) (fun o μ' => match o with
      | .nx ρ' => J n ρ' μ'
      | .ct ρ' => J n ρ' μ'
      | .bk ρ' => Q (.nx ρ') μ'
      | .rt u => Q (.rt u) μ'
      | .xx ρ' e => Q (.xx ρ' e) μ') E else Q (.nx ρ) μ1) (fun e μ' => Q (.xx ρ e) μ')) (h0 : ∀ ρ μ, ¬ J 0 ρ μ) (n : Nat) (ρ : Env) (μ : Store) (h : J n ρ μ) : OkI (I.whileL n c b ρ μ) Q E := by
  rw [I.whileL_eq]
  simp only [OkI_eq] at *
  exact ok_while J hs h0 n ρ μ h
theorem lcI {b : T → M (Option T)} {ts : List T} {μ : Store} (J : Nat → List T → Store → Prop) (h0 : J 0 [] μ) (hl : ts.length ≤ lim)
    (hs : ∀ j t acc μ, ts[j]? = some t → J j acc μ → OkI (b t μ) (fun o μ' => match o with
      | some y => J (j + 1) (acc ++ [y]) μ'
      | none => J (j + 1) acc μ') E) (he : ∀ acc μ, J ts.length acc μ → P acc μ) : OkI (I.lcL ts b [] μ) P E := by
  rw [I.lcL_eq]
  simp only [OkI_eq] at *
  exact ok_lcL J h0 hl hs he
variable {α : Type} {b : T → M (Option T)} {μ : Store}
theorem lcF {enc : α → T} (p : α → Bool) (f : α → T) {l : List α} (h : ∀ a ∈ l, OkI (b (enc a) μ) (fun o μ' => o = (if p a then some (f a) else none) ∧ μ' = μ) fun _ _ => False) (hl : l.length ≤ lim) (hP : P ((l.filter p).map f) μ) : OkI (I.lcL (l.map enc) b [] μ) P E := by
  rw [I.lcL_eq]
  simp only [OkI_eq] at *
  exact lc_filter p f h hl hP
theorem lcM {enc : α → T} (f : α → T) {l : List α} (h : ∀ a ∈ l, OkI (b (enc a) μ) (fun o μ' => o = some (f a) ∧ μ' = μ) fun _ _ => False) (hl : l.length ≤ lim) (hP : P (l.map f) μ) : OkI (I.lcL (l.map enc) b [] μ) P E := by
  rw [I.lcL_eq]
  simp only [OkI_eq] at *
  exact lc_map f h hl hP
theorem inL1 {d : Int} {l : List Int} {μ : Store} {P : T → Store → Prop} {E : Exc → Store → Prop} (h : P (.bl (!decide (d ∈ l))) μ) : OkI (I.gIn true (.int d) (.lst (l.map T.int)) μ) P E := by rw [I.gIn_eq]; simp only [OkI_eq] at *; exact R.inL1 h
theorem inL0 {d : Int} {l : List Int} {μ : Store} {P : T → Store → Prop} {E : Exc → Store → Prop} (h : P (.bl (decide (d ∈ l))) μ) : OkI (I.gIn false (.int d) (.lst (l.map T.int)) μ) P E := by rw [I.gIn_eq]; simp only [OkI_eq] at *; exact R.inL0 h
theorem inT1 {d : Int} {l : List Int} {μ : Store} {P : T → Store → Prop} {E : Exc → Store → Prop} (h : P (.bl (!decide (d ∈ l))) μ) : OkI (I.gIn true (.int d) (.tup (l.map T.int)) μ) P E := by rw [I.gIn_eq]; simp only [OkI_eq] at *; exact R.inT1 h
theorem inT0 {d : Int} {l : List Int} {μ : Store} {P : T → Store → Prop} {E : Exc → Store → Prop} (h : P (.bl (decide (d ∈ l))) μ) : OkI (I.gIn false (.int d) (.tup (l.map T.int)) μ) P E := by rw [I.gIn_eq]; simp only [OkI_eq] at *; exact R.inT0 h
theorem lcL_map_eqI {enc : α → T} (f : α → T) (l : List α) (acc : List T) (h : ∀ a ∈ l, OkI (b (enc a) μ) (fun o μ' => o = some (f a) ∧ μ' = μ) fun _ _ => False) (hl : acc.length + l.length ≤ lim) : I.lcL (l.map enc) b acc μ = .ok (acc ++ l.map f) μ := by
  rw [I.lcL_eq]
  simp only [OkI_eq] at *
  exact lcL_map_eq f l acc h hl
theorem lcO_pureI {b : T → List T → M (List T)} {g : T → List T} {μ : Store} {ts : List T} {acc : List T} (h : ∀ t ∈ ts, ∀ acc, acc.length + (g t).length ≤ lim → b t acc μ = .ok (acc ++ g t) μ) (hl : acc.length + (ts.flatMap g).length ≤ lim) : I.lcO ts b acc μ = .ok (acc ++ ts.flatMap g) μ := by
  rw [I.lcO_eq]
  exact lcO_pure h hl
end
end RI
end Tw

/-! TwR: calls by their specs; clean data -/
namespace Tw
open PySem L2
theorem RI.pure {g : List T → M T} {ts : List T} {t : T} {μ1 μ : Store} {P : T → Store → Prop} {E : Exc → Store → Prop} (c : cleans ts = true) (ct : clean t = true) (h : g ts [] = .ok t μ1) (q : P t μ) : OkI (pureC g ts μ) P E := OkI.of_eq (pureC_ok c ct h) q
theorem RI.use {r : Res T} {t : T} {μ : Store} {P : T → Store → Prop} {E : Exc → Store → Prop} (h : r = .ok t μ) (q : P t μ) : OkI r P E := OkI.of_eq h q
/-- a clean call's result, by its body on an empty store -/
theorem spec {tab : List FE} {k i N : Nat} {f : Env → M Out} {ts : List T} {t : T} {μ : Store} (e : Ph tab (k + 1) i = pureC (I.fnD N f)) (c : cleans ts = true) (ct : clean t = true) (h : OkI (I.fnD N f ts []) (fun r _ => r = t) fun _ _ => False) : Ph tab (k + 1) i ts μ = .ok t μ := by
  obtain ⟨μ1, h⟩ := h.ex
  rw [e]
  exact pureC_ok c ct h
theorem specX {tab : List FE} {k i N : Nat} {f : Env → M Out} {ts : List T} {P : T → Prop} {μ : Store} (e : Ph tab (k + 1) i = pureC (I.fnD N f)) (c : cleans ts = true) (h : OkI (I.fnD N f ts []) (fun r _ => clean r = true ∧ P r) fun _ _ => False) : ∃ t, P t ∧ Ph tab (k + 1) i ts μ = .ok t μ := by
  rw [OkI_eq] at h
  cases e2 : I.fnD N f ts [] with
  | bad => rw [e2] at h; exact h.elim
  | ex x μ1 => rw [e2] at h; exact h.elim
  | ok t μ1 =>
    rw [e2] at h
    exact ⟨t, h.2, by rw [e]; exact pureC_ok c h.1 e2⟩
/-- a call with an object among its arguments -/
theorem stat {tab : List FE} {k i N : Nat} {f : Env → M Out} {ts : List T} {μ : Store} {P : T → Store → Prop} {E : Exc → Store → Prop} (e : Ph tab (k + 1) i = pureC (I.fnD N f)) (c : cleans ts = false) (h : OkI (I.fnD N f ts μ) P E) : OkI (Ph tab (k + 1) i ts μ) P E := by
  rw [e, pureC_st c]
  exact h
theorem cleans_map {α : Type} (f : α → T) (h : ∀ a, clean (f a) = true) : ∀ l : List α, cleans (l.map f) = true
  | [] => by unfold cleans; rfl
  | a :: l => by
    rw [List.map_cons]
    unfold cleans
    rw [h a, cleans_map f h l]
    rfl
theorem cleans_iff : ∀ {l : List T}, cleans l = true ↔ ∀ t ∈ l, clean t = true
  | [] => by unfold cleans; simp
  | a :: l => by
    unfold cleans
    rw [Bool.and_eq_true, cleans_iff]
    simp
theorem cleans_ints (l : List Int) : cleans (l.map T.int) = true := cleans_map _ (fun _ => by unfold clean; rfl) l
theorem cleans_rg (a b : Int) : cleans (rgT a b) = true := by rw [rgT_eq]; exact cleans_ints _
theorem clean_row (l : List Int) : clean (rowT l) = true := by unfold rowT clean; exact cleans_ints l
theorem cleans_rows (l : List (List Int)) : cleans (l.map rowT) = true := cleans_map _ clean_row l
/-- an int or None -/
def oT : Option Int → T
  | none => .non
  | some i => .int i
theorem clean_oT (o : Option Int) : clean (oT o) = true := by cases o <;> (unfold oT clean; rfl)
theorem cleans_oT (l : List (Option Int)) : cleans (l.map oT) = true := cleans_map _ clean_oT l
theorem cleans_nil : cleans [] = true := by unfold cleans; rfl
theorem cleans_cons (t : T) (ts : List T) : cleans (t :: ts) = (clean t && cleans ts) := by rw [cleans]
theorem clean_int (i : Int) : clean (.int i) = true := by unfold clean; rfl
theorem clean_bl (i : Bool) : clean (.bl i) = true := by unfold clean; rfl
theorem clean_non : clean .non = true := by unfold clean; rfl
theorem clean_str (x : Str) : clean (.str x) = true := by unfold clean; rfl
theorem clean_tup (l : List T) : clean (.tup l) = cleans l := by rw [clean]
theorem clean_lst (l : List T) : clean (.lst l) = cleans l := by rw [clean]
theorem clean_ins (c : Nat) (l : List T) : clean (.ins c l) = cleans l := by rw [clean]
theorem clean_scr (l : List T) : clean (.scr l) = cleans l := by rw [clean]
theorem clean_obj (n : Nat) : clean (.obj n) = false := by rw [clean]
/-- a plate: width, height, most, fall -/
def plT (w h m : Int) (f : Option Int) : T := .ins 0 [.tup [.int w, .int h, .int m, oT f], .tup (rgT 0 (w * h))]
theorem clean_pl (w h m : Int) (f : Option Int) : clean (plT w h m f) = true := by
  unfold plT
  simp only [clean_ins, cleans_cons, clean_tup, clean_int, clean_oT, cleans_nil, cleans_rg, Bool.and_true]

/-! ### slots in loops -/
def putE (ρ : Env) : List Nat → List (Option T) → Env
  | i :: ws, v :: vs => putE (ρ.set i v) ws vs
  | _, _ => ρ
section
variable {E : Exc → Store → Prop} {Q : Out → Store → Prop}
/-- a for loop that stores the slots ws alone -/
theorem RI.forW {step : T → Env → M Out} {ts : List T} {ρ : Env} {μ : Store} (ws : List Nat) (J : Nat → List (Option T) → Store → Prop) (h0 : ∃ vs, ρ = putE ρ ws vs ∧ J 0 vs μ)
    (hs : ∀ j t vs μ, ts[j]? = some t → J j vs μ → OkI (step t (putE ρ ws vs) μ) (fun o μ' => match o with
      | .nx ρ' => ∃ vs', ρ' = putE ρ ws vs' ∧ J (j + 1) vs' μ'
      | .ct ρ' => ∃ vs', ρ' = putE ρ ws vs' ∧ J (j + 1) vs' μ'
      | .bk ρ' => Q (.nx ρ') μ'
      | .rt u => Q (.rt u) μ'
      | .xx ρ' e => Q (.xx ρ' e) μ') E) (he : ∀ vs μ, J ts.length vs μ → Q (.nx (putE ρ ws vs)) μ) : OkI (I.forL ts step ρ μ) Q E := by
  refine RI.forI (J := fun j ρ' μ' => ∃ vs, ρ' = putE ρ ws vs ∧ J j vs μ') h0 (fun j t ρ' μ' e ⟨vs, e1, h⟩ => ?_) fun ρ' μ' ⟨vs, e1, h⟩ => ?_
  · subst e1
    exact (hs j t vs μ' e h).mono (fun o μ2 q => by cases o <;> exact q) fun _ _ z => z
  · subst e1
    exact he vs μ' h
end
/-! ### lists of ints, pairs -/
def enI (l : List Int) : List (Int × Int) := ((List.range l.length).map fun k => ((k : Nat) : Int)).zip l
theorem prs_zip {α β : Type} (f : α → T) (g : β → T) (l : List α) (r : List β) : prs (l.map f) (r.map g) = (l.zip r).map fun p => .tup [f p.1, g p.2] := by
  unfold prs
  rw [List.zip_map, List.map_map]
  rfl
theorem enT_ints (l : List Int) : enT (l.map T.int) = (enI l).map fun p => .tup [.int p.1, .int p.2] := by
  unfold enT enI
  rw [List.length_map, ← prs_zip T.int T.int, List.map_map]
  rfl
theorem enI_length (l : List Int) : (enI l).length = l.length := by unfold enI; simp
theorem enI_get {l : List Int} {i : Nat} {p : Int × Int} (h : (enI l)[i]? = some p) : p.1 = i ∧ l[i]? = some p.2 := by
  unfold enI at h
  rw [List.getElem?_zip_eq_some] at h
  obtain ⟨h1, h2⟩ := h
  rw [List.getElem?_map] at h1
  obtain ⟨k, e1, e2⟩ := Option.map_eq_some_iff.mp h1
  rw [List.getElem?_range] at e1
  · cases e1; exact ⟨e2.symm, h2⟩
  · exact (List.getElem?_eq_some_iff.mp h2).1
theorem enI_mem {l : List Int} {p : Int × Int} (h : p ∈ enI l) : 0 ≤ p.1 ∧ p.1 < l.length ∧ p.2 ∈ l := by
  obtain ⟨i, hi⟩ := List.mem_iff_getElem?.mp h
  obtain ⟨h1, h2⟩ := enI_get hi
  refine ⟨by omega, ?_, List.mem_iff_getElem?.mpr ⟨i, h2⟩⟩
  have := (List.getElem?_eq_some_iff.mp h2).1
  omega
theorem cut1 {α : Type} (f : α → T) (l : List α) : cutT (l.map f) (some 1) none = (l.drop 1).map f := by
  cases l with
  | nil => rfl
  | cons a l =>
    have h1 : HT.sIx (List.map f (a :: l)).length 0 (some 1) = 1 := by
      unfold HT.sIx
      simp
    unfold cutT
    rw [h1]
    show List.take ((List.map f (a :: l)).length - 1) _ = _
    rw [List.take_of_length_le (by simp)]
    simp
/-! ### built-ins over maps -/
section
variable {μ : Store} {P : T → Store → Prop} {E : Exc → Store → Prop} {α : Type}
theorem RI.allM {f : α → Bool} {l : List α} (h : P (.bl (l.all f)) μ) : OkI (I.bAll [.lst (l.map fun a => .bl (f a))] μ) P E := by
  have : (l.map fun a => T.bl (f a)) = (l.map f).map T.bl := by rw [List.map_map]; rfl
  rw [this]
  refine RI.bAll ?_
  rw [List.all_map]
  exact h
theorem RI.allT {l : List α} (h : P (.bl true) μ) : OkI (I.bAll [.lst (l.map fun _ => .bl true)] μ) P E := by
  refine RI.allM (f := fun _ => true) ?_
  have : (l.all fun _ => true) = true := by simp
  rw [this]
  exact h
theorem RI.sumM {f : α → Int} {l : List α} (h : P (.int (l.map f).sum) μ) : OkI (I.bSum [.lst (l.map fun a => .int (f a))] μ) P E := by
  have : (l.map fun a => T.int (f a)) = (l.map f).map T.int := by rw [List.map_map]; rfl
  rw [this]
  exact RI.bSum h
theorem RI.min2 {i j : Int} (h : P (.int (if j < i then j else i)) μ) : OkI (I.bMin [.int i, .int j] μ) P E := by
  rw [OkI_eq, I.bMin_eq]
  exact h
theorem RI.max2 {i j : Int} (h : P (.int (if j > i then j else i)) μ) : OkI (I.bMax [.int i, .int j] μ) P E := by
  rw [OkI_eq, I.bMax_eq]
  exact h
theorem RI.maxT {n : Int} {ns : List Int} (h : P (.int (mxI n ns)) μ) : OkI (I.bMax [.tup ((n :: ns).map T.int)] μ) P E := by
  rw [OkI_eq, I.bMax_eq]
  unfold Tw.bMax bMM
  rw [List.map_cons]
  simp only [seqOf, Option.bind_some]
  rw [← List.map_cons (f := T.int), intsT_map]
  exact h
theorem RI.isN {o : Option Int} (h : P (.bl o.isNone) μ) : OkI (I.gIs (oT o) .non μ) P E := by
  rw [OkI_eq, I.gIs_eq]
  cases o <;> exact h
theorem RI.isNN {o : Option Int} (h : P (.bl o.isSome) μ) : OkI (I.gIsNot (oT o) .non μ) P E := by
  rw [OkI_eq, I.gIsNot_eq]
  cases o <;> exact h
theorem RI.isN0 (h : P (.bl true) μ) : OkI (I.gIs .non .non μ) P E := RI.isN (o := none) h
theorem RI.isNI {i : Int} (h : P (.bl false) μ) : OkI (I.gIs (.int i) .non μ) P E := RI.isN (o := some i) h
theorem RI.isNN0 (h : P (.bl false) μ) : OkI (I.gIsNot .non .non μ) P E := RI.isNN (o := none) h
theorem RI.isNNI {i : Int} (h : P (.bl true) μ) : OkI (I.gIsNot (.int i) .non μ) P E := RI.isNN (o := some i) h
end
theorem R.mulB {i j : Int} (h0 : -1000000 < i) (h1 : i < 1000000) : cMulB i j = true := by
  unfold cMulB
  rw [decide_eq_true (show -(2 ^ 64) < i by omega), decide_eq_true (show i < 2 ^ 64 by omega)]
  rfl
theorem R.inRB {i : Int} (h0 : -1000000 < i) (h1 : i < 1000000) : inR i = true := by
  unfold inR
  rw [decide_eq_true (by omega), decide_eq_true (by omega)]
  rfl
theorem R.rgB {i j : Int} (h0 : -1000000 < i) (h1 : i < 1000000) (h2 : -1000000 < j) (h3 : j < 1000000) : rgOk i j = true := by
  unfold rgOk
  rw [R.inRB h0 h1, R.inRB h2 h3, decide_eq_true (by omega)]
  rfl
theorem R.br1 {c : Bool} {A B : Prop} (h : c = true) (q : A) : (c = true → A) ∧ (c = false → B) := ⟨fun _ => q, fun z => by rw [h] at z; cases z⟩
theorem R.br0 {c : Bool} {A B : Prop} (h : ¬ (c = true)) (q : B) : (c = true → A) ∧ (c = false → B) := ⟨fun z => absurd z h, fun _ => q⟩
theorem R.brF2 {A B : Prop} (h : B) : (false = true → A) ∧ (True → B) := ⟨fun z => (by cases z), fun _ => h⟩
theorem R.brT2 {A B : Prop} (h : A) : (True → A) ∧ (true = false → B) := ⟨fun _ => h, fun z => by cases z⟩
theorem R.brF3 {A B : Prop} (h : B) : (False → A) ∧ (True → B) := ⟨fun z => z.elim, fun _ => h⟩
theorem R.brT3 {A B : Prop} (h : A) : (True → A) ∧ (False → B) := ⟨fun _ => h, fun z => z.elim⟩
/-- o.f = v, once it is known what becomes of the store -/
@[irreducible] def R.StA (Cs : List CE) (f : Str) (t y : T) (μ : Store) (A : Store → Prop) : Prop := ∃ μ3, stA Cs f t y μ = some μ3 ∧ A μ3
theorem R.stA {Cs : List CE} {f : Str} {t y : T} {μ μ3 : Store} {A : Store → Prop} (e : Tw.stA Cs f t y μ = some μ3) (h : A μ3) : R.StA Cs f t y μ A := by unfold R.StA; exact ⟨μ3, e, h⟩
theorem RI.setA {Cs : List CE} {f : Str} {a v : Env → M T} {ρ : Env} {μ : Store} {Q : Out → Store → Prop} {E : Exc → Store → Prop} (h : OkI (v ρ μ) (fun y μ1 => OkI (a ρ μ1) (fun t μ2 => R.StA Cs f t y μ2 fun μ3 => Q (.nx ρ) μ3) (fun e μ' => Q (.xx ρ e) μ')) (fun e μ' => Q (.xx ρ e) μ')) : OkI (I.sSetA Cs f a v ρ μ) Q E := by
  rw [OkI_eq] at *
  rw [I.sSetA_eq]
  unfold sSetA
  rw [ok_bndS]
  refine h.mono (fun y μ1 h => ?_) fun _ _ z => z
  rw [ok_bndS]
  refine h.mono (fun t μ2 q => ?_) fun _ _ z => z
  unfold R.StA at q
  obtain ⟨μ3, e, q⟩ := q
  rw [e]
  exact q
/-- a clean call, once run on an empty store -/
theorem ph_any {tab : List FE} {k i : Nat} {ts : List T} {t : T} {μ1 μ : Store} (h : Ph tab (k + 1) i ts [] = .ok t μ1) (c : cleans ts = true) (ct : clean t = true) : Ph tab (k + 1) i ts μ = .ok t μ := by
  have key : ∀ g : List T → M T, pureC g ts [] = .ok t μ1 → pureC g ts μ = .ok t μ := by
    intro g h
    unfold pureC at h ⊢
    rw [if_pos c] at h ⊢
    cases e : g ts [] with
    | bad => rw [e] at h; cases h
    | ex x μ2 =>
      rw [e] at h
      dsimp only at h
      split at h <;> cases h
    | ok t2 μ2 =>
      rw [e] at h
      dsimp only at h ⊢
      split at h
      · rename_i q
        cases h
        rw [if_pos q]
      · rename_i q
        cases h
        exact absurd ct q
  rw [Ph_succ] at h ⊢
  cases e1 : tab[i]? with
  | none => rw [e1] at h; cases h
  | some e =>
    rw [e1] at h
    dsimp only at h ⊢
    cases e2 : e.b with
    | none => rw [e2] at h; cases h
    | some b =>
      rw [e2] at h
      exact key _ h
/-- the list that comes back -/
def resL : Res T → Option (List T)
  | .ok (.lst ts) _ => some ts
  | _ => none
theorem resL_of {r : Res T} {ts : List T} (h : resL r = some ts) : ∃ μ, r = .ok (.lst ts) μ := by
  unfold resL at h
  split at h
  · cases h; exact ⟨_, rfl⟩
  · cases h
/-- the stores differ at n at most -/
def Oth (n : Nat) (μ μ' : Store) : Prop := μ'.length = μ.length ∧ ∀ j, j ≠ n → μ'[j]? = μ[j]?
theorem Oth.refl {n : Nat} {μ : Store} : Oth n μ μ := ⟨rfl, fun _ _ => rfl⟩
theorem Oth.trans {n : Nat} {μ μ1 μ2 : Store} (a : Oth n μ μ1) (b : Oth n μ1 μ2) : Oth n μ μ2 := ⟨b.1.trans a.1, fun j h => (b.2 j h).trans (a.2 j h)⟩
theorem Oth.set {n : Nat} {μ : Store} {x : Option MO} : Oth n μ (μ.set n x) := ⟨List.length_set .., fun j h => List.getElem?_set_ne (Ne.symm h)⟩
theorem atI_map {α : Type} {f : α → T} {l : List α} {i : Int} {a : α} (h0 : 0 ≤ i) (h : l[i.toNat]? = some a) : atI (l.map f) i = some (f a) := by
  have hl := (List.getElem?_eq_some_iff.mp h).1
  unfold atI ixN
  rw [if_pos h0, if_pos (by rw [List.length_map]; omega)]
  show (l.map f)[i.toNat]? = _
  rw [List.getElem?_map, h]
  rfl
theorem lst_nil {l : List Int} : decide (T.lst (l.map T.int) = T.lst []) = decide (l = []) := by
  cases l with
  | nil => simp
  | cons a l => simp
theorem mxI_le {m : Int} : ∀ (l : List Int) (n : Int), mxI n l ≤ m ↔ n ≤ m ∧ ∀ d ∈ l, d ≤ m
  | [], n => by simp [mxI]
  | a :: l, n => by
    have := mxI_le (m := m) l (max n a)
    unfold mxI at *
    rw [List.foldl_cons, this]
    simp only [List.mem_cons, forall_eq_or_imp]
    constructor
    · rintro ⟨h1, h2⟩
      exact ⟨by omega, by omega, h2⟩
    · rintro ⟨h1, h2, h3⟩
      exact ⟨by omega, h3⟩
/-- a, b = e -/
@[irreducible] def R.Bnd (f : T → Env → Option Env) (t : T) (ρ : Env) (A : Env → Prop) : Prop := ∃ ρ', f t ρ = some ρ' ∧ A ρ'
theorem R.bnd {f : T → Env → Option Env} {t : T} {ρ ρ' : Env} {A : Env → Prop} (e : f t ρ = some ρ') (h : A ρ') : R.Bnd f t ρ A := by unfold R.Bnd; exact ⟨ρ', e, h⟩
theorem RI.asg {a : Env → M T} {f : T → Env → Option Env} {ρ : Env} {μ : Store} {Q : Out → Store → Prop} {E : Exc → Store → Prop} (h : OkI (a ρ μ) (fun t μ' => R.Bnd f t ρ fun ρ' => Q (.nx ρ') μ') (fun e μ' => Q (.xx ρ e) μ')) : OkI (I.sAsg a f ρ μ) Q E := by
  refine RI.sAsg (h.mono (fun t μ' q => ?_) fun _ _ z => z)
  unfold R.Bnd at q
  exact q
theorem rows_at {L : List (List Int)} {r : Int} (h0 : 0 ≤ r) (h1 : r < L.length) : ∃ g ∈ L, atI (L.map rowT) r = some (rowT g) := by
  have hl : r.toNat < L.length := by omega
  exact ⟨L[r.toNat], List.getElem_mem hl, atI_map h0 (List.getElem?_eq_getElem hl)⟩
/-! ### slots kept as a written list -/
theorem RI.qnxN {s' : Env → M Out} {Q : Out → Store → Prop} {E : Exc → Store → Prop} {ρ ρ' : Env} {μ : Store} (e : ρ = ρ') (h : OkI (s' ρ' μ) Q E) : R.seqQ s' Q E (.nx ρ) μ := by
  subst e
  exact RI.qnx h
theorem RI.stpN {f : T → Env → Option Env} {s : Env → M Out} {t : T} {ρ ρ1 ρ2 : Env} {μ : Store} {Q : Out → Store → Prop} {E : Exc → Store → Prop} (e : f t ρ = some ρ1) (e2 : ρ1 = ρ2) (h : OkI (s ρ2 μ) Q E) : OkI (I.stp f s t ρ μ) Q E := by
  subst e2
  exact RI.stp e h
theorem RI.lcTN {f : T → Env → Option Env} {c : Env → M Bool} {a : Env → M T} {ρ ρ' ρ2 : Env} {t : T} {μ : Store} {P : Option T → Store → Prop} {E : Exc → Store → Prop} (e : f t ρ = some ρ') (e2 : ρ' = ρ2) (h : OkI (c ρ2 μ) (fun k μ1 => (k = true → OkI (a ρ2 μ1) (fun u μ2 => P (some u) μ2) fun _ _ => False) ∧ (k = false → P none μ1)) fun _ _ => False) : OkI (I.lcT f c a ρ t μ) P E := by
  subst e2
  exact RI.lcT e h
theorem RI.qnxS {s' : Env → M Out} {Q : Out → Store → Prop} {E : Exc → Store → Prop} {ρ ρ' : Env} {i : Nat} {x : Option T} {μ : Store} (e : ρ.set i x = ρ') (h : OkI (s' ρ' μ) Q E) : R.seqQ s' Q E (.nx (ρ.set i x)) μ := RI.qnxN e h
theorem RI.qnxP {s' : Env → M Out} {Q : Out → Store → Prop} {E : Exc → Store → Prop} {ρ ρ' : Env} {ws : List Nat} {vs : List (Option T)} {μ : Store} (e : putE ρ ws vs = ρ') (h : OkI (s' ρ' μ) Q E) : R.seqQ s' Q E (.nx (putE ρ ws vs)) μ := RI.qnxN e h
/-! ### which rules fit -/
theorem RI.idO {r : Res Out} {P : Out → Store → Prop} {E : Exc → Store → Prop} (h : OkI r P E) : OkI r P E := h
theorem RI.idT {r : Res T} {P : T → Store → Prop} {E : Exc → Store → Prop} (h : OkI r P E) : OkI r P E := h
theorem RI.idL {r : Res (List T)} {P : List T → Store → Prop} {E : Exc → Store → Prop} (h : OkI r P E) : OkI r P E := h
theorem RI.idB {r : Res Bool} {P : Bool → Store → Prop} {E : Exc → Store → Prop} (h : OkI r P E) : OkI r P E := h
/-- a block's rest by a letter -/
theorem RI.sSeqG {s s' : Env → M Out} {ρ : Env} {μ : Store} {Q : Out → Store → Prop} {E : Exc → Store → Prop} (h : ∀ r, r = s' → OkI (s ρ μ) (Tw.R.seqQ r Q E) E) : OkI (I.sSeq s s' ρ μ) Q E := RI.sSeq (h s' rfl)
theorem RI.goR {R s' : Env → M Out} {ρ : Env} {μ : Store} {Q : Out → Store → Prop} {E : Exc → Store → Prop} (e : R = s') (h : OkI (s' ρ μ) Q E) : OkI (R ρ μ) Q E := by
  subst e
  exact h
end Tw

/-! TwRa: loops that append; rows, sums, order -/
namespace Tw
open PySem L2
theorem tyOkL {n : Nat} {μ : Store} {ts : List T} (h : μ[n]? = some (some (.lst ts))) : tyOk "list" (.obj n) μ = true := by
  unfold tyOk lstOf
  simp [h]
theorem RI.appO {n : Nat} {μ : Store} {us : List T} {y : T} {P : T → Store → Prop} {E : Exc → Store → Prop} (hm : μ[n]? = some (some (.lst us))) (hl : us.length < lim) (h : ∀ μ', μ' = μ.set n (some (.lst (us ++ [y]))) → μ'[n]? = some (some (.lst (us ++ [y]))) → P .non μ') : OkI (I.mApp (.obj n) [y] μ) P E := by
  rw [OkI_eq, I.mApp_eq]
  unfold Tw.mApp
  simp only [hm]
  rw [if_pos hl]
  exact h _ rfl (List.getElem?_set_self (List.getElem?_eq_some_iff.mp hm).1)
section
variable {E : Exc → Store → Prop} {Q : Out → Store → Prop} {α : Type}
/-- a for loop each of whose turns appends to the list n alone -/
theorem RI.forA {enc : α → T} {step : T → Env → M Out} {l : List α} {ρ : Env} {μ : Store} {n : Nat} {acc0 : List T} (ws : List Nat) (g : α → List T) (h0 : ∃ vs, ρ = putE ρ ws vs ∧ vs.length = ws.length) (hm : μ[n]? = some (some (.lst acc0))) (hb : acc0.length + (l.flatMap g).length ≤ lim)
    (hs : ∀ a ∈ l, ∀ vs, vs.length = ws.length → ∀ acc μ', μ' = μ.set n (some (.lst acc)) → μ'[n]? = some (some (.lst acc)) → acc.length + (g a).length ≤ lim → OkI (step (enc a) (putE ρ ws vs) μ') (fun o μ2 => (∃ vs', (o = .nx (putE ρ ws vs') ∨ o = .ct (putE ρ ws vs')) ∧ vs'.length = ws.length) ∧ μ2 = μ.set n (some (.lst (acc ++ g a)))) fun _ _ => False)
    (he : ∀ vs, vs.length = ws.length → ∀ μ', μ' = μ.set n (some (.lst (acc0 ++ l.flatMap g))) → μ'[n]? = some (some (.lst (acc0 ++ l.flatMap g))) → Q (.nx (putE ρ ws vs)) μ') : OkI (I.forL (l.map enc) step ρ μ) Q E := by
  have hn : n < μ.length := (List.getElem?_eq_some_iff.mp hm).1
  refine RI.forW ws (fun j vs μ' => vs.length = ws.length ∧ μ' = μ.set n (some (.lst (acc0 ++ (l.take j).flatMap g)))) ?_ (fun j t vs μ' e hJ => ?_) fun vs μ' hJ => ?_
  · obtain ⟨vs, e, hv⟩ := h0
    refine ⟨vs, e, hv, ?_⟩
    rw [List.take_zero, List.flatMap_nil, List.append_nil]
    refine List.ext_getElem? fun i => ?_
    by_cases hi : i = n
    · subst hi
      rw [List.getElem?_set_self hn, hm]
    · rw [List.getElem?_set_ne (Ne.symm hi)]
  · obtain ⟨hv, hμ⟩ := hJ
    rw [List.getElem?_map] at e
    obtain ⟨a, ea, rfl⟩ := Option.map_eq_some_iff.mp e
    have hj := (List.getElem?_eq_some_iff.mp ea).1
    have e2 : (l.take (j + 1)).flatMap g = (l.take j).flatMap g ++ g a := by
      rw [List.take_add_one, ea, List.flatMap_append]
      simp
    have hlen : (acc0 ++ (l.take j).flatMap g).length + (g a).length ≤ lim := by
      have h1 : ((l.take (j + 1)).flatMap g).length ≤ (l.flatMap g).length := by
        conv => rhs; rw [← List.take_append_drop (j + 1) l, List.flatMap_append, List.length_append]
        omega
      rw [e2, List.length_append] at h1
      rw [List.length_append]
      omega
    refine (hs a (List.mem_iff_getElem?.mpr ⟨j, ea⟩) vs hv _ μ' hμ (by rw [hμ]; exact List.getElem?_set_self hn) hlen).mono (fun o μ2 ⟨⟨vs', ho, hv'⟩, h2⟩ => ?_) fun _ _ z => z.elim
    rw [List.append_assoc, ← e2] at h2
    rcases ho with rfl | rfl
    · exact ⟨vs', rfl, hv', h2⟩
    · exact ⟨vs', rfl, hv', h2⟩
  · obtain ⟨hv, hμ⟩ := hJ
    rw [List.length_map, List.take_length] at hμ
    exact he vs hv μ' hμ (by rw [hμ]; exact List.getElem?_set_self hn)
end
theorem len1 {α : Type} {l : List α} (h : l.length = 1) : ∃ a, l = [a] := by
  match l, h with
  | [a], _ => exact ⟨a, rfl⟩
theorem len2 {α : Type} {l : List α} (h : l.length = 2) : ∃ a b, l = [a, b] := by
  match l, h with
  | [a, b], _ => exact ⟨a, b, rfl⟩
theorem len3 {α : Type} {l : List α} (h : l.length = 3) : ∃ a b c, l = [a, b, c] := by
  match l, h with
  | [a, b, c], _ => exact ⟨a, b, c, rfl⟩
theorem len4 {α : Type} {l : List α} (h : l.length = 4) : ∃ a b c d, l = [a, b, c, d] := by
  match l, h with
  | [a, b, c, d], _ => exact ⟨a, b, c, d, rfl⟩
theorem flat1 {α β : Type} (f : α → β) : ∀ l : List α, (l.flatMap fun a => [f a]) = l.map f
  | [] => rfl
  | a :: l => by rw [List.flatMap_cons, flat1 f l]; rfl
/-! ### order of rows -/
theorem dataLt_rows (a b : List Int) : PySem.W.dataLt (.tuple (a.map .int)) (.tuple (b.map .int)) = decide (a < b) := by
  have h := congrFun (congrFun dataLe_tups b) a
  unfold PySem.W.dataLe leRow at h
  simp only [Bool.false_eq_true, if_false] at h
  have h2 : (!PySem.W.dataLt (.tuple (a.map .int)) (.tuple (b.map .int))) = decide (b ≤ a) := h
  by_cases c : a < b
  · rw [decide_eq_true c]
    have : ¬ b ≤ a := fun z => (List.not_lt.mpr z) c
    rw [decide_eq_false this] at h2
    simpa using h2
  · rw [decide_eq_false c]
    rw [decide_eq_true (List.not_lt.mp c)] at h2
    simpa using h2
end Tw

/-! TwRb: the least of data -/
namespace Tw
open PySem L2
/-- the least of things by a total order -/
theorem fold_least {α : Type} (lt : α → α → Bool) (le : α → α → Prop) (hr : ∀ a, le a a) (ht : ∀ a b c, le a b → le b c → le a c) (h1 : ∀ a b, lt a b = true → le a b) (h0 : ∀ a b, lt a b = false → le b a) :
    ∀ (l : List α) (a : α), (l.foldl (fun a y => if lt y a then y else a) a ∈ a :: l) ∧ le (l.foldl (fun a y => if lt y a then y else a) a) a ∧ ∀ y ∈ l, le (l.foldl (fun a y => if lt y a then y else a) a) y
  | [], a => ⟨by simp, hr a, by simp⟩
  | x :: l, a => by
    rw [List.foldl_cons]
    by_cases c : lt x a = true
    · rw [if_pos c]
      obtain ⟨p, q, r⟩ := fold_least lt le hr ht h1 h0 l x
      refine ⟨List.mem_cons_of_mem _ p, ht _ _ _ q (h1 _ _ c), fun y hy => ?_⟩
      rcases List.mem_cons.mp hy with rfl | hy
      · exact q
      · exact r y hy
    · rw [if_neg c]
      obtain ⟨p, q, r⟩ := fold_least lt le hr ht h1 h0 l a
      refine ⟨?_, q, fun y hy => ?_⟩
      · rcases List.mem_cons.mp p with p | p
        · rw [p]; exact List.mem_cons_self
        · exact List.mem_cons_of_mem _ (List.mem_cons_of_mem _ p)
      · rcases List.mem_cons.mp hy with rfl | hy
        · exact ht _ _ _ q (h0 _ _ (by simpa using c))
        · exact r y hy
theorem minD_enc {α : Type} (enc : α → PyData) (lt : α → α → Bool) (h : ∀ a b, PySem.W.dataLt (enc a) (enc b) = lt a b) : ∀ (l : List α) (a : α), PySem.W.minD (enc a) (l.map enc) = enc (l.foldl (fun a y => if lt y a then y else a) a)
  | [], a => rfl
  | x :: l, a => by
    have := minD_enc enc lt h l (if lt x a then x else a)
    unfold PySem.W.minD at this ⊢
    rw [List.map_cons, List.foldl_cons, List.foldl_cons, h, ← this]
    by_cases c : lt x a = true
    · rw [if_pos c, if_pos c]
    · rw [if_neg c, if_neg c]
theorem alike_ints : ∀ (a b : List Int), PySem.W.alikeAll (a.map .int) (b.map .int) = true
  | [], b => by simp [PySem.W.alikeAll]
  | x :: a, [] => by simp [PySem.W.alikeAll]
  | x :: a, y :: b => by
    rw [List.map_cons, List.map_cons, PySem.W.alikeAll, alike_ints a b]
    simp [PySem.W.alike]
theorem unpds_ints : ∀ r : List Int, unpds (r.map .int) = r.map T.int
  | [] => by simp [unpds]
  | a :: r => by rw [List.map_cons, List.map_cons, unpds, unpd, unpds_ints r]
/-! ### rows with a number ahead -/
def lrT (p : Int × List Int) : T := .tup [.int p.1, rowT p.2]
def lrD (p : Int × List Int) : PyData := .tuple [.int p.1, .tuple (p.2.map .int)]
def lrLt (p q : Int × List Int) : Bool := decide (p.1 < q.1) || (decide (p.1 = q.1) && decide (p.2 < q.2))
def lrLe (p q : Int × List Int) : Prop := p.1 < q.1 ∨ p.1 = q.1 ∧ p.2 ≤ q.2
theorem pd_lr (p : Int × List Int) : pd (lrT p) = some (lrD p) := by
  unfold lrT lrD rowT
  simp only [pd, pds, pds_ints, Option.map_some]
theorem pds_lr : ∀ l : List (Int × List Int), pds (l.map lrT) = some (l.map lrD)
  | [] => by simp [pds]
  | p :: l => by rw [List.map_cons, List.map_cons, pds, pd_lr, pds_lr l]
theorem unpd_lr (p : Int × List Int) : unpd (lrD p) = lrT p := unpd_pd _ _ (pd_lr p)
theorem lr_lt (p q : Int × List Int) : PySem.W.dataLt (lrD p) (lrD q) = lrLt p q := by
  obtain ⟨a, r⟩ := p
  obtain ⟨b, s⟩ := q
  unfold lrD lrLt
  rw [PySem.W.dataLt_tuple]
  by_cases c : a = b
  · subst c
    rw [PySem.W.dataLt_all_yes (by simp [PySem.W.alike]) (by simp [PyData.eqv])]
    by_cases d : r = s
    · subst d
      have e1 : PyData.eqv (.tuple (r.map .int)) (.tuple (r.map .int)) = true := PySem.W.eqv_refl_alike _ (by rw [PySem.W.alike]; exact alike_ints r r)
      rw [PySem.W.dataLt_all_yes (by rw [PySem.W.alike]; exact alike_ints r r) e1]
      have : ¬ r < r := List.lt_irrefl r
      simp [this, PySem.W.keyToksAll, PyProof.Rows.lexLt]
      decide
    · have e0 : PyData.eqv (.tuple (r.map .int)) (.tuple (s.map .int)) = false := by
        cases e : PyData.eqv (.tuple (r.map .int)) (.tuple (s.map .int)) with
        | false => rfl
        | true =>
          have h1 : dat 5 (rowT r) = true := dat_row r
          have h2 : dat 5 (rowT s) = true := dat_row s
          have := (eqv_dat (rowT r) (rowT s) 5 (.tuple (r.map .int)) (.tuple (s.map .int)) h1 h2 (by unfold rowT; simp only [pd, pds_ints, Option.map_some]) (by unfold rowT; simp only [pd, pds_ints, Option.map_some])).mp e
          exact absurd (rowT_inj this) d
      rw [PySem.W.dataLt_all_no (by rw [PySem.W.alike]; exact alike_ints r s) e0, dataLt_rows]
      simp
  · rw [PySem.W.dataLt_all_no (by simp [PySem.W.alike]) (by simp [PyData.eqv, c]), PySem.W.dataLt_int]
    simp [c]
theorem lrLe_refl (p : Int × List Int) : lrLe p p := .inr ⟨rfl, List.le_refl _⟩
theorem lrLe_trans (p q r : Int × List Int) (h1 : lrLe p q) (h2 : lrLe q r) : lrLe p r := by
  unfold lrLe at *
  rcases h1 with h1 | ⟨h1, g1⟩ <;> rcases h2 with h2 | ⟨h2, g2⟩
  · exact .inl (by omega)
  · exact .inl (by omega)
  · exact .inl (by omega)
  · exact .inr ⟨by omega, List.le_trans g1 g2⟩
theorem lrLt_le (p q : Int × List Int) (h : lrLt p q = true) : lrLe p q := by
  unfold lrLt at h
  rw [Bool.or_eq_true, Bool.and_eq_true, decide_eq_true_eq, decide_eq_true_eq, decide_eq_true_eq] at h
  exact h.imp id fun ⟨a, b⟩ => ⟨a, List.le_of_lt b⟩
theorem lrLt_ge (p q : Int × List Int) (h : lrLt p q = false) : lrLe q p := by
  unfold lrLt at h
  rw [Bool.or_eq_false_iff, Bool.and_eq_false_iff, decide_eq_false_iff_not, decide_eq_false_iff_not, decide_eq_false_iff_not] at h
  obtain ⟨h1, h2⟩ := h
  unfold lrLe
  by_cases c : q.1 < p.1
  · exact .inl c
  · refine .inr ⟨by omega, ?_⟩
    rcases h2 with h2 | h2
    · exact absurd (show p.1 = q.1 by omega) h2
    · exact List.not_lt.mp h2
theorem depth_lr : ∀ l : List (Int × List Int), PyData.depthAll (l.map lrD) ≤ 60
  | [] => by simp [PyData.depthAll]
  | p :: l => by
    have := depth_lr l
    rw [List.map_cons, PyData.depthAll]
    have e : (lrD p).depth ≤ 60 := by
      unfold lrD
      simp only [PyData.depth, PyData.depthAll]
      rw [PySem.W.depth_ints]
      omega
    omega
theorem alikeB_lr (l : List (Int × List Int)) : alikeB (l.map lrD) = true := by
  unfold alikeB
  rw [List.all_eq_true]
  intro x hx
  obtain ⟨p, _, rfl⟩ := List.mem_map.mp hx
  rw [Bool.and_eq_true, List.all_eq_true]
  refine ⟨rfl, fun y hy => ?_⟩
  obtain ⟨q, _, rfl⟩ := List.mem_map.mp hy
  unfold lrD
  simp only [PySem.W.alike, PySem.W.alikeAll, alike_ints, Bool.and_self]
theorem intsT_lr {p : Int × List Int} {l : List (Int × List Int)} : intsT ((p :: l).map lrT) = none := by
  rw [List.map_cons]
  unfold lrT intsT
  rfl
/-- min([(n, row), ..]) -/
theorem RI.minLR {l : List (Int × List Int)} {μ : Store} {P : T → Store → Prop} {E : Exc → Store → Prop} (hne : l ≠ []) (h : ∀ p ∈ l, (∀ q ∈ l, lrLe p q) → P (lrT p) μ) : OkI (I.bMin [.lst (l.map lrT)] μ) P E := by
  rw [OkI_eq, I.bMin_eq]
  cases l with
  | nil => exact absurd rfl hne
  | cons a l =>
    have e0 : bMin0 [.lst ((a :: l).map lrT)] μ = .bad := by
      unfold bMin0 bMM
      simp only [seqOf, lstOf, Option.bind_some, intsT_lr]
    have e1 : mmL PySem.W.minD [.lst ((a :: l).map lrT)] μ = .ok (lrT (l.foldl (fun a y => if lrLt y a then y else a) a)) μ := by
      unfold mmL mmD
      simp only [seqOf, lstOf, Option.bind_some, pds_lr]
      rw [List.map_cons]
      simp only
      rw [if_pos, minD_enc lrD lrLt lr_lt, unpd_lr]
      rw [Bool.and_eq_true, decide_eq_true_eq]
      exact ⟨alikeB_lr (a :: l), depth_lr (a :: l)⟩
    unfold Tw.bMin
    rw [e0]
    simp only
    rw [e1]
    obtain ⟨p1, p2, p3⟩ := fold_least lrLt lrLe lrLe_refl lrLe_trans lrLt_le lrLt_ge l a
    refine h _ p1 fun q hq => ?_
    rcases List.mem_cons.mp hq with rfl | hq
    · exact p2
    · exact p3 q hq
/-! ### the shortest row, of several the first -/
def shLt (a b : List Int) : Bool := lrLt ((a.length : Int), a) ((b.length : Int), b)
def shLe (a b : List Int) : Prop := lrLe ((a.length : Int), a) ((b.length : Int), b)
def leastF (a : List Int) (l : List (List Int)) : List Int := l.foldl (fun a y => if shLt y a then y else a) a
theorem leastF_of (a : List Int) (l : List (List Int)) : leastF a l ∈ a :: l ∧ ∀ y ∈ a :: l, shLe (leastF a l) y := by
  obtain ⟨p1, p2, p3⟩ := fold_least shLt shLe (fun a => lrLe_refl _) (fun a b c => lrLe_trans _ _ _) (fun a b => lrLt_le _ _) (fun a b => lrLt_ge _ _) l a
  refine ⟨p1, fun y hy => ?_⟩
  rcases List.mem_cons.mp hy with rfl | hy
  · exact p2
  · exact p3 y hy
theorem RI.minSh {a : List Int} {l : List (List Int)} {μ : Store} {P : T → Store → Prop} {E : Exc → Store → Prop} (h : P (.tup [.int (leastF a l).length, rowT (leastF a l)]) μ) : OkI (I.bMin [.lst ((a :: l).map fun g => .tup [.int g.length, rowT g])] μ) P E := by
  have e : ((a :: l).map fun g => T.tup [.int g.length, rowT g]) = ((a :: l).map fun g => ((g.length : Int), g)).map lrT := by rw [List.map_map]; rfl
  rw [e]
  refine RI.minLR (by simp) fun p hp hq => ?_
  obtain ⟨g, hg, rfl⟩ := List.mem_map.mp hp
  obtain ⟨k1, k2⟩ := leastF_of a l
  have h1 := hq _ (List.mem_map.mpr ⟨_, k1, rfl⟩)
  have h2 := k2 g hg
  have : leastF a l = g := by
    unfold shLe at h2
    unfold lrLe at h1 h2
    simp only at h1 h2
    rcases h1 with h1 | ⟨h1, h3⟩ <;> rcases h2 with h2 | ⟨h2, h4⟩
    · omega
    · omega
    · omega
    · exact List.le_antisymm h4 h3
  rw [← this]
  exact h
/-! ### x in rows -/
theorem gIn_rows {neg : Bool} {x : List Int} {L : List (List Int)} {μ : Store} : gIn neg (rowT x) (.lst (L.map rowT)) μ = .ok (.bl (if neg then !decide (x ∈ L) else decide (x ∈ L))) μ := by
  have e0 : gInS neg (rowT x) (.lst (L.map rowT)) μ = .bad := by
    unfold gInS rowT
    rfl
  obtain ⟨d, h1, h2, h3⟩ := dat_pd (rowT x) 3 (dat_row x)
  have hL : dat 3 (.lst (L.map rowT)) = true := dat_rows L
  obtain ⟨e, k1, k2, k3⟩ := dat_pd (.lst (L.map rowT)) 3 hL
  have k1' := k1
  rw [pd, Option.map_eq_some_iff] at k1'
  obtain ⟨ds, k4, rfl⟩ := k1'
  have ha : (ds.any fun z => PyData.eqv z d) = decide (x ∈ L) := by
    have key : ∀ (L : List (List Int)) (ds : List PyData), pds (L.map rowT) = some ds → (ds.any fun z => PyData.eqv z d) = decide (x ∈ L) := by
      intro L
      induction L with
      | nil => intro ds h; simp only [List.map_nil, pds] at h; cases h; simp
      | cons y L ih =>
        intro ds h
        rw [List.map_cons, pds] at h
        split at h
        · rename_i c cs e1 e2
          cases h
          rw [List.any_cons, ih cs e2]
          have := eqv_dat (rowT y) (rowT x) 3 c d (dat_row y) (dat_row x) e1 h1
          by_cases hy : x = y
          · subst hy
            rw [this.mpr rfl]
            simp
          · have hn : PyData.eqv c d = false := by
              cases q : PyData.eqv c d with
              | false => rfl
              | true => exact absurd (rowT_inj (this.mp q)).symm hy
            rw [hn]
            simp [hy]
        · cases h
    exact key L ds k4
  have s1 : SeqAt.shaped d = true := by unfold SeqAt.shaped; rw [h2]; simp; omega
  have s2 : SeqAt.shaped (.list ds) = true := by unfold SeqAt.shaped; rw [k2]; simp; omega
  have e1 : gInD neg (rowT x) (.lst (L.map rowT)) μ = .ok (.bl (if neg then !decide (x ∈ L) else decide (x ∈ L))) μ := by
    unfold gInD
    rw [pdOf_dat (dat_row (n := 2) x), pdOf_dat hL, h1, k1]
    simp only
    rw [s1, s2, ha]
    rfl
  unfold gIn
  show (match gInS neg (rowT x) (.lst (L.map rowT)) μ with
    | .bad => gInD neg (rowT x) (.lst (L.map rowT)) μ
    | r => r) = _
  rw [e0]
  exact e1
theorem RI.inR0 {x : List Int} {L : List (List Int)} {μ : Store} {P : T → Store → Prop} {E : Exc → Store → Prop} (h : P (.bl (decide (x ∈ L))) μ) : OkI (I.gIn false (rowT x) (.lst (L.map rowT)) μ) P E := by
  rw [I.gIn_eq]
  exact OkI.of_eq gIn_rows h
theorem RI.inR1 {x : List Int} {L : List (List Int)} {μ : Store} {P : T → Store → Prop} {E : Exc → Store → Prop} (h : P (.bl (!decide (x ∈ L))) μ) : OkI (I.gIn true (rowT x) (.lst (L.map rowT)) μ) P E := by
  rw [I.gIn_eq]
  exact OkI.of_eq gIn_rows h
/-! ### the order of rows -/
theorem gCmp_rows {p : Int → Int → Bool} {bt : PyData → PyData → Bool} {a b : List Int} {μ : Store} : gCmpA p bt (rowT a) (rowT b) μ = .ok (.bl (bt (.tuple (a.map .int)) (.tuple (b.map .int)))) μ := by
  show gCmpD bt (rowT a) (rowT b) μ = _
  have e : ∀ r : List Int, pdOf (rowT r) μ = some (.tuple (r.map .int)) := fun r => by
    rw [pdOf_dat (dat_row (n := 2) r)]
    unfold rowT
    simp only [pd, pds_ints, Option.map_some]
  unfold gCmpD
  rw [e, e]
  simp only
  rw [if_pos]
  rw [Bool.and_eq_true, Bool.and_eq_true, decide_eq_true_eq]
  refine ⟨⟨by rw [PySem.W.alike]; exact alike_ints a b, rfl⟩, ?_⟩
  simp only [PyData.depth]
  rw [PySem.W.depth_ints, PySem.W.depth_ints]
  omega
theorem RI.gtR {a b : List Int} {μ : Store} {P : T → Store → Prop} {E : Exc → Store → Prop} (h : P (.bl (decide (b < a))) μ) : OkI (I.gGt (rowT a) (rowT b) μ) P E := by
  rw [I.gGt_eq]
  refine OkI.of_eq (gCmp_rows) ?_
  rw [dataLt_rows]
  exact h
theorem RI.leR {a b : List Int} {μ : Store} {P : T → Store → Prop} {E : Exc → Store → Prop} (h : P (.bl (decide (a ≤ b))) μ) : OkI (I.gLe (rowT a) (rowT b) μ) P E := by
  rw [I.gLe_eq]
  refine OkI.of_eq (gCmp_rows) ?_
  rw [dataLt_rows]
  have : (!decide (b < a)) = decide (a ≤ b) := by
    by_cases c : b < a
    · rw [decide_eq_true c, decide_eq_false (fun z => (List.not_lt.mpr z) c)]; rfl
    · rw [decide_eq_false c, decide_eq_true (List.not_lt.mp c)]; rfl
  rw [this]
  exact h
theorem not_lt_of_le : ∀ {a b : List Int}, a.length = b.length → (∀ i : Nat, a.getD i 0 ≤ b.getD i 0) → ¬ b < a
  | [], [], _, _ => List.lt_irrefl []
  | x :: a, y :: b, hl, h => by
    intro q
    have h0 := h 0
    simp only [List.getD_cons_zero] at h0
    rw [List.cons_lt_cons_iff] at q
    rcases q with q | ⟨_, q⟩
    · omega
    · exact not_lt_of_le (by simpa using hl) (fun i => by have := h (i + 1); simpa using this) q
  | [], _ :: _, hl, _ => by simp at hl
  | _ :: _, [], hl, _ => by simp at hl
theorem eq_of_getD {a b : List Int} (hl : a.length = b.length) (h : ∀ i : Nat, i < a.length → a.getD i 0 = b.getD i 0) : a = b := by
  refine List.ext_getElem? fun i => ?_
  by_cases hi : i < a.length
  · have := h i hi
    rw [List.getD_eq_getElem?_getD, List.getD_eq_getElem?_getD, List.getElem?_eq_getElem hi, List.getElem?_eq_getElem (show i < b.length by omega)] at this
    rw [List.getElem?_eq_getElem hi, List.getElem?_eq_getElem (show i < b.length by omega)]
    exact congrArg some this
  · rw [List.getElem?_eq_none (by omega), List.getElem?_eq_none (by omega)]
theorem getD_mem {l : List Int} {i : Nat} (h : i < l.length) : l.getD i 0 ∈ l := by
  rw [List.getD_eq_getElem?_getD, List.getElem?_eq_getElem h]
  exact List.getElem_mem h
theorem getD_rgI {a b : Int} {i : Nat} (f : Int → Int) (h : i < (b - a).toNat) : ((rgI a b).map f).getD i 0 = f (a + i) := by
  rw [List.getD_eq_getElem?_getD, List.getElem?_map]
  unfold rgI
  rw [List.getElem?_map, List.getElem?_range h]
  rfl
/-- the i-th of a list of rows of a cells each -/
theorem grid_get {α : Type} {a : Nat} (f : Nat → Nat → α) (ha : 0 < a) : ∀ (b i : Nat), i < a * b → ((List.range b).flatMap fun r => (List.range a).map fun c => f r c)[i]? = some (f (i / a) (i % a))
  | 0, i, h => by simp at h
  | b + 1, i, h => by
    have hl : ((List.range b).flatMap fun r => (List.range a).map fun c => f r c).length = a * b := by
      have : ∀ l : List Nat, (l.flatMap fun r => (List.range a).map fun c => f r c).length = a * l.length := by
        intro l
        induction l with
        | nil => simp
        | cons x l ih => rw [List.flatMap_cons, List.length_append, ih, List.length_map, List.length_range, List.length_cons, Nat.mul_add]; omega
      rw [this, List.length_range]
    rw [List.range_succ, List.flatMap_append]
    by_cases c : i < a * b
    · rw [List.getElem?_append_left (by rw [hl]; exact c)]
      exact grid_get f ha b i c
    · rw [List.getElem?_append_right (by rw [hl]; omega), hl]
      simp only [List.flatMap_cons, List.flatMap_nil, List.append_nil]
      have h1 : i - a * b < a := by rw [Nat.mul_add] at h; omega
      have e1 : i = a * b + (i - a * b) := by omega
      have e2 : i / a = b := by
        rw [e1, Nat.mul_add_div ha, Nat.div_eq_of_lt h1]; omega
      have e3 : i % a = i - a * b := by
        conv => lhs; rw [e1]
        rw [Nat.mul_add_mod, Nat.mod_eq_of_lt h1]
      rw [List.getElem?_map, List.getElem?_range h1, e2, e3]
      rfl
theorem RI.isNR {r : List Int} {μ : Store} {P : T → Store → Prop} {E : Exc → Store → Prop} (h : P (.bl false) μ) : OkI (I.gIs (rowT r) .non μ) P E := by
  rw [OkI_eq, I.gIs_eq]
  exact h
theorem RI.isNNR {r : List Int} {μ : Store} {P : T → Store → Prop} {E : Exc → Store → Prop} (h : P (.bl true) μ) : OkI (I.gIsNot (rowT r) .non μ) P E := by
  rw [OkI_eq, I.gIsNot_eq]
  exact h
end Tw

namespace Lw
open PySem L2 Tw
def top (i : Nat) : Stmt := PySem.Challenge.pw_bittenplates_k55_whole_prints_put_togeth.main.body.getD i (.Pass ⟨0, 0, 0, 0⟩)
def sub (i j : Nat) : Stmt := match top i with
  | .ClassDef _ _ _ b _ _ _ _ _ _ _ => b.getD j (.Pass ⟨0, 0, 0, 0⟩)
  | s => s
def cs : List CE := [⟨"Plate", some ["parts", "spots"], [], [("__len__", 7, 1), ("__eq__", 8, 2)], [("width", 3), ("height", 4), ("most", 5), ("fall", 6)], some (2, 5, some "fall"), true⟩]
def glist : List (Str × Gl0) := [(("_wall" : Str), Gl0.fn 0 1), (("is_number" : Str), Gl0.fn 1 3), (("are_depths" : Str), Gl0.fn 9 2), (("check_depths" : Str), Gl0.fn 10 2), (("choices" : Str), Gl0.fn 11 1), (("check_tones" : Str), Gl0.fn 12 2), (("are_seen" : Str), Gl0.fn 13 2), (("shifted" : Str), Gl0.fn 14 4), (("together" : Str), Gl0.fn 15 2), (("is_shift" : Str), Gl0.fn 16 1), (("overprinted" : Str), Gl0.fn 17 2), (("shifts_of" : Str), Gl0.fn 18 4), (("parted" : Str), Gl0.fn 19 3), (("fewest_plates" : Str), Gl0.fn 20 3), (("_law_taken" : Str), Gl0.fn 21 2), (("_law_plate" : Str), Gl0.fn 22 2), (("_law_depths" : Str), Gl0.fn 23 2), (("_law_are_shifted" : Str), Gl0.fn 24 4), (("law" : Str), Gl0.fn 25 1), (("choices_pictures" : Str), Gl0.fn 11 1), (("Plate" : Str), Gl0.kon (.cls 0)), (("MAX_CELLS" : Str), Gl0.kon (.int 9)), (("MAX_CHOICES" : Str), Gl0.kon (.int 6)), (("MAX_DEPTH" : Str), Gl0.kon (.int 9)), (("MAX_SHIFT" : Str), Gl0.kon (.int 3)), (("MAX_SIDE" : Str), Gl0.kon (.int 4)), (("all" : Str), Gl0.blt), (("bool" : Str), Gl0.blt), (("enumerate" : Str), Gl0.blt), (("int" : Str), Gl0.blt), (("isinstance" : Str), Gl0.blt), (("len" : Str), Gl0.blt), (("list" : Str), Gl0.blt), (("max" : Str), Gl0.blt), (("min" : Str), Gl0.blt), (("range" : Str), Gl0.blt), (("sum" : Str), Gl0.blt), (("tuple" : Str), Gl0.blt), (("zip" : Str), Gl0.blt)]
def G (x : Str) : Option Gl0 := glist.lookup x
/-- _wall -/
def b0 (Φ : Nat → List T → M T) : Tw.Env → M Out :=
  (I.sSeq (I.whileL 400 (I.cTru (I.cK (.bl true))) (I.sSeq I.sPass
      I.sNil))
      I.sNil)
abbrev st0 : Stmt := top 0
def e0 : FE := ⟨"_wall", "_wall", st0, ["k"], ["k"], [], [], none, some b0⟩
theorem sc0 : FnScope ["k"] ["k"] (defScope st0) := ⟨rfl, rfl, rfl, by decide +kernel, rfl, by decide +kernel, by decide +kernel⟩
theorem tr0 (Φ : Nat → List T → M T) : trSs Φ 400 200 (ctOf G cs e0) (defBody e0.st) = some (b0 Φ) := by kernel_rfl
/-- is_number -/
def b1 (Φ : Nat → List T → M T) : Tw.Env → M Out :=
  (I.sSeq (I.sRet (I.cAndT (I.cN I.bIsi (I.aCons (I.cVar 0) (I.aCons (I.cK (.ty "int")) I.aNil))) (I.cAndT (I.cNotT (I.cN I.bIsi (I.aCons (I.cVar 0) (I.aCons (I.cK (.ty "bool")) I.aNil)))) (I.cChain I.gLe I.gLe (I.cVar 1) (I.cVar 0) (I.cVar 2)))))
      I.sNil)
abbrev st1 : Stmt := top 12
def e1 : FE := ⟨"is_number", "is_number", st1, ["value", "smallest", "largest"], ["value", "smallest", "largest"], [], [], none, some b1⟩
theorem sc1 : FnScope ["value", "smallest", "largest"] ["value", "smallest", "largest"] (defScope st1) := ⟨rfl, rfl, rfl, by decide +kernel, rfl, by decide +kernel, by decide +kernel⟩
theorem tr1 (Φ : Nat → List T → M T) : trSs Φ 400 200 (ctOf G cs e1) (defBody e1.st) = some (b1 Φ) := by kernel_rfl
/-- Plate.__init__ -/
def b2 (Φ : Nat → List T → M T) : Tw.Env → M Out :=
  (I.sSeq (I.sIf (I.cNot (I.cTru (I.cCall 3 (Φ 1) (I.aCons (I.cVar 1) (I.aCons (I.cK (.int 1)) (I.aCons (I.cK (.int 4)) I.aNil)))))) (I.sSeq I.sBad
      I.sNil) I.sNil)
      (I.sSeq (I.sIf (I.cOr (I.cNot (I.cTru (I.cCall 3 (Φ 1) (I.aCons (I.cVar 2) (I.aCons (I.cK (.int 1)) (I.aCons (I.cK (.int 4)) I.aNil)))))) (I.cTest (I.c2 I.gGt (I.c2 I.gMulI (I.cVar 1) (I.cVar 2)) (I.cK (.int 9))))) (I.sSeq I.sBad
      I.sNil) I.sNil)
      (I.sSeq (I.sIf (I.cNot (I.cTru (I.cCall 3 (Φ 1) (I.aCons (I.cVar 3) (I.aCons (I.cK (.int 1)) (I.aCons (I.cK (.int 9)) I.aNil)))))) (I.sSeq I.sBad
      I.sNil) I.sNil)
      (I.sSeq (I.sIf (I.cAnd (I.cTest (I.c2 I.gIsNot (I.cVar 4) (I.cK .non))) (I.cNot (I.cTru (I.cCall 3 (Φ 1) (I.aCons (I.cVar 4) (I.aCons (I.cK (.int 1)) (I.aCons (I.cK (.int 9)) I.aNil))))))) (I.sSeq I.sBad
      I.sNil) I.sNil)
      (I.sSeq (I.sSetA cs "parts" (I.cVar 0) (I.cN I.mTup (I.aCons (I.cVar 1) (I.aCons (I.cVar 2) (I.aCons (I.cVar 3) (I.aCons (I.cVar 4) I.aNil))))))
      (I.sSeq (I.sSetA cs "spots" (I.cVar 0) (I.cRgL1 T.tup (I.c2 I.gMulI (I.cVar 1) (I.cVar 2))))
      I.sNil))))))
abbrev st2 : Stmt := sub 13 1
def e2 : FE := ⟨"__init__", "Plate.__init__", st2, ["self", "width", "height", "most", "fall"], ["self", "width", "height", "most", "fall"], [], [], some "fall", some b2⟩
theorem sc2 : FnScope ["self", "width", "height", "most", "fall"] ["self", "width", "height", "most", "fall"] (defScope st2) := ⟨rfl, rfl, rfl, by decide +kernel, rfl, by decide +kernel, by decide +kernel⟩
theorem tr2 (Φ : Nat → List T → M T) : trSs Φ 400 200 (ctOf G cs e2) (defBody e2.st) = some (b2 Φ) := by kernel_rfl
/-- Plate.width -/
def b3 (Φ : Nat → List T → M T) : Tw.Env → M Out :=
  (I.sSeq (I.sRet (I.c2 I.gIxD (I.c1 (I.mAttr cs Φ "parts") (I.cVar 0)) (I.cK (.int 0))))
      I.sNil)
abbrev st3 : Stmt := sub 13 2
def e3 : FE := ⟨"width", "Plate.width", st3, ["self"], ["self"], [], [], none, some b3⟩
theorem sc3 : FnScope ["self"] ["self"] (defScope st3) := ⟨rfl, rfl, rfl, by decide +kernel, rfl, by decide +kernel, by decide +kernel⟩
theorem tr3 (Φ : Nat → List T → M T) : trSs Φ 400 200 (ctOf G cs e3) (defBody e3.st) = some (b3 Φ) := by kernel_rfl
/-- Plate.height -/
def b4 (Φ : Nat → List T → M T) : Tw.Env → M Out :=
  (I.sSeq (I.sRet (I.c2 I.gIxD (I.c1 (I.mAttr cs Φ "parts") (I.cVar 0)) (I.cK (.int 1))))
      I.sNil)
abbrev st4 : Stmt := sub 13 3
def e4 : FE := ⟨"height", "Plate.height", st4, ["self"], ["self"], [], [], none, some b4⟩
theorem sc4 : FnScope ["self"] ["self"] (defScope st4) := ⟨rfl, rfl, rfl, by decide +kernel, rfl, by decide +kernel, by decide +kernel⟩
theorem tr4 (Φ : Nat → List T → M T) : trSs Φ 400 200 (ctOf G cs e4) (defBody e4.st) = some (b4 Φ) := by kernel_rfl
/-- Plate.most -/
def b5 (Φ : Nat → List T → M T) : Tw.Env → M Out :=
  (I.sSeq (I.sRet (I.c2 I.gIxD (I.c1 (I.mAttr cs Φ "parts") (I.cVar 0)) (I.cK (.int 2))))
      I.sNil)
abbrev st5 : Stmt := sub 13 4
def e5 : FE := ⟨"most", "Plate.most", st5, ["self"], ["self"], [], [], none, some b5⟩
theorem sc5 : FnScope ["self"] ["self"] (defScope st5) := ⟨rfl, rfl, rfl, by decide +kernel, rfl, by decide +kernel, by decide +kernel⟩
theorem tr5 (Φ : Nat → List T → M T) : trSs Φ 400 200 (ctOf G cs e5) (defBody e5.st) = some (b5 Φ) := by kernel_rfl
/-- Plate.fall -/
def b6 (Φ : Nat → List T → M T) : Tw.Env → M Out :=
  (I.sSeq (I.sRet (I.c2 I.gIxD (I.c1 (I.mAttr cs Φ "parts") (I.cVar 0)) (I.cK (.int 3))))
      I.sNil)
abbrev st6 : Stmt := sub 13 5
def e6 : FE := ⟨"fall", "Plate.fall", st6, ["self"], ["self"], [], [], none, some b6⟩
theorem sc6 : FnScope ["self"] ["self"] (defScope st6) := ⟨rfl, rfl, rfl, by decide +kernel, rfl, by decide +kernel, by decide +kernel⟩
theorem tr6 (Φ : Nat → List T → M T) : trSs Φ 400 200 (ctOf G cs e6) (defBody e6.st) = some (b6 Φ) := by kernel_rfl
/-- Plate.__len__ -/
def b7 (Φ : Nat → List T → M T) : Tw.Env → M Out :=
  (I.sSeq (I.sRet (I.cN (I.bLenO cs Φ) (I.aCons (I.c1 (I.mAttr cs Φ "spots") (I.cVar 0)) I.aNil)))
      I.sNil)
abbrev st7 : Stmt := sub 13 6
def e7 : FE := ⟨"__len__", "Plate.__len__", st7, ["self"], ["self"], [], [], none, some b7⟩
theorem sc7 : FnScope ["self"] ["self"] (defScope st7) := ⟨rfl, rfl, rfl, by decide +kernel, rfl, by decide +kernel, by decide +kernel⟩
theorem tr7 (Φ : Nat → List T → M T) : trSs Φ 400 200 (ctOf G cs e7) (defBody e7.st) = some (b7 Φ) := by kernel_rfl
/-- Plate.__eq__ -/
def b8 (Φ : Nat → List T → M T) : Tw.Env → M Out :=
  (I.sSeq (I.sRet (I.cAndT (I.cN I.bIsi (I.aCons (I.cVar 1) (I.aCons (I.cK (.cls 0)) I.aNil))) (I.c2 (I.gEqD false) (I.c1 (I.mAttr cs Φ "parts") (I.cVar 0)) (I.cN I.mTup (I.aCons (I.c1 (I.mAttr cs Φ "width") (I.cVar 1)) (I.aCons (I.c1 (I.mAttr cs Φ "height") (I.cVar 1)) (I.aCons (I.c1 (I.mAttr cs Φ "most") (I.cVar 1)) (I.aCons (I.c1 (I.mAttr cs Φ "fall") (I.cVar 1)) I.aNil))))))))
      I.sNil)
abbrev st8 : Stmt := sub 13 7
def e8 : FE := ⟨"__eq__", "Plate.__eq__", st8, ["self", "other"], ["self", "other"], [], [], none, some b8⟩
theorem sc8 : FnScope ["self", "other"] ["self", "other"] (defScope st8) := ⟨rfl, rfl, rfl, by decide +kernel, rfl, by decide +kernel, by decide +kernel⟩
theorem tr8 (Φ : Nat → List T → M T) : trSs Φ 400 200 (ctOf G cs e8) (defBody e8.st) = some (b8 Φ) := by kernel_rfl
/-- are_depths -/
def b9 (Φ : Nat → List T → M T) : Tw.Env → M Out :=
  (I.sSeq (I.sIf (I.cOr (I.cNot (I.cTru (I.cN I.bIsi (I.aCons (I.cVar 1) (I.aCons (I.cK (.ty "tuple")) I.aNil))))) (I.cTest (I.c2 (I.gEqD true) (I.cN (I.bLenO cs Φ) (I.aCons (I.cVar 1) I.aNil)) (I.cN (I.bLenO cs Φ) (I.aCons (I.cVar 0) I.aNil))))) (I.sSeq (I.sRet (I.cK (.bl false)))
      I.sNil) I.sNil)
      (I.sSeq (I.sRet (I.cN I.bAll (I.aCons (I.cLc (I.iSeq (I.cVar 1)) (gN 2) I.cYes (I.cCall 3 (Φ 1) (I.aCons (I.cVar 2) (I.aCons (I.cK (.int 0)) (I.aCons (I.c1 (I.mAttr cs Φ "most") (I.cVar 0)) I.aNil)))) [2]) I.aNil)))
      I.sNil))
abbrev st9 : Stmt := top 14
def e9 : FE := ⟨"are_depths", "are_depths", st9, ["plate", "value"], ["plate", "value", "depth"], [], [], none, some b9⟩
theorem sc9 : FnScope ["plate", "value", "depth"] ["plate", "value"] (defScope st9) := ⟨rfl, rfl, rfl, by decide +kernel, rfl, by decide +kernel, by decide +kernel⟩
theorem tr9 (Φ : Nat → List T → M T) : trSs Φ 400 200 (ctOf G cs e9) (defBody e9.st) = some (b9 Φ) := by kernel_rfl
/-- check_depths -/
def b10 (Φ : Nat → List T → M T) : Tw.Env → M Out :=
  (I.sSeq (I.sIf (I.cNot (I.cTru (I.cCall 2 (Φ 9) (I.aCons (I.cVar 0) (I.aCons (I.cVar 1) I.aNil))))) (I.sSeq I.sBad
      I.sNil) I.sNil)
      I.sNil)
abbrev st10 : Stmt := top 15
def e10 : FE := ⟨"check_depths", "check_depths", st10, ["plate", "value"], ["plate", "value"], [], [], none, some b10⟩
theorem sc10 : FnScope ["plate", "value"] ["plate", "value"] (defScope st10) := ⟨rfl, rfl, rfl, by decide +kernel, rfl, by decide +kernel, by decide +kernel⟩
theorem tr10 (Φ : Nat → List T → M T) : trSs Φ 400 200 (ctOf G cs e10) (defBody e10.st) = some (b10 Φ) := by kernel_rfl
/-- choices -/
def b11 (Φ : Nat → List T → M T) : Tw.Env → M Out :=
  (I.sSeq (I.sIf (I.cTest (I.c2 (I.gEqD false) (I.cVar 0) (I.cN I.mLst I.aNil))) (I.sSeq (I.sRet (I.cN I.mLst (I.aCons (I.cN I.mTup I.aNil) I.aNil)))
      I.sNil) I.sNil)
      (I.sSeq (I.sSet 1 (I.cCall 1 (Φ 11) (I.aCons (I.cSlice (I.cVar 0) (I.oSome (I.cK (.int 1))) I.oNone) I.aNil)))
      (I.sSeq (I.sRet (I.cN I.mLst (I.aCons (I.cN I.mTup I.aNil) (I.aStar (I.cLc (I.iSeq (I.cVar 1)) (gN 2) I.cYes (I.cN I.mTup (I.aCons (I.c2 I.gIxD (I.cVar 0) (I.cK (.int 0))) (I.aStar (I.cVar 2) I.aNil))) [2]) (I.aStar (I.cSlice (I.cVar 1) (I.oSome (I.cK (.int 1))) I.oNone) I.aNil)))))
      I.sNil)))
abbrev st11 : Stmt := top 17
def e11 : FE := ⟨"choices", "choices", st11, ["things"], ["things", "rest", "row"], [], [], none, some b11⟩
theorem sc11 : FnScope ["things", "rest", "row"] ["things"] (defScope st11) := ⟨rfl, rfl, rfl, by decide +kernel, rfl, by decide +kernel, by decide +kernel⟩
theorem tr11 (Φ : Nat → List T → M T) : trSs Φ 400 200 (ctOf G cs e11) (defBody e11.st) = some (b11 Φ) := by kernel_rfl
/-- check_tones -/
def b12 (Φ : Nat → List T → M T) : Tw.Env → M Out :=
  (I.sSeq (I.sSet 2 (I.cAndT (I.cN I.bIsi (I.aCons (I.cVar 1) (I.aCons (I.cK (.ty "tuple")) I.aNil))) (I.c2 (I.gEqD false) (I.cN (I.bLenO cs Φ) (I.aCons (I.cVar 1) I.aNil)) (I.cN (I.bLenO cs Φ) (I.aCons (I.cVar 0) I.aNil)))))
      (I.sSeq (I.sIf (I.cOr (I.cNot (I.cTru (I.cVar 2))) (I.cNot (I.cTru (I.cN I.bAll (I.aCons (I.cLc (I.iSeq (I.cVar 1)) (gN 3) I.cYes (I.cOrT (I.c2 I.gIs (I.cVar 3) (I.cK .non)) (I.cCall 3 (Φ 1) (I.aCons (I.cVar 3) (I.aCons (I.cK (.int 0)) (I.aCons (I.cK (.int 9)) I.aNil))))) [3]) I.aNil))))) (I.sSeq I.sBad
      I.sNil) I.sNil)
      I.sNil))
abbrev st12 : Stmt := top 20
def e12 : FE := ⟨"check_tones", "check_tones", st12, ["plate", "seen"], ["plate", "seen", "is_good", "tone"], [], [], none, some b12⟩
theorem sc12 : FnScope ["plate", "seen", "is_good", "tone"] ["plate", "seen"] (defScope st12) := ⟨rfl, rfl, rfl, by decide +kernel, rfl, by decide +kernel, by decide +kernel⟩
theorem tr12 (Φ : Nat → List T → M T) : trSs Φ 400 200 (ctOf G cs e12) (defBody e12.st) = some (b12 Φ) := by kernel_rfl
/-- are_seen -/
def b13 (Φ : Nat → List T → M T) : Tw.Env → M Out :=
  (I.sSeq (I.sRet (I.cN I.bAll (I.aCons (I.cLc (I.iZp (I.aCons (I.cVar 0) (I.aCons (I.cVar 1) I.aNil))) (gTp (gsCons (gN 2) (gsCons (gN 3) gsNil))) I.cYes (I.cOrT (I.c2 I.gIs (I.cVar 3) (I.cK .non)) (I.c2 (I.gEqD false) (I.cVar 3) (I.cVar 2))) [2, 3]) I.aNil)))
      I.sNil)
abbrev st13 : Stmt := top 21
def e13 : FE := ⟨"are_seen", "are_seen", st13, ["found", "seen"], ["found", "seen", "one", "tone"], [], [], none, some b13⟩
theorem sc13 : FnScope ["found", "seen", "one", "tone"] ["found", "seen"] (defScope st13) := ⟨rfl, rfl, rfl, by decide +kernel, rfl, by decide +kernel, by decide +kernel⟩
theorem tr13 (Φ : Nat → List T → M T) : trSs Φ 400 200 (ctOf G cs e13) (defBody e13.st) = some (b13 Φ) := by kernel_rfl
/-- shifted -/
def b14 (Φ : Nat → List T → M T) : Tw.Env → M Out :=
  (I.sSeq (I.sSet 4 (I.cN I.mNew I.aNil))
      (I.sSeq (I.sFor (I.iRg1 (I.aCons (I.c1 (I.mAttr cs Φ "height") (I.cVar 0)) I.aNil)) (gN 5) (I.sSeq (I.sFor (I.iRg1 (I.aCons (I.c1 (I.mAttr cs Φ "width") (I.cVar 0)) I.aNil)) (gN 6) (I.sSeq (I.sSet 7 (I.cAndT (I.cChain I.gLe I.gLt (I.cK (.int 0)) (I.c2 I.gSub (I.cVar 5) (I.cVar 2)) (I.c1 (I.mAttr cs Φ "height") (I.cVar 0))) (I.cChain I.gLe I.gLt (I.cK (.int 0)) (I.c2 I.gSub (I.cVar 6) (I.cVar 3)) (I.c1 (I.mAttr cs Φ "width") (I.cVar 0)))))
      (I.sSeq (I.sExpr (I.cMeth "list" I.mApp (I.cVar 4) (I.aCons (I.cIf (I.cTru (I.cVar 7)) (I.c2 I.gIxD (I.cVar 1) (I.c2 I.gSub (I.c2 I.gAdd (I.c2 I.gMulI (I.c2 I.gSub (I.cVar 5) (I.cVar 2)) (I.c1 (I.mAttr cs Φ "width") (I.cVar 0))) (I.cVar 6)) (I.cVar 3))) (I.cK (.int 0))) I.aNil)))
      I.sNil)))
      I.sNil))
      (I.sFrz 4 (I.sSeq (I.sRet (I.cN I.bTuple (I.aCons (I.cVar 4) I.aNil)))
      I.sNil))))
abbrev st14 : Stmt := top 25
def e14 : FE := ⟨"shifted", "shifted", st14, ["plate", "depths", "down", "right"], ["plate", "depths", "down", "right", "found", "row", "column", "is_there"], ["found"], [(101, 4)], none, some b14⟩
theorem sc14 : FnScope ["plate", "depths", "down", "right", "found", "row", "column", "is_there"] ["plate", "depths", "down", "right"] (defScope st14) := ⟨rfl, rfl, rfl, by decide +kernel, rfl, by decide +kernel, by decide +kernel⟩
theorem tr14 (Φ : Nat → List T → M T) : trSs Φ 400 200 (ctOf G cs e14) (defBody e14.st) = some (b14 Φ) := by kernel_rfl
/-- together -/
def b15 (Φ : Nat → List T → M T) : Tw.Env → M Out :=
  (I.sSeq (I.sRet (I.cN I.bTuple (I.aCons (I.cLc (I.iRg1 (I.aCons (I.cVar 1) I.aNil)) (gN 2) I.cYes (I.cN I.bMin (I.aCons (I.cK (.int 9)) (I.aCons (I.cN I.bSum (I.aCons (I.cLc (I.iSeq (I.cVar 0)) (gN 3) I.cYes (I.c2 I.gIxD (I.cVar 3) (I.cVar 2)) [3]) I.aNil)) I.aNil))) [2]) I.aNil)))
      I.sNil)
abbrev st15 : Stmt := top 26
def e15 : FE := ⟨"together", "together", st15, ["rows", "size"], ["rows", "size", "cell", "row"], [], [], none, some b15⟩
theorem sc15 : FnScope ["rows", "size", "cell", "row"] ["rows", "size"] (defScope st15) := ⟨rfl, rfl, rfl, by decide +kernel, rfl, by decide +kernel, by decide +kernel⟩
theorem tr15 (Φ : Nat → List T → M T) : trSs Φ 400 200 (ctOf G cs e15) (defBody e15.st) = some (b15 Φ) := by kernel_rfl
/-- is_shift -/
def b16 (Φ : Nat → List T → M T) : Tw.Env → M Out :=
  (I.sSeq (I.sRet (I.cCall 3 (Φ 1) (I.aCons (I.cVar 0) (I.aCons (I.c2 I.gSub (I.cK (.int 0)) (I.cK (.int 3))) (I.aCons (I.cK (.int 3)) I.aNil)))))
      I.sNil)
abbrev st16 : Stmt := top 27
def e16 : FE := ⟨"is_shift", "is_shift", st16, ["value"], ["value"], [], [], none, some b16⟩
theorem sc16 : FnScope ["value"] ["value"] (defScope st16) := ⟨rfl, rfl, rfl, by decide +kernel, rfl, by decide +kernel, by decide +kernel⟩
theorem tr16 (Φ : Nat → List T → M T) : trSs Φ 400 200 (ctOf G cs e16) (defBody e16.st) = some (b16 Φ) := by kernel_rfl
/-- overprinted -/
def b17 (Φ : Nat → List T → M T) : Tw.Env → M Out :=
  (I.sSeq (I.sFor (I.iEn (I.aCons (I.cVar 1) I.aNil)) (gTp (gsCons (gN 2) (gsCons (gTp (gsCons (gN 3) (gsCons (gN 4) (gsCons (gN 5) gsNil)))) gsNil))) (I.sSeq (I.sIf (I.cOr (I.cNot (I.cTru (I.cCall 2 (Φ 9) (I.aCons (I.cVar 0) (I.aCons (I.cVar 3) I.aNil))))) (I.cOr (I.cNot (I.cTru (I.cCall 1 (Φ 16) (I.aCons (I.cVar 4) I.aNil)))) (I.cNot (I.cTru (I.cCall 1 (Φ 16) (I.aCons (I.cVar 5) I.aNil)))))) (I.sSeq I.sBad
      I.sNil) I.sNil)
      I.sNil))
      (I.sSeq (I.sRet (I.cCall 2 (Φ 15) (I.aCons (I.cLc (I.iSeq (I.cVar 1)) (gTp (gsCons (gN 3) (gsCons (gN 4) (gsCons (gN 5) gsNil)))) I.cYes (I.cCall 4 (Φ 14) (I.aCons (I.cVar 0) (I.aCons (I.cVar 3) (I.aCons (I.cVar 4) (I.aCons (I.cVar 5) I.aNil))))) [3, 4, 5]) (I.aCons (I.cN (I.bLenO cs Φ) (I.aCons (I.cVar 0) I.aNil)) I.aNil))))
      I.sNil))
abbrev st17 : Stmt := top 28
def e17 : FE := ⟨"overprinted", "overprinted", st17, ["plate", "rows"], ["plate", "rows", "index", "depths", "down", "right"], [], [], none, some b17⟩
theorem sc17 : FnScope ["plate", "rows", "index", "depths", "down", "right"] ["plate", "rows"] (defScope st17) := ⟨rfl, rfl, rfl, by decide +kernel, rfl, by decide +kernel, by decide +kernel⟩
theorem tr17 (Φ : Nat → List T → M T) : trSs Φ 400 200 (ctOf G cs e17) (defBody e17.st) = some (b17 Φ) := by kernel_rfl
/-- shifts_of -/
def b18 (Φ : Nat → List T → M T) : Tw.Env → M Out :=
  (I.sSeq (I.sExpr (I.cCall 2 (Φ 10) (I.aCons (I.cVar 0) (I.aCons (I.cVar 1) I.aNil))))
      (I.sSeq (I.sExpr (I.cCall 2 (Φ 10) (I.aCons (I.cVar 0) (I.aCons (I.cVar 2) I.aNil))))
      (I.sSeq (I.sExpr (I.cCall 2 (Φ 12) (I.aCons (I.cVar 0) (I.aCons (I.cVar 3) I.aNil))))
      (I.sSeq (I.sSet 4 (I.cN I.mNew I.aNil))
      (I.sSeq (I.sFor (I.iRg2 (I.aCons (I.c2 I.gSub (I.cK (.int 0)) (I.cK (.int 3))) (I.aCons (I.c2 I.gAdd (I.cK (.int 3)) (I.cK (.int 1))) I.aNil))) (gN 5) (I.sSeq (I.sFor (I.iRg2 (I.aCons (I.c2 I.gSub (I.cK (.int 0)) (I.cK (.int 3))) (I.aCons (I.c2 I.gAdd (I.cK (.int 3)) (I.cK (.int 1))) I.aNil))) (gN 6) (I.sSeq (I.sIf (I.cTru (I.cCall 2 (Φ 13) (I.aCons (I.cCall 2 (Φ 15) (I.aCons (I.cN I.mLst (I.aCons (I.cVar 1) (I.aCons (I.cCall 4 (Φ 14) (I.aCons (I.cVar 0) (I.aCons (I.cVar 2) (I.aCons (I.cVar 5) (I.aCons (I.cVar 6) I.aNil))))) I.aNil))) (I.aCons (I.cN (I.bLenO cs Φ) (I.aCons (I.cVar 0) I.aNil)) I.aNil))) (I.aCons (I.cVar 3) I.aNil)))) (I.sSeq (I.sExpr (I.cMeth "list" I.mApp (I.cVar 4) (I.aCons (I.cN I.mTup (I.aCons (I.cVar 5) (I.aCons (I.cVar 6) I.aNil))) I.aNil)))
      I.sNil) I.sNil)
      I.sNil))
      I.sNil))
      (I.sFrz 4 (I.sSeq (I.sRet (I.cVar 4))
      I.sNil)))))))
abbrev st18 : Stmt := top 29
def e18 : FE := ⟨"shifts_of", "shifts_of", st18, ["plate", "one", "other", "seen"], ["plate", "one", "other", "seen", "found", "down", "right"], ["found"], [(120, 4)], none, some b18⟩
theorem sc18 : FnScope ["plate", "one", "other", "seen", "found", "down", "right"] ["plate", "one", "other", "seen"] (defScope st18) := ⟨rfl, rfl, rfl, by decide +kernel, rfl, by decide +kernel, by decide +kernel⟩
theorem tr18 (Φ : Nat → List T → M T) : trSs Φ 400 200 (ctOf G cs e18) (defBody e18.st) = some (b18 Φ) := by kernel_rfl
/-- parted -/
def b19 (Φ : Nat → List T → M T) : Tw.Env → M Out :=
  (I.sSeq (I.sExpr (I.cCall 2 (Φ 12) (I.aCons (I.cVar 0) (I.aCons (I.cVar 1) I.aNil))))
      (I.sSeq (I.sExpr (I.cCall 2 (Φ 10) (I.aCons (I.cVar 0) (I.aCons (I.cVar 2) I.aNil))))
      (I.sSeq (I.sSet 3 (I.cN I.bTuple (I.aCons (I.cLc (I.iZp (I.aCons (I.cVar 1) (I.aCons (I.cVar 2) I.aNil))) (gTp (gsCons (gN 4) (gsCons (gN 5) gsNil))) I.cYes (I.cIf (I.cTest (I.c2 I.gIs (I.cVar 4) (I.cK .non))) (I.cK (.int 0)) (I.cN I.bMax (I.aCons (I.cK (.int 0)) (I.aCons (I.c2 I.gSub (I.cVar 4) (I.cVar 5)) I.aNil)))) [4, 5]) I.aNil)))
      (I.sSeq (I.sIf (I.cOr (I.cTest (I.c2 I.gGt (I.cN I.bMax (I.aCons (I.cVar 3) I.aNil)) (I.c1 (I.mAttr cs Φ "most") (I.cVar 0)))) (I.cNot (I.cTru (I.cCall 2 (Φ 13) (I.aCons (I.cCall 2 (Φ 15) (I.aCons (I.cN I.mLst (I.aCons (I.cVar 2) (I.aCons (I.cVar 3) I.aNil))) (I.aCons (I.cN (I.bLenO cs Φ) (I.aCons (I.cVar 0) I.aNil)) I.aNil))) (I.aCons (I.cVar 1) I.aNil)))))) (I.sSeq (I.sRet (I.cK .non))
      I.sNil) I.sNil)
      (I.sSeq (I.sRet (I.cVar 3))
      I.sNil)))))
abbrev st19 : Stmt := top 30
def e19 : FE := ⟨"parted", "parted", st19, ["plate", "seen", "depths"], ["plate", "seen", "depths", "found", "tone", "depth"], [], [], none, some b19⟩
theorem sc19 : FnScope ["plate", "seen", "depths", "found", "tone", "depth"] ["plate", "seen", "depths"] (defScope st19) := ⟨rfl, rfl, rfl, by decide +kernel, rfl, by decide +kernel, by decide +kernel⟩
theorem tr19 (Φ : Nat → List T → M T) : trSs Φ 400 200 (ctOf G cs e19) (defBody e19.st) = some (b19 Φ) := by kernel_rfl
/-- fewest_plates -/
def b20 (Φ : Nat → List T → M T) : Tw.Env → M Out :=
  (I.sSeq (I.sExpr (I.cCall 2 (Φ 12) (I.aCons (I.cVar 0) (I.aCons (I.cVar 1) I.aNil))))
      (I.sSeq (I.sFor (I.iEn (I.aCons (I.cVar 2) I.aNil)) (gTp (gsCons (gN 5) (gsCons (gN 6) gsNil))) (I.sSeq (I.sIf (I.cOr (I.cTest (I.c2 (I.gEqD false) (I.cVar 5) (I.cK (.int 6)))) (I.cNot (I.cTru (I.cCall 2 (Φ 9) (I.aCons (I.cVar 0) (I.aCons (I.cVar 6) I.aNil)))))) (I.sSeq I.sBad
      I.sNil) I.sNil)
      I.sNil))
      (I.sSeq (I.sSet 3 (I.cCall 1 (Φ 11) (I.aCons (I.cRgL1 T.lst (I.cN (I.bLenO cs Φ) (I.aCons (I.cVar 2) I.aNil))) I.aNil)))
      (I.sSeq (I.sSet 4 (I.cLc (I.iSeq (I.cVar 3)) (gN 7) (I.cTru (I.cCall 2 (Φ 13) (I.aCons (I.cCall 2 (Φ 15) (I.aCons (I.cLc (I.iSeq (I.cVar 7)) (gN 5) I.cYes (I.c2 I.gIxD (I.cVar 2) (I.cVar 5)) [5]) (I.aCons (I.cN (I.bLenO cs Φ) (I.aCons (I.cVar 0) I.aNil)) I.aNil))) (I.aCons (I.cVar 1) I.aNil)))) (I.cVar 7) [7]))
      (I.sSeq (I.sRet (I.cIf (I.cTest (I.c2 (I.gEqD true) (I.cVar 4) (I.cN I.mLst I.aNil))) (I.c2 I.gIxD (I.cN I.bMin (I.aCons (I.cLc (I.iSeq (I.cVar 4)) (gN 7) I.cYes (I.cN I.mTup (I.aCons (I.cN (I.bLenO cs Φ) (I.aCons (I.cVar 7) I.aNil)) (I.aCons (I.cVar 7) I.aNil))) [7]) I.aNil)) (I.cK (.int 1))) (I.cK .non)))
      I.sNil)))))
abbrev st20 : Stmt := top 31
def e20 : FE := ⟨"fewest_plates", "fewest_plates", st20, ["plate", "seen", "choices"], ["plate", "seen", "choices", "rows", "good", "index", "depths", "row"], [], [], none, some b20⟩
theorem sc20 : FnScope ["plate", "seen", "choices", "rows", "good", "index", "depths", "row"] ["plate", "seen", "choices"] (defScope st20) := ⟨rfl, rfl, rfl, by decide +kernel, rfl, by decide +kernel, by decide +kernel⟩
theorem tr20 (Φ : Nat → List T → M T) : trSs Φ 400 200 (ctOf G cs e20) (defBody e20.st) = some (b20 Φ) := by kernel_rfl
/-- _law_taken -/
def b21 (Φ : Nat → List T → M T) : Tw.Env → M Out :=
  (I.sSeq (I.sIf (I.cTest (I.c2 I.gGt (I.c2 I.gIxD (I.cVar 0) (I.cK (.int 3))) (I.cK (.int 0)))) (I.sSeq (I.sSet 3 (I.c2 I.gMod (I.cN I.bInt (I.aCons (I.c2 I.gIxD (I.cVar 0) (I.cK (.int 3))) I.aNil)) (I.cVar 1)))
      (I.sSeq (I.sStore (I.c2 I.gFdiv (I.c2 I.gIxD (I.cVar 0) (I.cK (.int 3))) (I.cVar 1)) (I.cVar 0) (I.cK (.int 3)))
      (I.sSeq (I.sRet (I.cVar 3))
      I.sNil))) I.sNil)
      (I.sSeq (I.sStore (I.c2 I.gAdd (I.c2 I.gIxD (I.cVar 0) (I.cK (.int 1))) (I.cK (.int 1))) (I.cVar 0) (I.cK (.int 1)))
      (I.sSeq (I.sIf (I.cTest (I.c2 I.gGt (I.c2 I.gIxD (I.cVar 0) (I.cK (.int 1))) (I.cN (I.bLenO cs Φ) (I.aCons (I.c2 I.gIxD (I.cVar 0) (I.cK (.int 0))) I.aNil)))) (I.sSeq (I.sStore (I.c2 I.gMod (I.cN I.bInt (I.aCons (I.c2 I.gAdd (I.c2 I.gMulI (I.c2 I.gIxD (I.cVar 0) (I.cK (.int 2))) (I.cK (.int 48271))) (I.cK (.int 11))) I.aNil)) (I.cK (.int 2147483647))) (I.cVar 0) (I.cK (.int 2)))
      (I.sSeq (I.sRet (I.c2 I.gMod (I.cN I.bInt (I.aCons (I.c2 I.gFdiv (I.c2 I.gIxD (I.cVar 0) (I.cK (.int 2))) (I.cK (.int 7))) I.aNil)) (I.cVar 1)))
      I.sNil)) I.sNil)
      (I.sSeq (I.sSet 2 (I.c2 I.gIxD (I.c2 I.gIxD (I.cVar 0) (I.cK (.int 0))) (I.c2 I.gSub (I.c2 I.gIxD (I.cVar 0) (I.cK (.int 1))) (I.cK (.int 1)))))
      (I.sSeq (I.sStore (I.c2 I.gMod (I.cN I.bInt (I.aCons (I.c2 I.gAdd (I.c2 I.gAdd (I.c2 I.gMulI (I.c2 I.gIxD (I.cVar 0) (I.cK (.int 2))) (I.cK (.int 48271))) (I.cVar 2)) (I.cK (.int 11))) I.aNil)) (I.cK (.int 2147483647))) (I.cVar 0) (I.cK (.int 2)))
      (I.sSeq (I.sIf (I.cTest (I.c2 I.gGe (I.cVar 2) (I.c2 I.gPow (I.cK (.int 10)) (I.cK (.int 18))))) (I.sSeq (I.sStore (I.c2 I.gFdiv (I.cVar 2) (I.cVar 1)) (I.cVar 0) (I.cK (.int 3)))
      I.sNil) I.sNil)
      (I.sSeq (I.sRet (I.c2 I.gMod (I.cN I.bInt (I.aCons (I.cVar 2) I.aNil)) (I.cVar 1)))
      I.sNil)))))))
abbrev st21 : Stmt := top 33
def e21 : FE := ⟨"_law_taken", "_law_taken", st21, ["_law_row", "_law_many"], ["_law_row", "_law_many", "_law_cell", "_law_found"], [], [], none, some b21⟩
theorem sc21 : FnScope ["_law_row", "_law_many", "_law_cell", "_law_found"] ["_law_row", "_law_many"] (defScope st21) := ⟨rfl, rfl, rfl, by decide +kernel, rfl, by decide +kernel, by decide +kernel⟩
theorem tr21 (Φ : Nat → List T → M T) : trSs Φ 400 200 (ctOf G cs e21) (defBody e21.st) = some (b21 Φ) := by kernel_rfl
/-- _law_plate -/
def b22 (Φ : Nat → List T → M T) : Tw.Env → M Out :=
  (I.sSeq (I.sSet 2 (I.c2 I.gIxD (I.cN I.mLst (I.aCons (I.cK .non) (I.aCons (I.cK .non) (I.aCons (I.cK (.int 1)) (I.aCons (I.cK (.int 2)) I.aNil))))) (I.cCall 2 (Φ 21) (I.aCons (I.cVar 0) (I.aCons (I.cK (.int 4)) I.aNil)))))
      (I.sSeq (I.sSet 3 (I.c2 I.gAdd (I.cK (.int 1)) (I.cCall 2 (Φ 21) (I.aCons (I.cVar 0) (I.aCons (I.cK (.int 3)) I.aNil)))))
      (I.sSeq (I.sSet 4 (I.c2 I.gAdd (I.cK (.int 1)) (I.cCall 2 (Φ 21) (I.aCons (I.cVar 0) (I.aCons (I.c2 I.gAdd (I.cK (.int 2)) (I.cN I.bInt (I.aCons (I.c2 (I.gEqD false) (I.cVar 3) (I.cK (.int 3))) I.aNil))) I.aNil)))))
      (I.sSeq (I.sRet (I.cN (pureC (I.mMake cs Φ 0)) (I.aCons (I.cVar 3) (I.aCons (I.cVar 4) (I.aCons (I.c2 I.gAdd (I.cK (.int 2)) (I.cCall 2 (Φ 21) (I.aCons (I.cVar 0) (I.aCons (I.cK (.int 5)) I.aNil)))) (I.aCons (I.cIf (I.cTru (I.cVar 1)) (I.cK .non) (I.cVar 2)) I.aNil))))))
      I.sNil))))
abbrev st22 : Stmt := top 34
def e22 : FE := ⟨"_law_plate", "_law_plate", st22, ["_law_row", "_law_is_still"], ["_law_row", "_law_is_still", "_law_fall", "_law_width", "_law_height"], [], [], none, some b22⟩
theorem sc22 : FnScope ["_law_row", "_law_is_still", "_law_fall", "_law_width", "_law_height"] ["_law_row", "_law_is_still"] (defScope st22) := ⟨rfl, rfl, rfl, by decide +kernel, rfl, by decide +kernel, by decide +kernel⟩
theorem tr22 (Φ : Nat → List T → M T) : trSs Φ 400 200 (ctOf G cs e22) (defBody e22.st) = some (b22 Φ) := by kernel_rfl
/-- _law_depths -/
def b23 (Φ : Nat → List T → M T) : Tw.Env → M Out :=
  (I.sSeq (I.sRet (I.cN I.bTuple (I.aCons (I.cLc (I.iRg1 (I.aCons (I.cN (I.bLenO cs Φ) (I.aCons (I.cVar 1) I.aNil)) I.aNil)) (gN 2) I.cYes (I.cCall 2 (Φ 21) (I.aCons (I.cVar 0) (I.aCons (I.c2 I.gAdd (I.c1 (I.mAttr cs Φ "most") (I.cVar 1)) (I.cK (.int 1))) I.aNil))) [2]) I.aNil)))
      I.sNil)
abbrev st23 : Stmt := top 35
def e23 : FE := ⟨"_law_depths", "_law_depths", st23, ["_law_row", "_law_plate_here"], ["_law_row", "_law_plate_here", "_law_cell"], [], [], none, some b23⟩
theorem sc23 : FnScope ["_law_row", "_law_plate_here", "_law_cell"] ["_law_row", "_law_plate_here"] (defScope st23) := ⟨rfl, rfl, rfl, by decide +kernel, rfl, by decide +kernel, by decide +kernel⟩
theorem tr23 (Φ : Nat → List T → M T) : trSs Φ 400 200 (ctOf G cs e23) (defBody e23.st) = some (b23 Φ) := by kernel_rfl
/-- _law_are_shifted -/
def b24 (Φ : Nat → List T → M T) : Tw.Env → M Out :=
  (I.sSeq (I.sPar 7 8 (I.c2 I.gMulI (I.cN I.mTup (I.aCons (I.cK (.int 0)) I.aNil)) (I.cN (I.bLenO cs Φ) (I.aCons (I.cVar 1) I.aNil))) (I.cCall 2 (Φ 17) (I.aCons (I.cVar 1) (I.aCons (I.cN I.mLst (I.aCons (I.cN I.mTup (I.aCons (I.cVar 2) (I.aCons (I.cK (.int 0)) (I.aCons (I.cK (.int 0)) I.aNil)))) (I.aCons (I.cN I.mTup (I.aCons (I.cVar 3) (I.aCons (I.cK (.int 0)) (I.aCons (I.cK (.int 0)) I.aNil)))) I.aNil))) I.aNil))))
      (I.sSeq (I.sIf (I.cOr (I.cTest (I.c2 (I.gIn true) (I.cN I.mTup (I.aCons (I.cK (.int 0)) (I.aCons (I.cK (.int 0)) I.aNil))) (I.cCall 4 (Φ 18) (I.aCons (I.cVar 1) (I.aCons (I.cVar 2) (I.aCons (I.cVar 3) (I.aCons (I.cVar 8) I.aNil))))))) (I.cTest (I.c2 (I.gEqD true) (I.cN (I.bLenO cs Φ) (I.aCons (I.cCall 4 (Φ 18) (I.aCons (I.cVar 1) (I.aCons (I.cVar 2) (I.aCons (I.cVar 7) (I.aCons (I.cVar 2) I.aNil))))) I.aNil)) (I.cK (.int 49))))) (I.sSeq (I.sRet (I.cK (.bl false)))
      I.sNil) I.sNil)
      (I.sSeq (I.sFor (I.iSeq (I.cCall 4 (Φ 18) (I.aCons (I.cVar 1) (I.aCons (I.cVar 2) (I.aCons (I.cVar 3) (I.aCons (I.cVar 8) I.aNil)))))) (gTp (gsCons (gN 9) (gsCons (gN 10) gsNil))) (I.sSeq (I.sIf (I.cTest (I.c2 (I.gEqD true) (I.cCall 2 (Φ 17) (I.aCons (I.cVar 1) (I.aCons (I.cN I.mLst (I.aCons (I.cN I.mTup (I.aCons (I.cVar 2) (I.aCons (I.cK (.int 0)) (I.aCons (I.cK (.int 0)) I.aNil)))) (I.aCons (I.cN I.mTup (I.aCons (I.cVar 3) (I.aCons (I.cVar 9) (I.aCons (I.cVar 10) I.aNil)))) I.aNil))) I.aNil))) (I.cVar 8))) (I.sSeq (I.sRet (I.cK (.bl false)))
      I.sNil) I.sNil)
      I.sNil))
      (I.sSeq (I.sIf (I.cOr (I.cTest (I.c2 (I.gEqD true) (I.cCall 3 (Φ 19) (I.aCons (I.cVar 1) (I.aCons (I.cVar 2) (I.aCons (I.cVar 2) I.aNil)))) (I.cVar 7))) (I.cTest (I.c2 (I.gEqD true) (I.cCall 3 (Φ 20) (I.aCons (I.cVar 1) (I.aCons (I.cVar 7) (I.aCons (I.cN I.mTup (I.aCons (I.cVar 2) (I.aCons (I.cVar 3) I.aNil))) I.aNil)))) (I.cN I.mTup I.aNil)))) (I.sSeq (I.sRet (I.cK (.bl false)))
      I.sNil) I.sNil)
      (I.sSeq (I.sSet 4 (I.cN I.mTup (I.aCons (I.cVar 2) (I.aCons (I.cVar 3) (I.aCons (I.cCall 2 (Φ 23) (I.aCons (I.cVar 0) (I.aCons (I.cVar 1) I.aNil))) I.aNil)))))
      (I.sSeq (I.sSet 5 (I.cCall 3 (Φ 20) (I.aCons (I.cVar 1) (I.aCons (I.cVar 8) (I.aCons (I.cVar 4) I.aNil)))))
      (I.sSeq (I.sIf (I.cOr (I.cTest (I.c2 I.gIs (I.cVar 5) (I.cK .non))) (I.cOr (I.cTest (I.c2 I.gGt (I.cN (I.bLenO cs Φ) (I.aCons (I.cVar 5) I.aNil)) (I.cK (.int 2)))) (I.cTest (I.c2 (I.gEqD true) (I.cCall 2 (Φ 17) (I.aCons (I.cVar 1) (I.aCons (I.cLc (I.iSeq (I.cVar 5)) (gN 12) I.cYes (I.cN I.mTup (I.aCons (I.c2 I.gIxD (I.cVar 4) (I.cVar 12)) (I.aCons (I.cK (.int 0)) (I.aCons (I.cK (.int 0)) I.aNil)))) [12]) I.aNil))) (I.cVar 8))))) (I.sSeq (I.sRet (I.cK (.bl false)))
      I.sNil) I.sNil)
      (I.sSeq (I.sIf (I.cAnd (I.cTest (I.c2 (I.gEqD false) (I.cN (I.bLenO cs Φ) (I.aCons (I.cVar 5) I.aNil)) (I.cK (.int 2)))) (I.cTest (I.c2 (I.gEqD true) (I.cCall 3 (Φ 20) (I.aCons (I.cVar 1) (I.aCons (I.cVar 8) (I.aCons (I.cSlice (I.cVar 4) I.oNone (I.oSome (I.cK (.int 2)))) I.aNil)))) (I.cN I.mTup (I.aCons (I.cK (.int 0)) (I.aCons (I.cK (.int 1)) I.aNil)))))) (I.sSeq (I.sRet (I.cK (.bl false)))
      I.sNil) I.sNil)
      (I.sSeq (I.sSet 6 (I.cN I.bTuple (I.aCons (I.cLc (I.iSeq (I.cVar 8)) (gN 11) I.cYes (I.cN I.bMin (I.aCons (I.cK (.int 9)) (I.aCons (I.c2 I.gAdd (I.cVar 11) (I.cK (.int 1))) I.aNil))) [11]) I.aNil)))
      (I.sSeq (I.sSet 5 (I.cCall 3 (Φ 20) (I.aCons (I.cVar 1) (I.aCons (I.cVar 6) (I.aCons (I.cVar 4) I.aNil)))))
      (I.sSeq (I.sIf (I.cAnd (I.cTest (I.c2 I.gIsNot (I.cVar 5) (I.cK .non))) (I.cTest (I.c2 (I.gEqD true) (I.cCall 2 (Φ 17) (I.aCons (I.cVar 1) (I.aCons (I.cLc (I.iSeq (I.cVar 5)) (gN 12) I.cYes (I.cN I.mTup (I.aCons (I.c2 I.gIxD (I.cVar 4) (I.cVar 12)) (I.aCons (I.cK (.int 0)) (I.aCons (I.cK (.int 0)) I.aNil)))) [12]) I.aNil))) (I.cVar 6)))) (I.sSeq (I.sRet (I.cK (.bl false)))
      I.sNil) I.sNil)
      (I.sSeq (I.sRet (I.cK (.bl true)))
      I.sNil))))))))))))
abbrev st24 : Stmt := top 36
def e24 : FE := ⟨"_law_are_shifted", "_law_are_shifted", st24, ["_law_row", "_law_plate_here", "_law_one", "_law_other"], ["_law_row", "_law_plate_here", "_law_one", "_law_other", "_law_some", "_law_told", "_law_deep", "_law_nothing", "_law_both", "_law_down", "_law_right", "_law_depth", "_law_k"], [], [], none, some b24⟩
theorem sc24 : FnScope ["_law_row", "_law_plate_here", "_law_one", "_law_other", "_law_some", "_law_told", "_law_deep", "_law_nothing", "_law_both", "_law_down", "_law_right", "_law_depth", "_law_k"] ["_law_row", "_law_plate_here", "_law_one", "_law_other"] (defScope st24) := ⟨rfl, rfl, rfl, by decide +kernel, rfl, by decide +kernel, by decide +kernel⟩
theorem tr24 (Φ : Nat → List T → M T) : trSs Φ 400 200 (ctOf G cs e24) (defBody e24.st) = some (b24 Φ) := by kernel_rfl
/-- law -/
def b25 (Φ : Nat → List T → M T) : Tw.Env → M Out :=
  (I.sSeq (I.sSet 1 (I.cN I.mNew (I.aCons (I.cVar 0) (I.aCons (I.cK (.int 0)) (I.aCons (I.cK (.int 0)) (I.aCons (I.cK (.int 0)) I.aNil))))))
      (I.sSeq (I.sFor (I.iRg1 (I.aCons (I.cK (.int 5)) I.aNil)) (gN 2) (I.sSeq (I.sSet 3 (I.cCall 2 (Φ 22) (I.aCons (I.cVar 1) (I.aCons (I.cK (.bl false)) I.aNil))))
      (I.sSeq (I.sPar 10 11 (I.c2 I.gMulI (I.cN I.mTup (I.aCons (I.cK (.int 0)) I.aNil)) (I.cN (I.bLenO cs Φ) (I.aCons (I.cVar 3) I.aNil))) (I.cN I.mNew I.aNil))
      (I.sSeq (I.sFor (I.iRg1 (I.aCons (I.cCall 2 (Φ 21) (I.aCons (I.cVar 1) (I.aCons (I.cK (.int 4)) I.aNil))) I.aNil)) (gN 4) (I.sSeq (I.sExpr (I.cMeth "list" I.mApp (I.cVar 11) (I.aCons (I.cN I.mTup (I.aCons (I.cCall 2 (Φ 23) (I.aCons (I.cVar 1) (I.aCons (I.cVar 3) I.aNil))) (I.aCons (I.c2 I.gSub (I.cCall 2 (Φ 21) (I.aCons (I.cVar 1) (I.aCons (I.cK (.int 3)) I.aNil))) (I.cK (.int 1))) (I.aCons (I.c2 I.gSub (I.cCall 2 (Φ 21) (I.aCons (I.cVar 1) (I.aCons (I.cK (.int 3)) I.aNil))) (I.cK (.int 1))) I.aNil)))) I.aNil)))
      I.sNil))
      (I.sFrz 11 (I.sSeq (I.sSet 5 (I.cCall 2 (Φ 17) (I.aCons (I.cVar 3) (I.aCons (I.cVar 11) I.aNil))))
      (I.sSeq (I.sIf (I.cOr (I.cTest (I.c2 (I.gEqD true) (I.cCall 2 (Φ 17) (I.aCons (I.cVar 3) (I.aCons (I.c1 I.mRev (I.cVar 11)) I.aNil))) (I.cVar 5))) (I.cTest (I.c2 (I.gEqD true) (I.cCall 2 (Φ 17) (I.aCons (I.cVar 3) (I.aCons (I.cN I.mLst I.aNil) I.aNil))) (I.cVar 10)))) (I.sSeq (I.sRet (I.cK (.bl false)))
      I.sNil) I.sNil)
      (I.sSeq (I.sSet 6 (I.cCall 2 (Φ 17) (I.aCons (I.cVar 3) (I.aCons (I.c2 I.gAdd (I.cVar 11) (I.cN I.mLst (I.aCons (I.cN I.mTup (I.aCons (I.cCall 2 (Φ 23) (I.aCons (I.cVar 1) (I.aCons (I.cVar 3) I.aNil))) (I.aCons (I.cK (.int 0)) (I.aCons (I.cK (.int 0)) I.aNil)))) I.aNil))) I.aNil))))
      (I.sSeq (I.sIf (I.cTest (I.c2 (I.gEqD true) (I.cLc (I.iRg1 (I.aCons (I.cN (I.bLenO cs Φ) (I.aCons (I.cVar 3) I.aNil)) I.aNil)) (gN 4) (I.cTest (I.c2 I.gLt (I.c2 I.gIxD (I.cVar 6) (I.cVar 4)) (I.c2 I.gIxD (I.cVar 5) (I.cVar 4)))) (I.cVar 4) [4]) (I.cN I.mLst I.aNil))) (I.sSeq (I.sRet (I.cK (.bl false)))
      I.sNil) I.sNil)
      (I.sSeq (I.sSet 7 (I.cN I.mTup (I.aCons (I.cCall 2 (Φ 23) (I.aCons (I.cVar 1) (I.aCons (I.cVar 3) I.aNil))) (I.aCons (I.cK (.int 3)) (I.aCons (I.c2 I.gSub (I.cK (.int 0)) (I.cK (.int 3))) I.aNil)))))
      (I.sSeq (I.sIf (I.cTest (I.c2 (I.gEqD true) (I.cCall 2 (Φ 17) (I.aCons (I.cVar 3) (I.aCons (I.c2 I.gAdd (I.cVar 11) (I.cN I.mLst (I.aCons (I.cVar 7) I.aNil))) I.aNil))) (I.cVar 5))) (I.sSeq (I.sRet (I.cK (.bl false)))
      I.sNil) I.sNil)
      (I.sSeq (I.sPar 12 13 (I.cCall 2 (Φ 23) (I.aCons (I.cVar 1) (I.aCons (I.cVar 3) I.aNil))) (I.cCall 2 (Φ 23) (I.aCons (I.cVar 1) (I.aCons (I.cVar 3) I.aNil))))
      (I.sSeq (I.sSet 8 (I.cCall 2 (Φ 17) (I.aCons (I.cVar 3) (I.aCons (I.cN I.mLst (I.aCons (I.cN I.mTup (I.aCons (I.cVar 12) (I.aCons (I.cK (.int 0)) (I.aCons (I.cK (.int 0)) I.aNil)))) (I.aCons (I.cN I.mTup (I.aCons (I.cVar 13) (I.aCons (I.cK (.int 0)) (I.aCons (I.cK (.int 0)) I.aNil)))) I.aNil))) I.aNil))))
      (I.sSeq (I.sSet 9 (I.cCall 3 (Φ 19) (I.aCons (I.cVar 3) (I.aCons (I.cVar 8) (I.aCons (I.cVar 12) I.aNil)))))
      (I.sSeq (I.sIf (I.cOr (I.cTest (I.c2 I.gIs (I.cVar 9) (I.cK .non))) (I.cOr (I.cTest (I.c2 I.gGt (I.cVar 9) (I.cVar 13))) (I.cTest (I.c2 (I.gEqD true) (I.cCall 2 (Φ 17) (I.aCons (I.cVar 3) (I.aCons (I.cN I.mLst (I.aCons (I.cN I.mTup (I.aCons (I.cVar 12) (I.aCons (I.cK (.int 0)) (I.aCons (I.cK (.int 0)) I.aNil)))) (I.aCons (I.cN I.mTup (I.aCons (I.cVar 9) (I.aCons (I.cK (.int 0)) (I.aCons (I.cK (.int 0)) I.aNil)))) I.aNil))) I.aNil))) (I.cVar 8))))) (I.sSeq (I.sRet (I.cK (.bl false)))
      I.sNil) I.sNil)
      (I.sSeq (I.sIf (I.cNot (I.cTru (I.cCall 4 (Φ 24) (I.aCons (I.cVar 1) (I.aCons (I.cVar 3) (I.aCons (I.cVar 12) (I.aCons (I.cVar 13) I.aNil))))))) (I.sSeq (I.sRet (I.cK (.bl false)))
      I.sNil) I.sNil)
      I.sNil))))))))))))))))
      (I.sSeq (I.sRet (I.cK (.bl true)))
      I.sNil)))
abbrev st25 : Stmt := top 37
def e25 : FE := ⟨"law", "law", st25, ["_law_script"], ["_law_script", "_law_row", "_law_turn", "_law_plate_here", "_law_k", "_law_sheet", "_law_more", "_law_away", "_law_both", "_law_there", "_law_nothing", "_law_rows", "_law_one", "_law_other"], ["_law_rows", "_law_row"], [(185, 11)], none, some b25⟩
theorem sc25 : FnScope ["_law_script", "_law_row", "_law_turn", "_law_plate_here", "_law_k", "_law_sheet", "_law_more", "_law_away", "_law_both", "_law_there", "_law_nothing", "_law_rows", "_law_one", "_law_other"] ["_law_script"] (defScope st25) := ⟨rfl, rfl, rfl, by decide +kernel, rfl, by decide +kernel, by decide +kernel⟩
theorem tr25 (Φ : Nat → List T → M T) : trSs Φ 400 200 (ctOf G cs e25) (defBody e25.st) = some (b25 Φ) := by kernel_rfl
def tab : List FE := [e0, e1, e2, e3, e4, e5, e6, e7, e8, e9, e10, e11, e12, e13, e14, e15, e16, e17, e18, e19, e20, e21, e22, e23, e24, e25]
theorem csb : csB tab cs = true := by decide +kernel
theorem all_mk {l : PySem.W.OpenLaw} {w : World} {K : PySem.W.Frag} {h : Heap} {mg : Str → Option Value} {fa : Addr} (X : K.In h) (Gm : h.Ns mainGlobals mg) (hfa : mg "law" = some (.ref fa))
    {C0 : Addr}
    {p0_0 : Addr}
    {p0_1 : Addr}
    {f0 : Addr} {od0 an0 : Option Addr} {sl0 : Array (Option Value)} {oc0 kV0 dc0 pm0 cd0 ct0 : Value}
    {f1 : Addr} {od1 an1 : Option Addr} {sl1 : Array (Option Value)} {oc1 kV1 dc1 pm1 cd1 ct1 : Value}
    {f2 : Addr} {od2 an2 : Option Addr} {sl2 : Array (Option Value)} {oc2 kV2 dc2 pm2 cd2 ct2 : Value}
    {T2 : Addr} {dd2 : Option Addr} {ss2 : Array (Option Value)} {tc2 : Value} {tn2 : Nat}
    {f3 : Addr} {od3 an3 : Option Addr} {sl3 : Array (Option Value)} {oc3 kV3 dc3 pm3 cd3 ct3 : Value}
    {pp3 : Addr} {re3 : List Value}
    {f4 : Addr} {od4 an4 : Option Addr} {sl4 : Array (Option Value)} {oc4 kV4 dc4 pm4 cd4 ct4 : Value}
    {pp4 : Addr} {re4 : List Value}
    {f5 : Addr} {od5 an5 : Option Addr} {sl5 : Array (Option Value)} {oc5 kV5 dc5 pm5 cd5 ct5 : Value}
    {pp5 : Addr} {re5 : List Value}
    {f6 : Addr} {od6 an6 : Option Addr} {sl6 : Array (Option Value)} {oc6 kV6 dc6 pm6 cd6 ct6 : Value}
    {pp6 : Addr} {re6 : List Value}
    {f7 : Addr} {od7 an7 : Option Addr} {sl7 : Array (Option Value)} {oc7 kV7 dc7 pm7 cd7 ct7 : Value}
    {f8 : Addr} {od8 an8 : Option Addr} {sl8 : Array (Option Value)} {oc8 kV8 dc8 pm8 cd8 ct8 : Value}
    {f9 : Addr} {od9 an9 : Option Addr} {sl9 : Array (Option Value)} {oc9 kV9 dc9 pm9 cd9 ct9 : Value}
    {f10 : Addr} {od10 an10 : Option Addr} {sl10 : Array (Option Value)} {oc10 kV10 dc10 pm10 cd10 ct10 : Value}
    {f11 : Addr} {od11 an11 : Option Addr} {sl11 : Array (Option Value)} {oc11 kV11 dc11 pm11 cd11 ct11 : Value}
    {f12 : Addr} {od12 an12 : Option Addr} {sl12 : Array (Option Value)} {oc12 kV12 dc12 pm12 cd12 ct12 : Value}
    {f13 : Addr} {od13 an13 : Option Addr} {sl13 : Array (Option Value)} {oc13 kV13 dc13 pm13 cd13 ct13 : Value}
    {f14 : Addr} {od14 an14 : Option Addr} {sl14 : Array (Option Value)} {oc14 kV14 dc14 pm14 cd14 ct14 : Value}
    {f15 : Addr} {od15 an15 : Option Addr} {sl15 : Array (Option Value)} {oc15 kV15 dc15 pm15 cd15 ct15 : Value}
    {f16 : Addr} {od16 an16 : Option Addr} {sl16 : Array (Option Value)} {oc16 kV16 dc16 pm16 cd16 ct16 : Value}
    {f17 : Addr} {od17 an17 : Option Addr} {sl17 : Array (Option Value)} {oc17 kV17 dc17 pm17 cd17 ct17 : Value}
    {f18 : Addr} {od18 an18 : Option Addr} {sl18 : Array (Option Value)} {oc18 kV18 dc18 pm18 cd18 ct18 : Value}
    {f19 : Addr} {od19 an19 : Option Addr} {sl19 : Array (Option Value)} {oc19 kV19 dc19 pm19 cd19 ct19 : Value}
    {f20 : Addr} {od20 an20 : Option Addr} {sl20 : Array (Option Value)} {oc20 kV20 dc20 pm20 cd20 ct20 : Value}
    {f21 : Addr} {od21 an21 : Option Addr} {sl21 : Array (Option Value)} {oc21 kV21 dc21 pm21 cd21 ct21 : Value}
    {f22 : Addr} {od22 an22 : Option Addr} {sl22 : Array (Option Value)} {oc22 kV22 dc22 pm22 cd22 ct22 : Value}
    {f23 : Addr} {od23 an23 : Option Addr} {sl23 : Array (Option Value)} {oc23 kV23 dc23 pm23 cd23 ct23 : Value}
    {f24 : Addr} {od24 an24 : Option Addr} {sl24 : Array (Option Value)} {oc24 kV24 dc24 pm24 cd24 ct24 : Value}
    {f25 : Addr} {od25 an25 : Option Addr} {sl25 : Array (Option Value)} {oc25 kV25 dc25 pm25 cd25 ct25 : Value}
    {tk0 : Tok}
    {tk1 : Tok}
    {tk2 : Tok}
    {tk3 : Tok}
    {tk4 : Tok}
    (cg0 : PySem.W.nsIn K mainGlobals "Plate" = some (some (.ref C0)))
    (pg0 : PySem.W.plainGet K C0 Str.empty = true)
    (ic0 : PySem.W.isClsIn K C0 = true)
    (po0 : PySem.W.plainOver K C0 = true)
    (sa0 : PySem.W.findIn K (.ref C0) "__setattr__" = some (some (.builtin "object.__setattr__")))
    (ca0 : PySem.W.findIn K (.ref C0) "__class__" = some (some (.builtin "object.__class__")))
    (cn0 : PySem.W.specialIn K (.builtin "object.__class__") "__get__" = some (some (.builtin "getset_descriptor.__get__")))
    (cq0 : PySem.W.takesIn K (.builtin "object.__class__") = some true)
    (cm0 : PySem.W.mroIn K C0 (.type "object") = some true)
    (sf0_0 : PySem.W.findIn K (.ref C0) "parts" = some (some (.ref p0_0)))
    (sg0_0 : PySem.W.specialIn K (.ref p0_0) "__get__" = some (some (.builtin "member_descriptor.__get__")))
    (sk0_0 : PySem.W.takesIn K (.ref p0_0) = some true)
    (sy0_0 : PySem.W.typeIn K (.ref p0_0) = some (.type "member_descriptor"))
    (si0_0 : PySem.W.slotIn K p0_0 C0 = some 0)
    (sf0_1 : PySem.W.findIn K (.ref C0) "spots" = some (some (.ref p0_1)))
    (sg0_1 : PySem.W.specialIn K (.ref p0_1) "__get__" = some (some (.builtin "member_descriptor.__get__")))
    (sk0_1 : PySem.W.takesIn K (.ref p0_1) = some true)
    (sy0_1 : PySem.W.typeIn K (.ref p0_1) = some (.type "member_descriptor"))
    (si0_1 : PySem.W.slotIn K p0_1 C0 = some 1)
    (mk0 : PySem.W.makesIn K C0 = true)
    (kc0 : PySem.W.keepIn K (.ref C0) = true)
    (a0 : PySem.W.nsIn K mainGlobals "_wall" = some (some (.ref f0)))
    (l0 : K.lookup f0 = some ⟨oc0, od0, .func (PySem.W.fnOf "_wall" "_wall" (defArgs st0) (defBody st0) (defScope st0) .none kV0 dc0 pm0 an0 cd0 ct0), sl0⟩)
    (c0 : PySem.W.codeIn K cd0 "_wall" = true)
    (k0 : PySem.W.keepIn K (.ref f0) = true)
    (a1 : PySem.W.nsIn K mainGlobals "is_number" = some (some (.ref f1)))
    (l1 : K.lookup f1 = some ⟨oc1, od1, .func (PySem.W.fnOf "is_number" "is_number" (defArgs st1) (defBody st1) (defScope st1) .none kV1 dc1 pm1 an1 cd1 ct1), sl1⟩)
    (c1 : PySem.W.codeIn K cd1 "is_number" = true)
    (k1 : PySem.W.keepIn K (.ref f1) = true)
    (a2 : PySem.W.findIn K (.ref C0) "__init__" = some (some (.ref f2)))
    (fn2 : PySem.W.isFn K (.ref f2) = true)
    (l2 : K.lookup f2 = some ⟨oc2, od2, .func (PySem.W.fnOf "__init__" "Plate.__init__" (defArgs st2) (defBody st2) (defScope st2) (.ref T2) kV2 dc2 pm2 an2 cd2 ct2), sl2⟩)
    (c2 : PySem.W.codeIn K cd2 "Plate.__init__" = true)
    (k2 : PySem.W.keepIn K (.ref f2) = true)
    (lt2 : K.lookup T2 = some ⟨tc2, dd2, .seq #[Value.none] tn2, ss2⟩)
    (pa3 : PySem.W.findIn K (.ref C0) "width" = some (some (.ref pp3)))
    (pb3 : PySem.W.specialIn K (.ref pp3) "__get__" = some (some (.builtin "property.__get__")))
    (pc3 : PySem.W.takesIn K (.ref pp3) = some true)
    (pd3 : PySem.W.recIn K pp3 "property" = some (.ref f3 :: re3))
    (l3 : K.lookup f3 = some ⟨oc3, od3, .func (PySem.W.fnOf "width" "Plate.width" (defArgs st3) (defBody st3) (defScope st3) .none kV3 dc3 pm3 an3 cd3 ct3), sl3⟩)
    (c3 : PySem.W.codeIn K cd3 "Plate.width" = true)
    (k3 : PySem.W.keepIn K (.ref f3) = true)
    (pa4 : PySem.W.findIn K (.ref C0) "height" = some (some (.ref pp4)))
    (pb4 : PySem.W.specialIn K (.ref pp4) "__get__" = some (some (.builtin "property.__get__")))
    (pc4 : PySem.W.takesIn K (.ref pp4) = some true)
    (pd4 : PySem.W.recIn K pp4 "property" = some (.ref f4 :: re4))
    (l4 : K.lookup f4 = some ⟨oc4, od4, .func (PySem.W.fnOf "height" "Plate.height" (defArgs st4) (defBody st4) (defScope st4) .none kV4 dc4 pm4 an4 cd4 ct4), sl4⟩)
    (c4 : PySem.W.codeIn K cd4 "Plate.height" = true)
    (k4 : PySem.W.keepIn K (.ref f4) = true)
    (pa5 : PySem.W.findIn K (.ref C0) "most" = some (some (.ref pp5)))
    (pb5 : PySem.W.specialIn K (.ref pp5) "__get__" = some (some (.builtin "property.__get__")))
    (pc5 : PySem.W.takesIn K (.ref pp5) = some true)
    (pd5 : PySem.W.recIn K pp5 "property" = some (.ref f5 :: re5))
    (l5 : K.lookup f5 = some ⟨oc5, od5, .func (PySem.W.fnOf "most" "Plate.most" (defArgs st5) (defBody st5) (defScope st5) .none kV5 dc5 pm5 an5 cd5 ct5), sl5⟩)
    (c5 : PySem.W.codeIn K cd5 "Plate.most" = true)
    (k5 : PySem.W.keepIn K (.ref f5) = true)
    (pa6 : PySem.W.findIn K (.ref C0) "fall" = some (some (.ref pp6)))
    (pb6 : PySem.W.specialIn K (.ref pp6) "__get__" = some (some (.builtin "property.__get__")))
    (pc6 : PySem.W.takesIn K (.ref pp6) = some true)
    (pd6 : PySem.W.recIn K pp6 "property" = some (.ref f6 :: re6))
    (l6 : K.lookup f6 = some ⟨oc6, od6, .func (PySem.W.fnOf "fall" "Plate.fall" (defArgs st6) (defBody st6) (defScope st6) .none kV6 dc6 pm6 an6 cd6 ct6), sl6⟩)
    (c6 : PySem.W.codeIn K cd6 "Plate.fall" = true)
    (k6 : PySem.W.keepIn K (.ref f6) = true)
    (a7 : PySem.W.findIn K (.ref C0) "__len__" = some (some (.ref f7)))
    (fn7 : PySem.W.isFn K (.ref f7) = true)
    (l7 : K.lookup f7 = some ⟨oc7, od7, .func (PySem.W.fnOf "__len__" "Plate.__len__" (defArgs st7) (defBody st7) (defScope st7) .none kV7 dc7 pm7 an7 cd7 ct7), sl7⟩)
    (c7 : PySem.W.codeIn K cd7 "Plate.__len__" = true)
    (k7 : PySem.W.keepIn K (.ref f7) = true)
    (a8 : PySem.W.findIn K (.ref C0) "__eq__" = some (some (.ref f8)))
    (fn8 : PySem.W.isFn K (.ref f8) = true)
    (l8 : K.lookup f8 = some ⟨oc8, od8, .func (PySem.W.fnOf "__eq__" "Plate.__eq__" (defArgs st8) (defBody st8) (defScope st8) .none kV8 dc8 pm8 an8 cd8 ct8), sl8⟩)
    (c8 : PySem.W.codeIn K cd8 "Plate.__eq__" = true)
    (k8 : PySem.W.keepIn K (.ref f8) = true)
    (a9 : PySem.W.nsIn K mainGlobals "are_depths" = some (some (.ref f9)))
    (l9 : K.lookup f9 = some ⟨oc9, od9, .func (PySem.W.fnOf "are_depths" "are_depths" (defArgs st9) (defBody st9) (defScope st9) .none kV9 dc9 pm9 an9 cd9 ct9), sl9⟩)
    (c9 : PySem.W.codeIn K cd9 "are_depths" = true)
    (k9 : PySem.W.keepIn K (.ref f9) = true)
    (a10 : PySem.W.nsIn K mainGlobals "check_depths" = some (some (.ref f10)))
    (l10 : K.lookup f10 = some ⟨oc10, od10, .func (PySem.W.fnOf "check_depths" "check_depths" (defArgs st10) (defBody st10) (defScope st10) .none kV10 dc10 pm10 an10 cd10 ct10), sl10⟩)
    (c10 : PySem.W.codeIn K cd10 "check_depths" = true)
    (k10 : PySem.W.keepIn K (.ref f10) = true)
    (a11 : PySem.W.nsIn K mainGlobals "choices" = some (some (.ref f11)))
    (l11 : K.lookup f11 = some ⟨oc11, od11, .func (PySem.W.fnOf "choices" "choices" (defArgs st11) (defBody st11) (defScope st11) .none kV11 dc11 pm11 an11 cd11 ct11), sl11⟩)
    (c11 : PySem.W.codeIn K cd11 "choices" = true)
    (k11 : PySem.W.keepIn K (.ref f11) = true)
    (a12 : PySem.W.nsIn K mainGlobals "check_tones" = some (some (.ref f12)))
    (l12 : K.lookup f12 = some ⟨oc12, od12, .func (PySem.W.fnOf "check_tones" "check_tones" (defArgs st12) (defBody st12) (defScope st12) .none kV12 dc12 pm12 an12 cd12 ct12), sl12⟩)
    (c12 : PySem.W.codeIn K cd12 "check_tones" = true)
    (k12 : PySem.W.keepIn K (.ref f12) = true)
    (a13 : PySem.W.nsIn K mainGlobals "are_seen" = some (some (.ref f13)))
    (l13 : K.lookup f13 = some ⟨oc13, od13, .func (PySem.W.fnOf "are_seen" "are_seen" (defArgs st13) (defBody st13) (defScope st13) .none kV13 dc13 pm13 an13 cd13 ct13), sl13⟩)
    (c13 : PySem.W.codeIn K cd13 "are_seen" = true)
    (k13 : PySem.W.keepIn K (.ref f13) = true)
    (a14 : PySem.W.nsIn K mainGlobals "shifted" = some (some (.ref f14)))
    (l14 : K.lookup f14 = some ⟨oc14, od14, .func (PySem.W.fnOf "shifted" "shifted" (defArgs st14) (defBody st14) (defScope st14) .none kV14 dc14 pm14 an14 cd14 ct14), sl14⟩)
    (c14 : PySem.W.codeIn K cd14 "shifted" = true)
    (k14 : PySem.W.keepIn K (.ref f14) = true)
    (a15 : PySem.W.nsIn K mainGlobals "together" = some (some (.ref f15)))
    (l15 : K.lookup f15 = some ⟨oc15, od15, .func (PySem.W.fnOf "together" "together" (defArgs st15) (defBody st15) (defScope st15) .none kV15 dc15 pm15 an15 cd15 ct15), sl15⟩)
    (c15 : PySem.W.codeIn K cd15 "together" = true)
    (k15 : PySem.W.keepIn K (.ref f15) = true)
    (a16 : PySem.W.nsIn K mainGlobals "is_shift" = some (some (.ref f16)))
    (l16 : K.lookup f16 = some ⟨oc16, od16, .func (PySem.W.fnOf "is_shift" "is_shift" (defArgs st16) (defBody st16) (defScope st16) .none kV16 dc16 pm16 an16 cd16 ct16), sl16⟩)
    (c16 : PySem.W.codeIn K cd16 "is_shift" = true)
    (k16 : PySem.W.keepIn K (.ref f16) = true)
    (a17 : PySem.W.nsIn K mainGlobals "overprinted" = some (some (.ref f17)))
    (l17 : K.lookup f17 = some ⟨oc17, od17, .func (PySem.W.fnOf "overprinted" "overprinted" (defArgs st17) (defBody st17) (defScope st17) .none kV17 dc17 pm17 an17 cd17 ct17), sl17⟩)
    (c17 : PySem.W.codeIn K cd17 "overprinted" = true)
    (k17 : PySem.W.keepIn K (.ref f17) = true)
    (a18 : PySem.W.nsIn K mainGlobals "shifts_of" = some (some (.ref f18)))
    (l18 : K.lookup f18 = some ⟨oc18, od18, .func (PySem.W.fnOf "shifts_of" "shifts_of" (defArgs st18) (defBody st18) (defScope st18) .none kV18 dc18 pm18 an18 cd18 ct18), sl18⟩)
    (c18 : PySem.W.codeIn K cd18 "shifts_of" = true)
    (k18 : PySem.W.keepIn K (.ref f18) = true)
    (a19 : PySem.W.nsIn K mainGlobals "parted" = some (some (.ref f19)))
    (l19 : K.lookup f19 = some ⟨oc19, od19, .func (PySem.W.fnOf "parted" "parted" (defArgs st19) (defBody st19) (defScope st19) .none kV19 dc19 pm19 an19 cd19 ct19), sl19⟩)
    (c19 : PySem.W.codeIn K cd19 "parted" = true)
    (k19 : PySem.W.keepIn K (.ref f19) = true)
    (a20 : PySem.W.nsIn K mainGlobals "fewest_plates" = some (some (.ref f20)))
    (l20 : K.lookup f20 = some ⟨oc20, od20, .func (PySem.W.fnOf "fewest_plates" "fewest_plates" (defArgs st20) (defBody st20) (defScope st20) .none kV20 dc20 pm20 an20 cd20 ct20), sl20⟩)
    (c20 : PySem.W.codeIn K cd20 "fewest_plates" = true)
    (k20 : PySem.W.keepIn K (.ref f20) = true)
    (a21 : PySem.W.nsIn K mainGlobals "_law_taken" = some (some (.ref f21)))
    (l21 : K.lookup f21 = some ⟨oc21, od21, .func (PySem.W.fnOf "_law_taken" "_law_taken" (defArgs st21) (defBody st21) (defScope st21) .none kV21 dc21 pm21 an21 cd21 ct21), sl21⟩)
    (c21 : PySem.W.codeIn K cd21 "_law_taken" = true)
    (k21 : PySem.W.keepIn K (.ref f21) = true)
    (a22 : PySem.W.nsIn K mainGlobals "_law_plate" = some (some (.ref f22)))
    (l22 : K.lookup f22 = some ⟨oc22, od22, .func (PySem.W.fnOf "_law_plate" "_law_plate" (defArgs st22) (defBody st22) (defScope st22) .none kV22 dc22 pm22 an22 cd22 ct22), sl22⟩)
    (c22 : PySem.W.codeIn K cd22 "_law_plate" = true)
    (k22 : PySem.W.keepIn K (.ref f22) = true)
    (a23 : PySem.W.nsIn K mainGlobals "_law_depths" = some (some (.ref f23)))
    (l23 : K.lookup f23 = some ⟨oc23, od23, .func (PySem.W.fnOf "_law_depths" "_law_depths" (defArgs st23) (defBody st23) (defScope st23) .none kV23 dc23 pm23 an23 cd23 ct23), sl23⟩)
    (c23 : PySem.W.codeIn K cd23 "_law_depths" = true)
    (k23 : PySem.W.keepIn K (.ref f23) = true)
    (a24 : PySem.W.nsIn K mainGlobals "_law_are_shifted" = some (some (.ref f24)))
    (l24 : K.lookup f24 = some ⟨oc24, od24, .func (PySem.W.fnOf "_law_are_shifted" "_law_are_shifted" (defArgs st24) (defBody st24) (defScope st24) .none kV24 dc24 pm24 an24 cd24 ct24), sl24⟩)
    (c24 : PySem.W.codeIn K cd24 "_law_are_shifted" = true)
    (k24 : PySem.W.keepIn K (.ref f24) = true)
    (a25 : PySem.W.nsIn K mainGlobals "law" = some (some (.ref f25)))
    (l25 : K.lookup f25 = some ⟨oc25, od25, .func (PySem.W.fnOf "law" "law" (defArgs st25) (defBody st25) (defScope st25) .none kV25 dc25 pm25 an25 cd25 ct25), sl25⟩)
    (c25 : PySem.W.codeIn K cd25 "law" = true)
    (k25 : PySem.W.keepIn K (.ref f25) = true)
    (x0 : PySem.W.nsIn K mainGlobals "MAX_CELLS" = some (some (.int 9 tk0)))
    (x1 : PySem.W.nsIn K mainGlobals "MAX_CHOICES" = some (some (.int 6 tk1)))
    (x2 : PySem.W.nsIn K mainGlobals "MAX_DEPTH" = some (some (.int 9 tk2)))
    (x3 : PySem.W.nsIn K mainGlobals "MAX_SHIFT" = some (some (.int 3 tk3)))
    (x4 : PySem.W.nsIn K mainGlobals "MAX_SIDE" = some (some (.int 4 tk4)))
    (al0 : PySem.W.nsIn K mainGlobals "choices_pictures" = some (some (.ref f11)))
    (z0 : PySem.W.nsIn K mainGlobals "all" = some none)
    (z1 : PySem.W.nsIn K mainGlobals "bool" = some none)
    (z2 : PySem.W.nsIn K mainGlobals "enumerate" = some none)
    (z3 : PySem.W.nsIn K mainGlobals "int" = some none)
    (z4 : PySem.W.nsIn K mainGlobals "isinstance" = some none)
    (z5 : PySem.W.nsIn K mainGlobals "len" = some none)
    (z6 : PySem.W.nsIn K mainGlobals "list" = some none)
    (z7 : PySem.W.nsIn K mainGlobals "max" = some none)
    (z8 : PySem.W.nsIn K mainGlobals "min" = some none)
    (z9 : PySem.W.nsIn K mainGlobals "range" = some none)
    (z10 : PySem.W.nsIn K mainGlobals "sum" = some none)
    (z11 : PySem.W.nsIn K mainGlobals "tuple" = some none)
    (z12 : PySem.W.nsIn K mainGlobals "zip" = some none)
    (plain : ∀ ns : List Int, ns.length ≤ 63 → ∃ μ, Ph tab 40 25 [.scr (ns.map T.int)] [] = .ok (.bl true) μ) :
    ∃ fd : FuncData, (∀ (s : Shared) (v : Value), BindsTo s fd ⟨[v], []⟩ [("_law_script", v)]) ∧ ∀ base : Heap, K.In base → base.Ns mainGlobals mg → FnOk l.prog w K mg base (L2.CX l.prog w) 80 fa fd ["_law_script"] (spLaw K) := by
  have e := hfa.symm.trans (PySem.W.mg_of X Gm a25)
  cases e
  let S : Sta := ⟨K, fun i => ([C0] : List Addr)[i]?, fun i => ([f0, f1, f2, f3, f4, f5, f6, f7, f8, f9, f10, f11, f12, f13, f14, f15, f16, f17, f18, f19, f20, f21, f22, f23, f24, fa] : List Addr)[i]?⟩
  have F0 := fun_mk (st := st0) l0 c0 k0
  have B0 := F0.binds (ps := ["k"]) fun _ _ _ _ _ _ us hl => match us, hl with | [_], _ => rfl
  have F1 := fun_mk (st := st1) l1 c1 k1
  have B1 := F1.binds (ps := ["value", "smallest", "largest"]) fun _ _ _ _ _ _ us hl => match us, hl with | [_, _, _], _ => rfl
  have F2 := funD_mk (st := st2) l2 c2 k2 lt2
  have B2 : Binds K _ ["self", "width", "height", "most", "fall"] [] := (F2.binds1 (ps := ["self", "width", "height", "most", "fall"]) 5 1 (by simp) rfl fun _ _ _ _ _ _ _ us its h1 h2 => match us, h1, its, h2 with | [_, _, _, _, _], _, [_], _ => ⟨_, rfl, rfl⟩).elim fun ds z => by
    obtain ⟨z1, z2⟩ := z
    cases z1
    exact z2
  have D2 : Binds K _ ["self", "width", "height", "most", "fall"] [Value.none] := (F2.binds1 (ps := ["self", "width", "height", "most", "fall"]) 4 0 (by simp) rfl fun _ _ _ _ _ _ _ us its h1 h2 => match us, h1, its, h2 with | [_, _, _, _], _, [_], _ => ⟨_, rfl, rfl⟩).elim fun ds z => by
    obtain ⟨z1, z2⟩ := z
    cases z1 with
    | cons z3 z4 =>
      cases z4
      cases z3
      exact z2
  have Q2 : KBn K _ ["self", "width", "height", "most", "fall"] 4 ["fall"] (fun us ws => us ++ ws) (fun vs zs => vs ++ zs) := (F2.kbindsD (ps := ["self", "width", "height", "most", "fall"]) 4 ["fall"] (fun us _ ws => us ++ ws) (by simp) (fun r1 _ r3 => r1.append r3) fun _ _ _ _ _ _ _ us its ws h1 h2 h3 => match us, h1, its, h2, ws, h3 with | [_, _, _, _], _, [_], _, [_], _ => ⟨_, rfl, rfl⟩).elim fun _ z => z
  have F3 := fun_mk (st := st3) l3 c3 k3
  have B3 := F3.binds (ps := ["self"]) fun _ _ _ _ _ _ us hl => match us, hl with | [_], _ => rfl
  have F4 := fun_mk (st := st4) l4 c4 k4
  have B4 := F4.binds (ps := ["self"]) fun _ _ _ _ _ _ us hl => match us, hl with | [_], _ => rfl
  have F5 := fun_mk (st := st5) l5 c5 k5
  have B5 := F5.binds (ps := ["self"]) fun _ _ _ _ _ _ us hl => match us, hl with | [_], _ => rfl
  have F6 := fun_mk (st := st6) l6 c6 k6
  have B6 := F6.binds (ps := ["self"]) fun _ _ _ _ _ _ us hl => match us, hl with | [_], _ => rfl
  have F7 := fun_mk (st := st7) l7 c7 k7
  have B7 := F7.binds (ps := ["self"]) fun _ _ _ _ _ _ us hl => match us, hl with | [_], _ => rfl
  have F8 := fun_mk (st := st8) l8 c8 k8
  have B8 := F8.binds (ps := ["self", "other"]) fun _ _ _ _ _ _ us hl => match us, hl with | [_, _], _ => rfl
  have F9 := fun_mk (st := st9) l9 c9 k9
  have B9 := F9.binds (ps := ["plate", "value"]) fun _ _ _ _ _ _ us hl => match us, hl with | [_, _], _ => rfl
  have F10 := fun_mk (st := st10) l10 c10 k10
  have B10 := F10.binds (ps := ["plate", "value"]) fun _ _ _ _ _ _ us hl => match us, hl with | [_, _], _ => rfl
  have F11 := fun_mk (st := st11) l11 c11 k11
  have B11 := F11.binds (ps := ["things"]) fun _ _ _ _ _ _ us hl => match us, hl with | [_], _ => rfl
  have F12 := fun_mk (st := st12) l12 c12 k12
  have B12 := F12.binds (ps := ["plate", "seen"]) fun _ _ _ _ _ _ us hl => match us, hl with | [_, _], _ => rfl
  have F13 := fun_mk (st := st13) l13 c13 k13
  have B13 := F13.binds (ps := ["found", "seen"]) fun _ _ _ _ _ _ us hl => match us, hl with | [_, _], _ => rfl
  have F14 := fun_mk (st := st14) l14 c14 k14
  have B14 := F14.binds (ps := ["plate", "depths", "down", "right"]) fun _ _ _ _ _ _ us hl => match us, hl with | [_, _, _, _], _ => rfl
  have F15 := fun_mk (st := st15) l15 c15 k15
  have B15 := F15.binds (ps := ["rows", "size"]) fun _ _ _ _ _ _ us hl => match us, hl with | [_, _], _ => rfl
  have F16 := fun_mk (st := st16) l16 c16 k16
  have B16 := F16.binds (ps := ["value"]) fun _ _ _ _ _ _ us hl => match us, hl with | [_], _ => rfl
  have F17 := fun_mk (st := st17) l17 c17 k17
  have B17 := F17.binds (ps := ["plate", "rows"]) fun _ _ _ _ _ _ us hl => match us, hl with | [_, _], _ => rfl
  have F18 := fun_mk (st := st18) l18 c18 k18
  have B18 := F18.binds (ps := ["plate", "one", "other", "seen"]) fun _ _ _ _ _ _ us hl => match us, hl with | [_, _, _, _], _ => rfl
  have F19 := fun_mk (st := st19) l19 c19 k19
  have B19 := F19.binds (ps := ["plate", "seen", "depths"]) fun _ _ _ _ _ _ us hl => match us, hl with | [_, _, _], _ => rfl
  have F20 := fun_mk (st := st20) l20 c20 k20
  have B20 := F20.binds (ps := ["plate", "seen", "choices"]) fun _ _ _ _ _ _ us hl => match us, hl with | [_, _, _], _ => rfl
  have F21 := fun_mk (st := st21) l21 c21 k21
  have B21 := F21.binds (ps := ["_law_row", "_law_many"]) fun _ _ _ _ _ _ us hl => match us, hl with | [_, _], _ => rfl
  have F22 := fun_mk (st := st22) l22 c22 k22
  have B22 := F22.binds (ps := ["_law_row", "_law_is_still"]) fun _ _ _ _ _ _ us hl => match us, hl with | [_, _], _ => rfl
  have F23 := fun_mk (st := st23) l23 c23 k23
  have B23 := F23.binds (ps := ["_law_row", "_law_plate_here"]) fun _ _ _ _ _ _ us hl => match us, hl with | [_, _], _ => rfl
  have F24 := fun_mk (st := st24) l24 c24 k24
  have B24 := F24.binds (ps := ["_law_row", "_law_plate_here", "_law_one", "_law_other"]) fun _ _ _ _ _ _ us hl => match us, hl with | [_, _, _, _], _ => rfl
  have F25 := fun_mk (st := st25) l25 c25 k25
  have B25 := F25.binds (ps := ["_law_script"]) fun _ _ _ _ _ _ us hl => match us, hl with | [_], _ => rfl
  have facts : ∀ (i : Nat) (e : FE), tab[i]? = some e → ∃ f fd, S.fa i = some f ∧ FEok S e f fd := by
    intro i e hi
    match i, hi with
    | 0, hi => cases hi; exact ⟨_, _, rfl, ⟨[], funD_of F0⟩, sc0, B0, fun _ z => nomatch z⟩
    | 1, hi => cases hi; exact ⟨_, _, rfl, ⟨[], funD_of F1⟩, sc1, B1, fun _ z => nomatch z⟩
    | 2, hi => cases hi; exact ⟨_, _, rfl, ⟨_, F2⟩, sc2, B2, fun _ z => by cases z; exact ⟨D2, fun m hm => by cases hm; exact Q2⟩⟩
    | 3, hi => cases hi; exact ⟨_, _, rfl, ⟨[], funD_of F3⟩, sc3, B3, fun _ z => nomatch z⟩
    | 4, hi => cases hi; exact ⟨_, _, rfl, ⟨[], funD_of F4⟩, sc4, B4, fun _ z => nomatch z⟩
    | 5, hi => cases hi; exact ⟨_, _, rfl, ⟨[], funD_of F5⟩, sc5, B5, fun _ z => nomatch z⟩
    | 6, hi => cases hi; exact ⟨_, _, rfl, ⟨[], funD_of F6⟩, sc6, B6, fun _ z => nomatch z⟩
    | 7, hi => cases hi; exact ⟨_, _, rfl, ⟨[], funD_of F7⟩, sc7, B7, fun _ z => nomatch z⟩
    | 8, hi => cases hi; exact ⟨_, _, rfl, ⟨[], funD_of F8⟩, sc8, B8, fun _ z => nomatch z⟩
    | 9, hi => cases hi; exact ⟨_, _, rfl, ⟨[], funD_of F9⟩, sc9, B9, fun _ z => nomatch z⟩
    | 10, hi => cases hi; exact ⟨_, _, rfl, ⟨[], funD_of F10⟩, sc10, B10, fun _ z => nomatch z⟩
    | 11, hi => cases hi; exact ⟨_, _, rfl, ⟨[], funD_of F11⟩, sc11, B11, fun _ z => nomatch z⟩
    | 12, hi => cases hi; exact ⟨_, _, rfl, ⟨[], funD_of F12⟩, sc12, B12, fun _ z => nomatch z⟩
    | 13, hi => cases hi; exact ⟨_, _, rfl, ⟨[], funD_of F13⟩, sc13, B13, fun _ z => nomatch z⟩
    | 14, hi => cases hi; exact ⟨_, _, rfl, ⟨[], funD_of F14⟩, sc14, B14, fun _ z => nomatch z⟩
    | 15, hi => cases hi; exact ⟨_, _, rfl, ⟨[], funD_of F15⟩, sc15, B15, fun _ z => nomatch z⟩
    | 16, hi => cases hi; exact ⟨_, _, rfl, ⟨[], funD_of F16⟩, sc16, B16, fun _ z => nomatch z⟩
    | 17, hi => cases hi; exact ⟨_, _, rfl, ⟨[], funD_of F17⟩, sc17, B17, fun _ z => nomatch z⟩
    | 18, hi => cases hi; exact ⟨_, _, rfl, ⟨[], funD_of F18⟩, sc18, B18, fun _ z => nomatch z⟩
    | 19, hi => cases hi; exact ⟨_, _, rfl, ⟨[], funD_of F19⟩, sc19, B19, fun _ z => nomatch z⟩
    | 20, hi => cases hi; exact ⟨_, _, rfl, ⟨[], funD_of F20⟩, sc20, B20, fun _ z => nomatch z⟩
    | 21, hi => cases hi; exact ⟨_, _, rfl, ⟨[], funD_of F21⟩, sc21, B21, fun _ z => nomatch z⟩
    | 22, hi => cases hi; exact ⟨_, _, rfl, ⟨[], funD_of F22⟩, sc22, B22, fun _ z => nomatch z⟩
    | 23, hi => cases hi; exact ⟨_, _, rfl, ⟨[], funD_of F23⟩, sc23, B23, fun _ z => nomatch z⟩
    | 24, hi => cases hi; exact ⟨_, _, rfl, ⟨[], funD_of F24⟩, sc24, B24, fun _ z => nomatch z⟩
    | 25, hi => cases hi; exact ⟨_, _, rfl, ⟨[], funD_of F25⟩, sc25, B25, fun _ z => nomatch z⟩
    | n + 26, hi => exact absurd hi (by simp [tab])
  have tr : ∀ (i : Nat) (e : FE), tab[i]? = some e → ∀ b, e.b = some b → ∀ Φ, trSs Φ 400 200 (ctOf G cs e) (defBody e.st) = some (b Φ) := by
    intro i e hi b hb Φ
    match i, hi with
    | 0, hi => cases hi; cases hb; exact tr0 Φ
    | 1, hi => cases hi; cases hb; exact tr1 Φ
    | 2, hi => cases hi; cases hb; exact tr2 Φ
    | 3, hi => cases hi; cases hb; exact tr3 Φ
    | 4, hi => cases hi; cases hb; exact tr4 Φ
    | 5, hi => cases hi; cases hb; exact tr5 Φ
    | 6, hi => cases hi; cases hb; exact tr6 Φ
    | 7, hi => cases hi; cases hb; exact tr7 Φ
    | 8, hi => cases hi; cases hb; exact tr8 Φ
    | 9, hi => cases hi; cases hb; exact tr9 Φ
    | 10, hi => cases hi; cases hb; exact tr10 Φ
    | 11, hi => cases hi; cases hb; exact tr11 Φ
    | 12, hi => cases hi; cases hb; exact tr12 Φ
    | 13, hi => cases hi; cases hb; exact tr13 Φ
    | 14, hi => cases hi; cases hb; exact tr14 Φ
    | 15, hi => cases hi; cases hb; exact tr15 Φ
    | 16, hi => cases hi; cases hb; exact tr16 Φ
    | 17, hi => cases hi; cases hb; exact tr17 Φ
    | 18, hi => cases hi; cases hb; exact tr18 Φ
    | 19, hi => cases hi; cases hb; exact tr19 Φ
    | 20, hi => cases hi; cases hb; exact tr20 Φ
    | 21, hi => cases hi; cases hb; exact tr21 Φ
    | 22, hi => cases hi; cases hb; exact tr22 Φ
    | 23, hi => cases hi; cases hb; exact tr23 Φ
    | 24, hi => cases hi; cases hb; exact tr24 Φ
    | 25, hi => cases hi; cases hb; exact tr25 Φ
    | n + 26, hi => exact absurd hi (by simp [tab])
  have hCs : ∀ (i : Nat) (e : CE), cs[i]? = some e → ∃ C, S.ca i = some C ∧ CEok S e C := by
    intro i e hi
    match i, hi with
    | 0, hi =>
      cases hi
      refine ⟨C0, rfl, ?_, ?_, ?_, ?_, ?_⟩
      · intro ns hn
        cases hn
        refine ⟨⟨pg0, ic0, po0, sa0⟩, ⟨ca0, cn0, cq0, cm0⟩, fun i f hf => ?_⟩
        match i, hf with
        | 0, hf => cases hf; exact ⟨_, ⟨sf0_0, sg0_0, sk0_0, sy0_0, si0_0, by decide⟩⟩
        | 1, hf => cases hf; exact ⟨_, ⟨sf0_1, sg0_1, sk0_1, sy0_1, si0_1, by decide⟩⟩
        | n + 2, hf => exact absurd hf (by simp)
      · intro z
        cases z
      · intro m j n hm
        simp only [List.mem_cons, List.mem_nil_iff, or_false, Prod.mk.injEq] at hm
        rcases hm with ⟨rfl, rfl, rfl⟩ | ⟨rfl, rfl, rfl⟩
        · exact ⟨_, rfl, a7, fn7, k7⟩
        · exact ⟨_, rfl, a8, fn8, k8⟩
      · intro m j hm
        simp only [List.mem_cons, List.mem_nil_iff, or_false, Prod.mk.injEq] at hm
        rcases hm with ⟨rfl, rfl⟩ | ⟨rfl, rfl⟩ | ⟨rfl, rfl⟩ | ⟨rfl, rfl⟩
        · exact ⟨_, _, rfl, pa3, pb3, pc3, _, pd3⟩
        · exact ⟨_, _, rfl, pa4, pb4, pc4, _, pd4⟩
        · exact ⟨_, _, rfl, pa5, pb5, pc5, _, pd5⟩
        · exact ⟨_, _, rfl, pa6, pb6, pc6, _, pd6⟩
      · intro j n kw hm
        cases hm
        exact ⟨_, rfl, mk0, a2, fn2, kc0⟩
    | n + 1, hi => exact absurd hi (by simp [cs])
  have hG : ∀ x g, G x = some g → GG S mg tab x g := by
    intro x g hx
    have hm := lookup_mem hx
    simp only [glist, List.mem_cons, List.mem_nil_iff, or_false, Prod.mk.injEq] at hm
    rcases hm with ⟨rfl, rfl⟩ | ⟨rfl, rfl⟩ | ⟨rfl, rfl⟩ | ⟨rfl, rfl⟩ | ⟨rfl, rfl⟩ | ⟨rfl, rfl⟩ | ⟨rfl, rfl⟩ | ⟨rfl, rfl⟩ | ⟨rfl, rfl⟩ | ⟨rfl, rfl⟩ | ⟨rfl, rfl⟩ | ⟨rfl, rfl⟩ | ⟨rfl, rfl⟩ | ⟨rfl, rfl⟩ | ⟨rfl, rfl⟩ | ⟨rfl, rfl⟩ | ⟨rfl, rfl⟩ | ⟨rfl, rfl⟩ | ⟨rfl, rfl⟩ | ⟨rfl, rfl⟩ | ⟨rfl, rfl⟩ | ⟨rfl, rfl⟩ | ⟨rfl, rfl⟩ | ⟨rfl, rfl⟩ | ⟨rfl, rfl⟩ | ⟨rfl, rfl⟩ | ⟨rfl, rfl⟩ | ⟨rfl, rfl⟩ | ⟨rfl, rfl⟩ | ⟨rfl, rfl⟩ | ⟨rfl, rfl⟩ | ⟨rfl, rfl⟩ | ⟨rfl, rfl⟩ | ⟨rfl, rfl⟩ | ⟨rfl, rfl⟩ | ⟨rfl, rfl⟩ | ⟨rfl, rfl⟩ | ⟨rfl, rfl⟩ | ⟨rfl, rfl⟩
    · exact ⟨e0, f0, rfl, rfl, rfl, PySem.W.mg_of X Gm a0⟩
    · exact ⟨e1, f1, rfl, rfl, rfl, PySem.W.mg_of X Gm a1⟩
    · exact ⟨e9, f9, rfl, rfl, rfl, PySem.W.mg_of X Gm a9⟩
    · exact ⟨e10, f10, rfl, rfl, rfl, PySem.W.mg_of X Gm a10⟩
    · exact ⟨e11, f11, rfl, rfl, rfl, PySem.W.mg_of X Gm a11⟩
    · exact ⟨e12, f12, rfl, rfl, rfl, PySem.W.mg_of X Gm a12⟩
    · exact ⟨e13, f13, rfl, rfl, rfl, PySem.W.mg_of X Gm a13⟩
    · exact ⟨e14, f14, rfl, rfl, rfl, PySem.W.mg_of X Gm a14⟩
    · exact ⟨e15, f15, rfl, rfl, rfl, PySem.W.mg_of X Gm a15⟩
    · exact ⟨e16, f16, rfl, rfl, rfl, PySem.W.mg_of X Gm a16⟩
    · exact ⟨e17, f17, rfl, rfl, rfl, PySem.W.mg_of X Gm a17⟩
    · exact ⟨e18, f18, rfl, rfl, rfl, PySem.W.mg_of X Gm a18⟩
    · exact ⟨e19, f19, rfl, rfl, rfl, PySem.W.mg_of X Gm a19⟩
    · exact ⟨e20, f20, rfl, rfl, rfl, PySem.W.mg_of X Gm a20⟩
    · exact ⟨e21, f21, rfl, rfl, rfl, PySem.W.mg_of X Gm a21⟩
    · exact ⟨e22, f22, rfl, rfl, rfl, PySem.W.mg_of X Gm a22⟩
    · exact ⟨e23, f23, rfl, rfl, rfl, PySem.W.mg_of X Gm a23⟩
    · exact ⟨e24, f24, rfl, rfl, rfl, PySem.W.mg_of X Gm a24⟩
    · exact ⟨e25, fa, rfl, rfl, rfl, PySem.W.mg_of X Gm a25⟩
    · exact ⟨e11, f11, rfl, rfl, rfl, PySem.W.mg_of X Gm al0⟩
    · exact ⟨_, .ref C0, PySem.W.mg_of X Gm cg0, rfl, fun _ _ => .cls rfl⟩
    · exact ⟨_, .int 9, PySem.W.mg_of X Gm x0, ⟨_, rfl⟩, fun _ _ => .int _⟩
    · exact ⟨_, .int 6, PySem.W.mg_of X Gm x1, ⟨_, rfl⟩, fun _ _ => .int _⟩
    · exact ⟨_, .int 9, PySem.W.mg_of X Gm x2, ⟨_, rfl⟩, fun _ _ => .int _⟩
    · exact ⟨_, .int 3, PySem.W.mg_of X Gm x3, ⟨_, rfl⟩, fun _ _ => .int _⟩
    · exact ⟨_, .int 4, PySem.W.mg_of X Gm x4, ⟨_, rfl⟩, fun _ _ => .int _⟩
    · exact PySem.W.mg_none_of X Gm z0
    · exact PySem.W.mg_none_of X Gm z1
    · exact PySem.W.mg_none_of X Gm z2
    · exact PySem.W.mg_none_of X Gm z3
    · exact PySem.W.mg_none_of X Gm z4
    · exact PySem.W.mg_none_of X Gm z5
    · exact PySem.W.mg_none_of X Gm z6
    · exact PySem.W.mg_none_of X Gm z7
    · exact PySem.W.mg_none_of X Gm z8
    · exact PySem.W.mg_none_of X Gm z9
    · exact PySem.W.mg_none_of X Gm z10
    · exact PySem.W.mg_none_of X Gm z11
    · exact PySem.W.mg_none_of X Gm z12
  refine ⟨PySem.W.fnOf "law" "law" (defArgs st25) (defBody st25) (defScope st25) .none kV25 dc25 pm25 an25 cd25 ct25, fun s v => .of_eq rfl, fun base h1 h2 => ?_⟩
  obtain ⟨f, fd, g1, g2, g3⟩ := all_ok (P := l.prog) (w := w) (mg := mg) (base := base) facts tr hG csb hCs 40 25 e25 rfl
  cases g1
  have e2 := fd_inj g2 l25
  subst e2
  exact g3.imp (law_sp (S := S) plain)
end Lw
namespace Lw
open PySem L2 Tw
section
local macro_rules | `(tactic| decreasing_trivial_pre_omega) => `(tactic| first
  | (refine RI.idO ?_; first | refine RI.sNil ?_ | refine RI.sSeqG fun R hR => ?_ | refine RI.sSet ?_ | refine RI.sRet ?_ | refine RI.sRetN ?_ | refine RI.sExpr ?_ | refine RI.sIf ?_ | refine RI.sPass ?_ | refine RI.sBreak ?_ | refine RI.sCont ?_ | refine RI.sStore ?_ | refine RI.sPar ?_ | refine RI.sFor ?_ | refine RI.setA ?_ | refine RI.asg ?_ | refine RI.sFrzL rfl (by assumption) (by simp only [List.set_cons_succ, List.set_cons_zero]; exact rfl) ?_ | refine RI.goR (by assumption) ?_)
  | (refine RI.idT ?_; first | refine RI.cVar rfl ?_ | refine RI.cK ?_ | refine RI.c1 ?_ | refine RI.c2 ?_ | refine RI.cN ?_ | refine RI.cIf ?_ | refine RI.cAndT ?_ | refine RI.cOrT ?_ | refine RI.cNotT ?_ | refine RI.cChain ?_ | refine RI.cSlice ?_ | refine RI.cKw ?_ | refine RI.cLc ?_ | refine RI.cLc2 ?_ | refine RI.cRgL1 ?_ | refine RI.cRgL2 ?_ | refine RI.cMeth ?_ | refine RI.mAttrF rfl rfl rfl ?_ | refine RI.cCall ?_ | refine RI.gIxO (by assumption) rfl ?_ | refine RI.gIxT rfl ?_ | refine RI.gIxL rfl ?_ | refine RI.gIx0 ?_ | refine RI.gAddI ?_ | refine RI.gSub ?_ | refine RI.gLt ?_ | refine RI.gLe ?_ | refine RI.gGt ?_ | refine RI.gGe ?_ | refine RI.gNeg ?_ | refine RI.eqI0 ?_ | refine RI.eqI1 ?_ | refine RI.bLenT ?_ | refine RI.bLenL ?_ | refine RI.bLenS ?_ | refine RI.bInt ?_ | refine RI.bIntB ?_ | refine RI.bTupL ?_ | refine RI.bTupT ?_ | refine RI.bLstT ?_ | refine RI.bLstL ?_ | refine RI.mCutT ?_ | refine RI.mCutL ?_ | refine RI.isiTup ?_ | refine RI.isiInt ?_ | refine RI.isiIntB ?_ | refine RI.bLenO (by assumption) ?_ | refine RI.gMul (by first | exact R.mulR rfl | exact R.mulL rfl | exact R.mulB (by omega) (by omega)) ?_ | refine RI.gFdiv (by first | assumption | rfl | decide | omega) (by first | assumption | rfl | decide | omega) ?_ | refine RI.gMod (by first | assumption | rfl | decide | omega) ?_ | refine RI.gPow rfl ?_ | (refine RI.mTup ?_ ?_; (focus (simp [lim]; done))) | (refine RI.mLst ?_ ?_; (focus (simp [lim]; done))) | (refine RI.mNew ?_ ?_; (focus (simp [lim]; done))) | refine RI.min2 ?_ | refine RI.max2 ?_ | refine RI.isN0 ?_ | refine RI.isNI ?_ | refine RI.isNN0 ?_ | refine RI.isNNI ?_ | refine RI.mRevL ?_ | refine RI.cCall0 ?_ | refine RI.cRepL ?_)
  | (refine RI.idL ?_; first | refine RI.aNil ?_ | refine RI.aCons ?_ | refine RI.aStar ?_ | refine RI.iSeq ?_ | refine RI.mItT ?_ | refine RI.mItL ?_ | refine RI.iRg1 ?_ | refine RI.iRg2 ?_ | refine RI.iEn ?_ | refine RI.mEnuT ?_ | refine RI.mEnuL ?_ | refine RI.iZp ?_ | refine RI.mZipT ?_ | refine RI.mZipL ?_ | refine RI.mSeqT ?_ | refine RI.mSeqL ?_ | refine RI.iRg3 ?_)
  | (refine RI.idB ?_; first | refine RI.cTest ?_ | refine RI.cTru ?_ | refine RI.cAnd ?_ | refine RI.cOr ?_ | refine RI.cNot ?_ | refine RI.cYes ?_ | refine RI.mTruB ?_ | refine RI.mTruI ?_ | refine RI.mTruT ?_ | refine RI.mTruL ?_ | refine RI.mTruN ?_)
  | refine RI.qnxS (by simp only [List.set_cons_succ, List.set_cons_zero]; exact rfl) ?_
  | refine RI.qnxP (by simp only [putE, List.set_cons_succ, List.set_cons_zero]; exact rfl) ?_
  | refine RI.qnx ?_
  | refine R.qrt ?_
  | refine R.qbk ?_
  | refine R.qct ?_
  | refine R.frt ?_
  | refine R.fnx ?_
  | refine R.brT ?_
  | refine R.brF ?_
  | refine R.brNT ?_
  | refine R.brNF ?_
  | refine RI.oNone ?_
  | refine RI.oSome ?_
  | refine RI.now ?_
  | refine R.isBl ?_
  | refine R.isInt ?_
  | refine R.isI1 ?_
  | refine R.isI2 ?_
  | refine R.len rfl ?_
  | refine R.chk (by first | assumption | exact tyOkL (by assumption) | decide +kernel | exact R.inRB (by omega) (by omega) | exact R.rgB (by omega) (by omega) (by omega) (by omega) | (simp only [List.length_map, List.length_cons, List.length_nil, List.length_replicate, rgT_length, rgI_length]; first | exact R.inRB (by omega) (by omega) | exact R.rgB (by omega) (by omega) (by omega) (by omega))) ?_
  | refine R.bnd rfl ?_
  | refine R.stA rfl ?_
  | refine R.brF2 ?_
  | refine R.brT2 ?_
  | refine R.brF3 ?_
  | refine R.brT3 ?_
  | refine R.br1 (by (try simp only [Bool.and_eq_true, Bool.or_eq_true, Bool.and_eq_false_iff, Bool.or_eq_false_iff, Bool.not_eq_false', Bool.not_eq_true', decide_eq_true_eq, decide_eq_false_iff_not, List.length_map, List.length_cons, List.length_nil, rgT_length]); omega) ?_
  | refine R.br0 (by (try simp only [Bool.and_eq_true, Bool.or_eq_true, Bool.and_eq_false_iff, Bool.or_eq_false_iff, Bool.not_eq_false', Bool.not_eq_true', decide_eq_true_eq, decide_eq_false_iff_not, List.length_map, List.length_cons, List.length_nil, rgT_length]); omega) ?_)
theorem ph_is_number (k : Nat) : Ph tab (k + 1) 1 = pureC (I.fnD 3 (b1 (Ph tab k))) := by rw [I.fnD_eq, Ph_succ]; rfl
theorem fd_is_number {s : Tw.Env → M Out} {a0 a1 a2 : T} {μ : Store} {P : T → Store → Prop} {E : Exc → Store → Prop} (h : OkI (s [some a0, some a1, some a2] μ) (R.fnQ P E) fun _ _ => False) : OkI (I.fnD 3 s [a0, a1, a2] μ) P E := RI.fnD h
theorem isnum (k : Nat) (v a b : Int) (μ : Store) : Ph tab (k + 1) 1 [.int v, .int a, .int b] μ = .ok (.bl (decide (a ≤ v) && decide (v ≤ b))) μ := by
  refine spec (ph_is_number k) (by simp only [cleans_cons, cleans_nil, clean_int, clean_bl, clean_non, clean_str, clean_tup, clean_lst, clean_ins, clean_oT, clean_pl, clean_row, cleans_ints, cleans_rows, cleans_oT, cleans_rg, Bool.and_true, Bool.true_and]) (clean_bl _) ?_
  refine fd_is_number ?_
  unfold b1
  repeat decreasing_trivial_pre_omega
  refine ⟨fun hk => ?_, fun hk => ?_⟩
  · repeat decreasing_trivial_pre_omega
    rw [hk]
    rfl
  · repeat decreasing_trivial_pre_omega
    rw [hk]
    rfl
theorem ph_Plate_width (k : Nat) : Ph tab (k + 1) 3 = pureC (I.fnD 1 (b3 (Ph tab k))) := by rw [I.fnD_eq, Ph_succ]; rfl
theorem fd_Plate_width {s : Tw.Env → M Out} {a0 : T} {μ : Store} {P : T → Store → Prop} {E : Exc → Store → Prop} (h : OkI (s [some a0] μ) (R.fnQ P E) fun _ _ => False) : OkI (I.fnD 1 s [a0] μ) P E := RI.fnD h
theorem ph_Plate_height (k : Nat) : Ph tab (k + 1) 4 = pureC (I.fnD 1 (b4 (Ph tab k))) := by rw [I.fnD_eq, Ph_succ]; rfl
theorem fd_Plate_height {s : Tw.Env → M Out} {a0 : T} {μ : Store} {P : T → Store → Prop} {E : Exc → Store → Prop} (h : OkI (s [some a0] μ) (R.fnQ P E) fun _ _ => False) : OkI (I.fnD 1 s [a0] μ) P E := RI.fnD h
theorem ph_Plate_most (k : Nat) : Ph tab (k + 1) 5 = pureC (I.fnD 1 (b5 (Ph tab k))) := by rw [I.fnD_eq, Ph_succ]; rfl
theorem fd_Plate_most {s : Tw.Env → M Out} {a0 : T} {μ : Store} {P : T → Store → Prop} {E : Exc → Store → Prop} (h : OkI (s [some a0] μ) (R.fnQ P E) fun _ _ => False) : OkI (I.fnD 1 s [a0] μ) P E := RI.fnD h
theorem ph_Plate_fall (k : Nat) : Ph tab (k + 1) 6 = pureC (I.fnD 1 (b6 (Ph tab k))) := by rw [I.fnD_eq, Ph_succ]; rfl
theorem fd_Plate_fall {s : Tw.Env → M Out} {a0 : T} {μ : Store} {P : T → Store → Prop} {E : Exc → Store → Prop} (h : OkI (s [some a0] μ) (R.fnQ P E) fun _ _ => False) : OkI (I.fnD 1 s [a0] μ) P E := RI.fnD h
theorem ph_Plate___len__ (k : Nat) : Ph tab (k + 1) 7 = pureC (I.fnD 1 (b7 (Ph tab k))) := by rw [I.fnD_eq, Ph_succ]; rfl
theorem fd_Plate___len__ {s : Tw.Env → M Out} {a0 : T} {μ : Store} {P : T → Store → Prop} {E : Exc → Store → Prop} (h : OkI (s [some a0] μ) (R.fnQ P E) fun _ _ => False) : OkI (I.fnD 1 s [a0] μ) P E := RI.fnD h
end
section
local macro_rules | `(tactic| decreasing_trivial_pre_omega) => `(tactic| first
  | (refine RI.idO ?_; first | refine RI.sNil ?_ | refine RI.sSeqG fun R hR => ?_ | refine RI.sSet ?_ | refine RI.sRet ?_ | refine RI.sRetN ?_ | refine RI.sExpr ?_ | refine RI.sIf ?_ | refine RI.sPass ?_ | refine RI.sBreak ?_ | refine RI.sCont ?_ | refine RI.sStore ?_ | refine RI.sPar ?_ | refine RI.sFor ?_ | refine RI.setA ?_ | refine RI.asg ?_ | refine RI.sFrzL rfl (by assumption) (by simp only [List.set_cons_succ, List.set_cons_zero]; exact rfl) ?_ | refine RI.goR (by assumption) ?_)
  | (refine RI.idT ?_; first | refine RI.cVar rfl ?_ | refine RI.cK ?_ | refine RI.c1 ?_ | refine RI.c2 ?_ | refine RI.cN ?_ | refine RI.cIf ?_ | refine RI.cAndT ?_ | refine RI.cOrT ?_ | refine RI.cNotT ?_ | refine RI.cChain ?_ | refine RI.cSlice ?_ | refine RI.cKw ?_ | refine RI.cLc ?_ | refine RI.cLc2 ?_ | refine RI.cRgL1 ?_ | refine RI.cRgL2 ?_ | refine RI.cMeth ?_ | refine RI.mAttrF rfl rfl rfl ?_ | refine RI.cCall ?_ | refine RI.gIxO (by assumption) rfl ?_ | refine RI.gIxT rfl ?_ | refine RI.gIxL rfl ?_ | refine RI.gIx0 ?_ | refine RI.gAddI ?_ | refine RI.gSub ?_ | refine RI.gLt ?_ | refine RI.gLe ?_ | refine RI.gGt ?_ | refine RI.gGe ?_ | refine RI.gNeg ?_ | refine RI.eqI0 ?_ | refine RI.eqI1 ?_ | refine RI.bLenT ?_ | refine RI.bLenL ?_ | refine RI.bLenS ?_ | refine RI.bInt ?_ | refine RI.bIntB ?_ | refine RI.bTupL ?_ | refine RI.bTupT ?_ | refine RI.bLstT ?_ | refine RI.bLstL ?_ | refine RI.mCutT ?_ | refine RI.mCutL ?_ | refine RI.isiTup ?_ | refine RI.isiInt ?_ | refine RI.isiIntB ?_ | refine RI.bLenO (by assumption) ?_ | refine RI.gMul (by first | exact R.mulR rfl | exact R.mulL rfl | exact R.mulB (by omega) (by omega)) ?_ | refine RI.gFdiv (by first | assumption | rfl | decide | omega) (by first | assumption | rfl | decide | omega) ?_ | refine RI.gMod (by first | assumption | rfl | decide | omega) ?_ | refine RI.gPow rfl ?_ | (refine RI.mTup ?_ ?_; (focus (simp [lim]; done))) | (refine RI.mLst ?_ ?_; (focus (simp [lim]; done))) | (refine RI.mNew ?_ ?_; (focus (simp [lim]; done))) | refine RI.min2 ?_ | refine RI.max2 ?_ | refine RI.isN0 ?_ | refine RI.isNI ?_ | refine RI.isNN0 ?_ | refine RI.isNNI ?_ | refine RI.mRevL ?_ | refine RI.cCall0 ?_ | refine RI.cRepL ?_ | refine RI.use (isnum _ _ _ _ _) ?_)
  | (refine RI.idL ?_; first | refine RI.aNil ?_ | refine RI.aCons ?_ | refine RI.aStar ?_ | refine RI.iSeq ?_ | refine RI.mItT ?_ | refine RI.mItL ?_ | refine RI.iRg1 ?_ | refine RI.iRg2 ?_ | refine RI.iEn ?_ | refine RI.mEnuT ?_ | refine RI.mEnuL ?_ | refine RI.iZp ?_ | refine RI.mZipT ?_ | refine RI.mZipL ?_ | refine RI.mSeqT ?_ | refine RI.mSeqL ?_ | refine RI.iRg3 ?_)
  | (refine RI.idB ?_; first | refine RI.cTest ?_ | refine RI.cTru ?_ | refine RI.cAnd ?_ | refine RI.cOr ?_ | refine RI.cNot ?_ | refine RI.cYes ?_ | refine RI.mTruB ?_ | refine RI.mTruI ?_ | refine RI.mTruT ?_ | refine RI.mTruL ?_ | refine RI.mTruN ?_)
  | refine RI.qnxS (by simp only [List.set_cons_succ, List.set_cons_zero]; exact rfl) ?_
  | refine RI.qnxP (by simp only [putE, List.set_cons_succ, List.set_cons_zero]; exact rfl) ?_
  | refine RI.qnx ?_
  | refine R.qrt ?_
  | refine R.qbk ?_
  | refine R.qct ?_
  | refine R.frt ?_
  | refine R.fnx ?_
  | refine R.brT ?_
  | refine R.brF ?_
  | refine R.brNT ?_
  | refine R.brNF ?_
  | refine RI.oNone ?_
  | refine RI.oSome ?_
  | refine RI.now ?_
  | refine R.isBl ?_
  | refine R.isInt ?_
  | refine R.isI1 ?_
  | refine R.isI2 ?_
  | refine R.len rfl ?_
  | refine R.chk (by first | assumption | exact tyOkL (by assumption) | decide +kernel | exact R.inRB (by omega) (by omega) | exact R.rgB (by omega) (by omega) (by omega) (by omega) | (simp only [List.length_map, List.length_cons, List.length_nil, List.length_replicate, rgT_length, rgI_length]; first | exact R.inRB (by omega) (by omega) | exact R.rgB (by omega) (by omega) (by omega) (by omega))) ?_
  | refine R.bnd rfl ?_
  | refine R.stA rfl ?_
  | refine R.brF2 ?_
  | refine R.brT2 ?_
  | refine R.brF3 ?_
  | refine R.brT3 ?_
  | refine R.br1 (by (try simp only [Bool.and_eq_true, Bool.or_eq_true, Bool.and_eq_false_iff, Bool.or_eq_false_iff, Bool.not_eq_false', Bool.not_eq_true', decide_eq_true_eq, decide_eq_false_iff_not, List.length_map, List.length_cons, List.length_nil, rgT_length]); omega) ?_
  | refine R.br0 (by (try simp only [Bool.and_eq_true, Bool.or_eq_true, Bool.and_eq_false_iff, Bool.or_eq_false_iff, Bool.not_eq_false', Bool.not_eq_true', decide_eq_true_eq, decide_eq_false_iff_not, List.length_map, List.length_cons, List.length_nil, rgT_length]); omega) ?_)
section
variable {k : Nat} {w h m : Int} {f : Option Int} {μ : Store} {P : T → Store → Prop} {E : Exc → Store → Prop}
theorem pl_width : Ph tab (k + 1) 3 [plT w h m f] μ = .ok (.int w) μ := by
  refine spec (ph_Plate_width k) (by simp only [cleans_cons, cleans_nil, clean_int, clean_bl, clean_non, clean_str, clean_tup, clean_lst, clean_ins, clean_oT, clean_pl, clean_row, cleans_ints, cleans_rows, cleans_oT, cleans_rg, Bool.and_true, Bool.true_and]) (clean_int _) ?_
  refine fd_Plate_width ?_
  unfold b3
  repeat decreasing_trivial_pre_omega
  rfl
theorem pl_height : Ph tab (k + 1) 4 [plT w h m f] μ = .ok (.int h) μ := by
  refine spec (ph_Plate_height k) (by simp only [cleans_cons, cleans_nil, clean_int, clean_bl, clean_non, clean_str, clean_tup, clean_lst, clean_ins, clean_oT, clean_pl, clean_row, cleans_ints, cleans_rows, cleans_oT, cleans_rg, Bool.and_true, Bool.true_and]) (clean_int _) ?_
  refine fd_Plate_height ?_
  unfold b4
  repeat decreasing_trivial_pre_omega
  rfl
theorem pl_most : Ph tab (k + 1) 5 [plT w h m f] μ = .ok (.int m) μ := by
  refine spec (ph_Plate_most k) (by simp only [cleans_cons, cleans_nil, clean_int, clean_bl, clean_non, clean_str, clean_tup, clean_lst, clean_ins, clean_oT, clean_pl, clean_row, cleans_ints, cleans_rows, cleans_oT, cleans_rg, Bool.and_true, Bool.true_and]) (clean_int _) ?_
  refine fd_Plate_most ?_
  unfold b5
  repeat decreasing_trivial_pre_omega
  rfl
theorem pl_fall : Ph tab (k + 1) 6 [plT w h m f] μ = .ok (oT f) μ := by
  refine spec (ph_Plate_fall k) (by simp only [cleans_cons, cleans_nil, clean_int, clean_bl, clean_non, clean_str, clean_tup, clean_lst, clean_ins, clean_oT, clean_pl, clean_row, cleans_ints, cleans_rows, cleans_oT, cleans_rg, Bool.and_true, Bool.true_and]) (clean_oT _) ?_
  refine fd_Plate_fall ?_
  unfold b6
  repeat decreasing_trivial_pre_omega
  rfl
theorem at_width (q : P (.int w) μ) : OkI (I.mAttr cs (Ph tab (k + 1)) "width" (plT w h m f) μ) P E := RI.mAttrFP rfl rfl (RI.use pl_width q)
theorem at_height (q : P (.int h) μ) : OkI (I.mAttr cs (Ph tab (k + 1)) "height" (plT w h m f) μ) P E := RI.mAttrFP rfl rfl (RI.use pl_height q)
theorem at_most (q : P (.int m) μ) : OkI (I.mAttr cs (Ph tab (k + 1)) "most" (plT w h m f) μ) P E := RI.mAttrFP rfl rfl (RI.use pl_most q)
theorem at_fall (q : P (oT f) μ) : OkI (I.mAttr cs (Ph tab (k + 1)) "fall" (plT w h m f) μ) P E := RI.mAttrFP rfl rfl (RI.use pl_fall q)
end
/-- what a plate is -/
structure PlOk (w h m : Int) (f : Option Int) : Prop where
  w1 : 1 ≤ w
  w4 : w ≤ 4
  h1 : 1 ≤ h
  h4 : h ≤ 4
  n9 : w * h ≤ 9
  n1 : 1 ≤ w * h
  m1 : 1 ≤ m
  m9 : m ≤ 9
  f1 : ∀ x, f = some x → 1 ≤ x ∧ x ≤ 9
end
section
local macro_rules | `(tactic| decreasing_trivial_pre_omega) => `(tactic| first
  | (refine RI.idO ?_; first | refine RI.sNil ?_ | refine RI.sSeqG fun R hR => ?_ | refine RI.sSet ?_ | refine RI.sRet ?_ | refine RI.sRetN ?_ | refine RI.sExpr ?_ | refine RI.sIf ?_ | refine RI.sPass ?_ | refine RI.sBreak ?_ | refine RI.sCont ?_ | refine RI.sStore ?_ | refine RI.sPar ?_ | refine RI.sFor ?_ | refine RI.setA ?_ | refine RI.asg ?_ | refine RI.sFrzL rfl (by assumption) (by simp only [List.set_cons_succ, List.set_cons_zero]; exact rfl) ?_ | refine RI.goR (by assumption) ?_)
  | (refine RI.idT ?_; first | refine RI.cVar rfl ?_ | refine RI.cK ?_ | refine RI.c1 ?_ | refine RI.c2 ?_ | refine RI.cN ?_ | refine RI.cIf ?_ | refine RI.cAndT ?_ | refine RI.cOrT ?_ | refine RI.cNotT ?_ | refine RI.cChain ?_ | refine RI.cSlice ?_ | refine RI.cKw ?_ | refine RI.cLc ?_ | refine RI.cLc2 ?_ | refine RI.cRgL1 ?_ | refine RI.cRgL2 ?_ | refine RI.cMeth ?_ | refine RI.mAttrF rfl rfl rfl ?_ | refine RI.cCall ?_ | refine RI.gIxO (by assumption) rfl ?_ | refine RI.gIxT rfl ?_ | refine RI.gIxL rfl ?_ | refine RI.gIx0 ?_ | refine RI.gAddI ?_ | refine RI.gSub ?_ | refine RI.gLt ?_ | refine RI.gLe ?_ | refine RI.gGt ?_ | refine RI.gGe ?_ | refine RI.gNeg ?_ | refine RI.eqI0 ?_ | refine RI.eqI1 ?_ | refine RI.bLenT ?_ | refine RI.bLenL ?_ | refine RI.bLenS ?_ | refine RI.bInt ?_ | refine RI.bIntB ?_ | refine RI.bTupL ?_ | refine RI.bTupT ?_ | refine RI.bLstT ?_ | refine RI.bLstL ?_ | refine RI.mCutT ?_ | refine RI.mCutL ?_ | refine RI.isiTup ?_ | refine RI.isiInt ?_ | refine RI.isiIntB ?_ | refine RI.bLenO (by assumption) ?_ | refine RI.gMul (by first | exact R.mulR rfl | exact R.mulL rfl | exact R.mulB (by omega) (by omega)) ?_ | refine RI.gFdiv (by first | assumption | rfl | decide | omega) (by first | assumption | rfl | decide | omega) ?_ | refine RI.gMod (by first | assumption | rfl | decide | omega) ?_ | refine RI.gPow rfl ?_ | (refine RI.mTup ?_ ?_; (focus (simp [lim]; done))) | (refine RI.mLst ?_ ?_; (focus (simp [lim]; done))) | (refine RI.mNew ?_ ?_; (focus (simp [lim]; done))) | refine RI.min2 ?_ | refine RI.max2 ?_ | refine RI.isN0 ?_ | refine RI.isNI ?_ | refine RI.isNN0 ?_ | refine RI.isNNI ?_ | refine RI.mRevL ?_ | refine RI.cCall0 ?_ | refine RI.cRepL ?_ | refine RI.use (isnum _ _ _ _ _) ?_ | refine at_width ?_ | refine at_height ?_ | refine at_most ?_ | refine at_fall ?_)
  | (refine RI.idL ?_; first | refine RI.aNil ?_ | refine RI.aCons ?_ | refine RI.aStar ?_ | refine RI.iSeq ?_ | refine RI.mItT ?_ | refine RI.mItL ?_ | refine RI.iRg1 ?_ | refine RI.iRg2 ?_ | refine RI.iEn ?_ | refine RI.mEnuT ?_ | refine RI.mEnuL ?_ | refine RI.iZp ?_ | refine RI.mZipT ?_ | refine RI.mZipL ?_ | refine RI.mSeqT ?_ | refine RI.mSeqL ?_ | refine RI.iRg3 ?_)
  | (refine RI.idB ?_; first | refine RI.cTest ?_ | refine RI.cTru ?_ | refine RI.cAnd ?_ | refine RI.cOr ?_ | refine RI.cNot ?_ | refine RI.cYes ?_ | refine RI.mTruB ?_ | refine RI.mTruI ?_ | refine RI.mTruT ?_ | refine RI.mTruL ?_ | refine RI.mTruN ?_)
  | refine RI.qnxS (by simp only [List.set_cons_succ, List.set_cons_zero]; exact rfl) ?_
  | refine RI.qnxP (by simp only [putE, List.set_cons_succ, List.set_cons_zero]; exact rfl) ?_
  | refine RI.qnx ?_
  | refine R.qrt ?_
  | refine R.qbk ?_
  | refine R.qct ?_
  | refine R.frt ?_
  | refine R.fnx ?_
  | refine R.brT ?_
  | refine R.brF ?_
  | refine R.brNT ?_
  | refine R.brNF ?_
  | refine RI.oNone ?_
  | refine RI.oSome ?_
  | refine RI.now ?_
  | refine R.isBl ?_
  | refine R.isInt ?_
  | refine R.isI1 ?_
  | refine R.isI2 ?_
  | refine R.len rfl ?_
  | refine R.chk (by first | assumption | exact tyOkL (by assumption) | decide +kernel | exact R.inRB (by omega) (by omega) | exact R.rgB (by omega) (by omega) (by omega) (by omega) | (simp only [List.length_map, List.length_cons, List.length_nil, List.length_replicate, rgT_length, rgI_length]; first | exact R.inRB (by omega) (by omega) | exact R.rgB (by omega) (by omega) (by omega) (by omega))) ?_
  | refine R.bnd rfl ?_
  | refine R.stA rfl ?_
  | refine R.brF2 ?_
  | refine R.brT2 ?_
  | refine R.brF3 ?_
  | refine R.brT3 ?_
  | refine R.br1 (by (try simp only [Bool.and_eq_true, Bool.or_eq_true, Bool.and_eq_false_iff, Bool.or_eq_false_iff, Bool.not_eq_false', Bool.not_eq_true', decide_eq_true_eq, decide_eq_false_iff_not, List.length_map, List.length_cons, List.length_nil, rgT_length]); omega) ?_
  | refine R.br0 (by (try simp only [Bool.and_eq_true, Bool.or_eq_true, Bool.and_eq_false_iff, Bool.or_eq_false_iff, Bool.not_eq_false', Bool.not_eq_true', decide_eq_true_eq, decide_eq_false_iff_not, List.length_map, List.length_cons, List.length_nil, rgT_length]); omega) ?_)
section
variable {k : Nat} {w h m : Int} {f : Option Int} {μ : Store} {P : T → Store → Prop} {E : Exc → Store → Prop}
theorem pl_len (p : PlOk w h m f) : Ph tab (k + 1) 7 [plT w h m f] μ = .ok (.int (w * h)) μ := by
  refine spec (ph_Plate___len__ k) (by simp only [cleans_cons, cleans_nil, clean_int, clean_bl, clean_non, clean_str, clean_tup, clean_lst, clean_ins, clean_oT, clean_pl, clean_row, cleans_ints, cleans_rows, cleans_oT, cleans_rg, Bool.and_true, Bool.true_and]) (clean_int _) ?_
  refine fd_Plate___len__ ?_
  unfold b7
  repeat decreasing_trivial_pre_omega
  refine RI.lenT ?_
  repeat decreasing_trivial_pre_omega
  rw [rgT_length]
  have := p.n1
  congr 1
  omega
theorem len_pl (p : PlOk w h m f) (q : P (.int (w * h)) μ) : OkI (I.bLenO cs (Ph tab (k + 1)) [plT w h m f] μ) P E := RI.lenF rfl rfl (pl_len p) (by have := p.n1; omega) (by have := p.n9; omega) q
end
theorem ph_are_depths (k : Nat) : Ph tab (k + 1) 9 = pureC (I.fnD 3 (b9 (Ph tab k))) := by rw [I.fnD_eq, Ph_succ]; rfl
theorem fd_are_depths {s : Tw.Env → M Out} {a0 a1 : T} {μ : Store} {P : T → Store → Prop} {E : Exc → Store → Prop} (h : OkI (s [some a0, some a1, none] μ) (R.fnQ P E) fun _ _ => False) : OkI (I.fnD 3 s [a0, a1] μ) P E := RI.fnD h
theorem ph_check_depths (k : Nat) : Ph tab (k + 1) 10 = pureC (I.fnD 2 (b10 (Ph tab k))) := by rw [I.fnD_eq, Ph_succ]; rfl
theorem fd_check_depths {s : Tw.Env → M Out} {a0 a1 : T} {μ : Store} {P : T → Store → Prop} {E : Exc → Store → Prop} (h : OkI (s [some a0, some a1] μ) (R.fnQ P E) fun _ _ => False) : OkI (I.fnD 2 s [a0, a1] μ) P E := RI.fnD h
end
section
local macro_rules | `(tactic| decreasing_trivial_pre_omega) => `(tactic| first
  | (refine RI.idO ?_; first | refine RI.sNil ?_ | refine RI.sSeqG fun R hR => ?_ | refine RI.sSet ?_ | refine RI.sRet ?_ | refine RI.sRetN ?_ | refine RI.sExpr ?_ | refine RI.sIf ?_ | refine RI.sPass ?_ | refine RI.sBreak ?_ | refine RI.sCont ?_ | refine RI.sStore ?_ | refine RI.sPar ?_ | refine RI.sFor ?_ | refine RI.setA ?_ | refine RI.asg ?_ | refine RI.sFrzL rfl (by assumption) (by simp only [List.set_cons_succ, List.set_cons_zero]; exact rfl) ?_ | refine RI.goR (by assumption) ?_)
  | (refine RI.idT ?_; first | refine RI.cVar rfl ?_ | refine RI.cK ?_ | refine RI.c1 ?_ | refine RI.c2 ?_ | refine RI.cN ?_ | refine RI.cIf ?_ | refine RI.cAndT ?_ | refine RI.cOrT ?_ | refine RI.cNotT ?_ | refine RI.cChain ?_ | refine RI.cSlice ?_ | refine RI.cKw ?_ | refine RI.cLc ?_ | refine RI.cLc2 ?_ | refine RI.cRgL1 ?_ | refine RI.cRgL2 ?_ | refine RI.cMeth ?_ | refine RI.mAttrF rfl rfl rfl ?_ | refine RI.cCall ?_ | refine RI.gIxO (by assumption) rfl ?_ | refine RI.gIxT rfl ?_ | refine RI.gIxL rfl ?_ | refine RI.gIx0 ?_ | refine RI.gAddI ?_ | refine RI.gSub ?_ | refine RI.gLt ?_ | refine RI.gLe ?_ | refine RI.gGt ?_ | refine RI.gGe ?_ | refine RI.gNeg ?_ | refine RI.eqI0 ?_ | refine RI.eqI1 ?_ | refine RI.bLenT ?_ | refine RI.bLenL ?_ | refine RI.bLenS ?_ | refine RI.bInt ?_ | refine RI.bIntB ?_ | refine RI.bTupL ?_ | refine RI.bTupT ?_ | refine RI.bLstT ?_ | refine RI.bLstL ?_ | refine RI.mCutT ?_ | refine RI.mCutL ?_ | refine RI.isiTup ?_ | refine RI.isiInt ?_ | refine RI.isiIntB ?_ | refine RI.bLenO (by assumption) ?_ | refine RI.gMul (by first | exact R.mulR rfl | exact R.mulL rfl | exact R.mulB (by omega) (by omega)) ?_ | refine RI.gFdiv (by first | assumption | rfl | decide | omega) (by first | assumption | rfl | decide | omega) ?_ | refine RI.gMod (by first | assumption | rfl | decide | omega) ?_ | refine RI.gPow rfl ?_ | (refine RI.mTup ?_ ?_; (focus (simp [lim]; done))) | (refine RI.mLst ?_ ?_; (focus (simp [lim]; done))) | (refine RI.mNew ?_ ?_; (focus (simp [lim]; done))) | refine RI.min2 ?_ | refine RI.max2 ?_ | refine RI.isN0 ?_ | refine RI.isNI ?_ | refine RI.isNN0 ?_ | refine RI.isNNI ?_ | refine RI.mRevL ?_ | refine RI.cCall0 ?_ | refine RI.cRepL ?_ | refine RI.use (isnum _ _ _ _ _) ?_ | refine at_width ?_ | refine at_height ?_ | refine at_most ?_ | refine at_fall ?_ | refine len_pl (by assumption) ?_ | refine RI.lenT ?_ | refine RI.lenL ?_ | refine RI.lenS ?_ | refine RI.lenO (by assumption) ?_)
  | (refine RI.idL ?_; first | refine RI.aNil ?_ | refine RI.aCons ?_ | refine RI.aStar ?_ | refine RI.iSeq ?_ | refine RI.mItT ?_ | refine RI.mItL ?_ | refine RI.iRg1 ?_ | refine RI.iRg2 ?_ | refine RI.iEn ?_ | refine RI.mEnuT ?_ | refine RI.mEnuL ?_ | refine RI.iZp ?_ | refine RI.mZipT ?_ | refine RI.mZipL ?_ | refine RI.mSeqT ?_ | refine RI.mSeqL ?_ | refine RI.iRg3 ?_)
  | (refine RI.idB ?_; first | refine RI.cTest ?_ | refine RI.cTru ?_ | refine RI.cAnd ?_ | refine RI.cOr ?_ | refine RI.cNot ?_ | refine RI.cYes ?_ | refine RI.mTruB ?_ | refine RI.mTruI ?_ | refine RI.mTruT ?_ | refine RI.mTruL ?_ | refine RI.mTruN ?_)
  | refine RI.qnxS (by simp only [List.set_cons_succ, List.set_cons_zero]; exact rfl) ?_
  | refine RI.qnxP (by simp only [putE, List.set_cons_succ, List.set_cons_zero]; exact rfl) ?_
  | refine RI.qnx ?_
  | refine R.qrt ?_
  | refine R.qbk ?_
  | refine R.qct ?_
  | refine R.frt ?_
  | refine R.fnx ?_
  | refine R.brT ?_
  | refine R.brF ?_
  | refine R.brNT ?_
  | refine R.brNF ?_
  | refine RI.oNone ?_
  | refine RI.oSome ?_
  | refine RI.now ?_
  | refine R.isBl ?_
  | refine R.isInt ?_
  | refine R.isI1 ?_
  | refine R.isI2 ?_
  | refine R.len rfl ?_
  | refine R.chk (by first | assumption | exact tyOkL (by assumption) | decide +kernel | exact R.inRB (by omega) (by omega) | exact R.rgB (by omega) (by omega) (by omega) (by omega) | (simp only [List.length_map, List.length_cons, List.length_nil, List.length_replicate, rgT_length, rgI_length]; first | exact R.inRB (by omega) (by omega) | exact R.rgB (by omega) (by omega) (by omega) (by omega))) ?_
  | refine R.bnd rfl ?_
  | refine R.stA rfl ?_
  | refine R.brF2 ?_
  | refine R.brT2 ?_
  | refine R.brF3 ?_
  | refine R.brT3 ?_
  | refine R.br1 (by (try simp only [Bool.and_eq_true, Bool.or_eq_true, Bool.and_eq_false_iff, Bool.or_eq_false_iff, Bool.not_eq_false', Bool.not_eq_true', decide_eq_true_eq, decide_eq_false_iff_not, List.length_map, List.length_cons, List.length_nil, rgT_length]); omega) ?_
  | refine R.br0 (by (try simp only [Bool.and_eq_true, Bool.or_eq_true, Bool.and_eq_false_iff, Bool.or_eq_false_iff, Bool.not_eq_false', Bool.not_eq_true', decide_eq_true_eq, decide_eq_false_iff_not, List.length_map, List.length_cons, List.length_nil, rgT_length]); omega) ?_)
/-- depths of a plate -/
structure DpOk (w h m : Int) (ds : List Int) : Prop where
  len : (ds.length : Int) = w * h
  rng : ∀ d ∈ ds, 0 ≤ d ∧ d ≤ m
section
variable {k : Nat} {w h m : Int} {f : Option Int} {μ : Store} {ds : List Int}
theorem are_depths (p : PlOk w h m f) (hd : DpOk w h m ds) : Ph tab (k + 2) 9 [plT w h m f, rowT ds] μ = .ok (.bl true) μ := by
  refine spec (ph_are_depths (k + 1)) (by simp only [cleans_cons, cleans_nil, clean_int, clean_bl, clean_non, clean_str, clean_tup, clean_lst, clean_ins, clean_oT, clean_pl, clean_row, cleans_ints, cleans_rows, cleans_oT, cleans_rg, Bool.and_true, Bool.true_and]) (clean_bl _) ?_
  refine fd_are_depths ?_
  unfold b9
  have hl := hd.len
  have h9 := p.n9
  repeat decreasing_trivial_pre_omega
  refine RI.lcM (enc := T.int) (fun _ => .bl true) (fun d hd' => ?_) ?_ ?_
  · have := hd.rng d hd'
    refine RI.lcTN rfl (by first | (simp only [wipeE, putE, List.set_cons_succ, List.set_cons_zero]; exact rfl) | rfl) ?_
    repeat decreasing_trivial_pre_omega
    simp [this.1, this.2]
  · show _ ≤ 16777216; omega
  · repeat decreasing_trivial_pre_omega
    refine RI.allT ?_
    repeat decreasing_trivial_pre_omega
    rfl
theorem check_depths (p : PlOk w h m f) (hd : DpOk w h m ds) : Ph tab (k + 3) 10 [plT w h m f, rowT ds] μ = .ok .non μ := by
  refine spec (ph_check_depths (k + 2)) (by simp only [cleans_cons, cleans_nil, clean_int, clean_bl, clean_non, clean_str, clean_tup, clean_lst, clean_ins, clean_oT, clean_pl, clean_row, cleans_ints, cleans_rows, cleans_oT, cleans_rg, Bool.and_true, Bool.true_and]) clean_non ?_
  refine fd_check_depths ?_
  unfold b10
  repeat decreasing_trivial_pre_omega
  refine RI.use (are_depths p hd) ?_
  repeat decreasing_trivial_pre_omega
  rfl
end
theorem ph_Plate___init__ (k : Nat) : Ph tab (k + 1) 2 = pureC (I.fnD 5 (b2 (Ph tab k))) := by rw [I.fnD_eq, Ph_succ]; rfl
theorem fd_Plate___init__ {s : Tw.Env → M Out} {a0 a1 a2 a3 a4 : T} {μ : Store} {P : T → Store → Prop} {E : Exc → Store → Prop} (h : OkI (s [some a0, some a1, some a2, some a3, some a4] μ) (R.fnQ P E) fun _ _ => False) : OkI (I.fnD 5 s [a0, a1, a2, a3, a4] μ) P E := RI.fnD h
end
section
local macro_rules | `(tactic| decreasing_trivial_pre_omega) => `(tactic| first
  | (refine RI.idO ?_; first | refine RI.sNil ?_ | refine RI.sSeqG fun R hR => ?_ | refine RI.sSet ?_ | refine RI.sRet ?_ | refine RI.sRetN ?_ | refine RI.sExpr ?_ | refine RI.sIf ?_ | refine RI.sPass ?_ | refine RI.sBreak ?_ | refine RI.sCont ?_ | refine RI.sStore ?_ | refine RI.sPar ?_ | refine RI.sFor ?_ | refine RI.setA ?_ | refine RI.asg ?_ | refine RI.sFrzL rfl (by assumption) (by simp only [List.set_cons_succ, List.set_cons_zero]; exact rfl) ?_ | refine RI.goR (by assumption) ?_)
  | (refine RI.idT ?_; first | refine RI.cVar rfl ?_ | refine RI.cK ?_ | refine RI.c1 ?_ | refine RI.c2 ?_ | refine RI.cN ?_ | refine RI.cIf ?_ | refine RI.cAndT ?_ | refine RI.cOrT ?_ | refine RI.cNotT ?_ | refine RI.cChain ?_ | refine RI.cSlice ?_ | refine RI.cKw ?_ | refine RI.cLc ?_ | refine RI.cLc2 ?_ | refine RI.cRgL1 ?_ | refine RI.cRgL2 ?_ | refine RI.cMeth ?_ | refine RI.mAttrF rfl rfl rfl ?_ | refine RI.cCall ?_ | refine RI.gIxO (by assumption) rfl ?_ | refine RI.gIxT rfl ?_ | refine RI.gIxL rfl ?_ | refine RI.gIx0 ?_ | refine RI.gAddI ?_ | refine RI.gSub ?_ | refine RI.gLt ?_ | refine RI.gLe ?_ | refine RI.gGt ?_ | refine RI.gGe ?_ | refine RI.gNeg ?_ | refine RI.eqI0 ?_ | refine RI.eqI1 ?_ | refine RI.bLenT ?_ | refine RI.bLenL ?_ | refine RI.bLenS ?_ | refine RI.bInt ?_ | refine RI.bIntB ?_ | refine RI.bTupL ?_ | refine RI.bTupT ?_ | refine RI.bLstT ?_ | refine RI.bLstL ?_ | refine RI.mCutT ?_ | refine RI.mCutL ?_ | refine RI.isiTup ?_ | refine RI.isiInt ?_ | refine RI.isiIntB ?_ | refine RI.bLenO (by assumption) ?_ | refine RI.gMul (by first | exact R.mulR rfl | exact R.mulL rfl | exact R.mulB (by omega) (by omega)) ?_ | refine RI.gFdiv (by first | assumption | rfl | decide | omega) (by first | assumption | rfl | decide | omega) ?_ | refine RI.gMod (by first | assumption | rfl | decide | omega) ?_ | refine RI.gPow rfl ?_ | (refine RI.mTup ?_ ?_; (focus (simp [lim]; done))) | (refine RI.mLst ?_ ?_; (focus (simp [lim]; done))) | (refine RI.mNew ?_ ?_; (focus (simp [lim]; done))) | refine RI.min2 ?_ | refine RI.max2 ?_ | refine RI.isN0 ?_ | refine RI.isNI ?_ | refine RI.isNN0 ?_ | refine RI.isNNI ?_ | refine RI.mRevL ?_ | refine RI.cCall0 ?_ | refine RI.cRepL ?_ | refine RI.use (isnum _ _ _ _ _) ?_ | refine at_width ?_ | refine at_height ?_ | refine at_most ?_ | refine at_fall ?_ | refine len_pl (by assumption) ?_ | refine RI.lenT ?_ | refine RI.lenL ?_ | refine RI.lenS ?_ | refine RI.lenO (by assumption) ?_ | refine RI.use (check_depths (by assumption) (by assumption)) ?_ | refine RI.use (are_depths (by assumption) (by assumption)) ?_)
  | (refine RI.idL ?_; first | refine RI.aNil ?_ | refine RI.aCons ?_ | refine RI.aStar ?_ | refine RI.iSeq ?_ | refine RI.mItT ?_ | refine RI.mItL ?_ | refine RI.iRg1 ?_ | refine RI.iRg2 ?_ | refine RI.iEn ?_ | refine RI.mEnuT ?_ | refine RI.mEnuL ?_ | refine RI.iZp ?_ | refine RI.mZipT ?_ | refine RI.mZipL ?_ | refine RI.mSeqT ?_ | refine RI.mSeqL ?_ | refine RI.iRg3 ?_)
  | (refine RI.idB ?_; first | refine RI.cTest ?_ | refine RI.cTru ?_ | refine RI.cAnd ?_ | refine RI.cOr ?_ | refine RI.cNot ?_ | refine RI.cYes ?_ | refine RI.mTruB ?_ | refine RI.mTruI ?_ | refine RI.mTruT ?_ | refine RI.mTruL ?_ | refine RI.mTruN ?_)
  | refine RI.qnxS (by simp only [List.set_cons_succ, List.set_cons_zero]; exact rfl) ?_
  | refine RI.qnxP (by simp only [putE, List.set_cons_succ, List.set_cons_zero]; exact rfl) ?_
  | refine RI.qnx ?_
  | refine R.qrt ?_
  | refine R.qbk ?_
  | refine R.qct ?_
  | refine R.frt ?_
  | refine R.fnx ?_
  | refine R.brT ?_
  | refine R.brF ?_
  | refine R.brNT ?_
  | refine R.brNF ?_
  | refine RI.oNone ?_
  | refine RI.oSome ?_
  | refine RI.now ?_
  | refine R.isBl ?_
  | refine R.isInt ?_
  | refine R.isI1 ?_
  | refine R.isI2 ?_
  | refine R.len rfl ?_
  | refine R.chk (by first | assumption | exact tyOkL (by assumption) | decide +kernel | exact R.inRB (by omega) (by omega) | exact R.rgB (by omega) (by omega) (by omega) (by omega) | (simp only [List.length_map, List.length_cons, List.length_nil, List.length_replicate, rgT_length, rgI_length]; first | exact R.inRB (by omega) (by omega) | exact R.rgB (by omega) (by omega) (by omega) (by omega))) ?_
  | refine R.bnd rfl ?_
  | refine R.stA rfl ?_
  | refine R.brF2 ?_
  | refine R.brT2 ?_
  | refine R.brF3 ?_
  | refine R.brT3 ?_
  | refine R.br1 (by (try simp only [Bool.and_eq_true, Bool.or_eq_true, Bool.and_eq_false_iff, Bool.or_eq_false_iff, Bool.not_eq_false', Bool.not_eq_true', decide_eq_true_eq, decide_eq_false_iff_not, List.length_map, List.length_cons, List.length_nil, rgT_length]); omega) ?_
  | refine R.br0 (by (try simp only [Bool.and_eq_true, Bool.or_eq_true, Bool.and_eq_false_iff, Bool.or_eq_false_iff, Bool.not_eq_false', Bool.not_eq_true', decide_eq_true_eq, decide_eq_false_iff_not, List.length_map, List.length_cons, List.length_nil, rgT_length]); omega) ?_)
section
variable {k : Nat} {w h m : Int} {f : Option Int} {μ : Store} {P : T → Store → Prop} {E : Exc → Store → Prop}
theorem pl_init (p : PlOk w h m f) : OkI (Ph tab (k + 2) 2 [.obj 1, .int w, .int h, .int m, oT f] [some (.aux 1), some (.ins 0 [] [])]) (fun t μ' => t = .non ∧ μ' = [some (.aux 1), some (.sl 0 [.tup [.int w, .int h, .int m, oT f], .tup (rgT 0 (w * h))])]) fun _ _ => False := by
  obtain ⟨h1, h2, h3, h4, h5, h6, h7, h8, h9⟩ := p
  refine stat (ph_Plate___init__ (k + 1)) (by simp only [cleans_cons, clean_obj, Bool.false_and, Bool.and_false]) ?_
  refine fd_Plate___init__ ?_
  unfold b2
  cases f with
  | none =>
    repeat decreasing_trivial_pre_omega
    exact ⟨rfl, rfl⟩
  | some x =>
    obtain ⟨h10, h11⟩ := h9 x rfl
    repeat decreasing_trivial_pre_omega
    exact ⟨rfl, rfl⟩
theorem pl_mk (p : PlOk w h m f) (q : P (plT w h m f) μ) : OkI (pureC (I.mMake cs (Ph tab (k + 2)) 0) [.int w, .int h, .int m, oT f] μ) P E := by
  have e := eq_of_okI (pl_init (k := k) p)
  refine RI.pure (by simp only [cleans_cons, cleans_nil, clean_int, clean_bl, clean_non, clean_str, clean_tup, clean_lst, clean_ins, clean_oT, clean_pl, clean_row, cleans_ints, cleans_rows, cleans_oT, cleans_rg, Bool.and_true, Bool.true_and]) (clean_pl w h m f) (μ1 := [none, none]) ?_ q
  rw [I.mMake_eq]
  unfold _root_.Tw.mMake
  show mIni (Ph tab (k + 2)) true 0 2 [.int w, .int h, .int m, oT f] [] = _
  unfold mIni
  have e2 : Ph tab (k + 2) 2 (.obj (([] : Store).length + 1) :: [.int w, .int h, .int m, oT f]) ([] ++ [some (.aux (([] : Store).length + 1))] ++ [some (.ins 0 [] [])]) = .ok .non [some (.aux 1), some (.sl 0 [.tup [.int w, .int h, .int m, oT f], .tup (rgT 0 (w * h))])] := e
  rw [e2]
  rfl
end

/-- the row of the script -/
def Row (ns : List Int) (n : Nat) (μ : Store) : Prop := ∃ a b c : Int, μ[n]? = some (some (.lst [.scr (ns.map T.int), .int a, .int b, .int c])) ∧ 0 ≤ a
theorem ph__law_taken (k : Nat) : Ph tab (k + 1) 21 = pureC (I.fnD 4 (b21 (Ph tab k))) := by rw [I.fnD_eq, Ph_succ]; rfl
theorem fd__law_taken {s : Tw.Env → M Out} {a0 a1 : T} {μ : Store} {P : T → Store → Prop} {E : Exc → Store → Prop} (h : OkI (s [some a0, some a1, none, none] μ) (R.fnQ P E) fun _ _ => False) : OkI (I.fnD 4 s [a0, a1] μ) P E := RI.fnD h
end
section
local macro_rules | `(tactic| decreasing_trivial_pre_omega) => `(tactic| first
  | (refine RI.idO ?_; first | refine RI.sNil ?_ | refine RI.sSeqG fun R hR => ?_ | refine RI.sSet ?_ | refine RI.sRet ?_ | refine RI.sRetN ?_ | refine RI.sExpr ?_ | refine RI.sIf ?_ | refine RI.sPass ?_ | refine RI.sBreak ?_ | refine RI.sCont ?_ | refine RI.sStore ?_ | refine RI.sPar ?_ | refine RI.sFor ?_ | refine RI.setA ?_ | refine RI.asg ?_ | refine RI.sFrzL rfl (by assumption) (by simp only [List.set_cons_succ, List.set_cons_zero]; exact rfl) ?_ | refine RI.goR (by assumption) ?_)
  | (refine RI.idT ?_; first | refine RI.cVar rfl ?_ | refine RI.cK ?_ | refine RI.c1 ?_ | refine RI.c2 ?_ | refine RI.cN ?_ | refine RI.cIf ?_ | refine RI.cAndT ?_ | refine RI.cOrT ?_ | refine RI.cNotT ?_ | refine RI.cChain ?_ | refine RI.cSlice ?_ | refine RI.cKw ?_ | refine RI.cLc ?_ | refine RI.cLc2 ?_ | refine RI.cRgL1 ?_ | refine RI.cRgL2 ?_ | refine RI.cMeth ?_ | refine RI.mAttrF rfl rfl rfl ?_ | refine RI.cCall ?_ | refine RI.gIxO (by assumption) rfl ?_ | refine RI.gIxT rfl ?_ | refine RI.gIxL rfl ?_ | refine RI.gIx0 ?_ | refine RI.gAddI ?_ | refine RI.gSub ?_ | refine RI.gLt ?_ | refine RI.gLe ?_ | refine RI.gGt ?_ | refine RI.gGe ?_ | refine RI.gNeg ?_ | refine RI.eqI0 ?_ | refine RI.eqI1 ?_ | refine RI.bLenT ?_ | refine RI.bLenL ?_ | refine RI.bLenS ?_ | refine RI.bInt ?_ | refine RI.bIntB ?_ | refine RI.bTupL ?_ | refine RI.bTupT ?_ | refine RI.bLstT ?_ | refine RI.bLstL ?_ | refine RI.mCutT ?_ | refine RI.mCutL ?_ | refine RI.isiTup ?_ | refine RI.isiInt ?_ | refine RI.isiIntB ?_ | refine RI.bLenO (by assumption) ?_ | refine RI.gMul (by first | exact R.mulR rfl | exact R.mulL rfl | exact R.mulB (by omega) (by omega)) ?_ | refine RI.gFdiv (by first | assumption | rfl | decide | omega) (by first | assumption | rfl | decide | omega) ?_ | refine RI.gMod (by first | assumption | rfl | decide | omega) ?_ | refine RI.gPow rfl ?_ | (refine RI.mTup ?_ ?_; (focus (simp [lim]; done))) | (refine RI.mLst ?_ ?_; (focus (simp [lim]; done))) | (refine RI.mNew ?_ ?_; (focus (simp [lim]; done))) | refine RI.min2 ?_ | refine RI.max2 ?_ | refine RI.isN0 ?_ | refine RI.isNI ?_ | refine RI.isNN0 ?_ | refine RI.isNNI ?_ | refine RI.mRevL ?_ | refine RI.cCall0 ?_ | refine RI.cRepL ?_ | refine RI.use (isnum _ _ _ _ _) ?_ | refine at_width ?_ | refine at_height ?_ | refine at_most ?_ | refine at_fall ?_ | refine len_pl (by assumption) ?_ | refine RI.lenT ?_ | refine RI.lenL ?_ | refine RI.lenS ?_ | refine RI.lenO (by assumption) ?_ | refine RI.use (check_depths (by assumption) (by assumption)) ?_ | refine RI.use (are_depths (by assumption) (by assumption)) ?_ | refine pl_mk (by assumption) ?_)
  | (refine RI.idL ?_; first | refine RI.aNil ?_ | refine RI.aCons ?_ | refine RI.aStar ?_ | refine RI.iSeq ?_ | refine RI.mItT ?_ | refine RI.mItL ?_ | refine RI.iRg1 ?_ | refine RI.iRg2 ?_ | refine RI.iEn ?_ | refine RI.mEnuT ?_ | refine RI.mEnuL ?_ | refine RI.iZp ?_ | refine RI.mZipT ?_ | refine RI.mZipL ?_ | refine RI.mSeqT ?_ | refine RI.mSeqL ?_ | refine RI.iRg3 ?_)
  | (refine RI.idB ?_; first | refine RI.cTest ?_ | refine RI.cTru ?_ | refine RI.cAnd ?_ | refine RI.cOr ?_ | refine RI.cNot ?_ | refine RI.cYes ?_ | refine RI.mTruB ?_ | refine RI.mTruI ?_ | refine RI.mTruT ?_ | refine RI.mTruL ?_ | refine RI.mTruN ?_)
  | refine RI.qnxS (by simp only [List.set_cons_succ, List.set_cons_zero]; exact rfl) ?_
  | refine RI.qnxP (by simp only [putE, List.set_cons_succ, List.set_cons_zero]; exact rfl) ?_
  | refine RI.qnx ?_
  | refine R.qrt ?_
  | refine R.qbk ?_
  | refine R.qct ?_
  | refine R.frt ?_
  | refine R.fnx ?_
  | refine R.brT ?_
  | refine R.brF ?_
  | refine R.brNT ?_
  | refine R.brNF ?_
  | refine RI.oNone ?_
  | refine RI.oSome ?_
  | refine RI.now ?_
  | refine R.isBl ?_
  | refine R.isInt ?_
  | refine R.isI1 ?_
  | refine R.isI2 ?_
  | refine R.len rfl ?_
  | refine R.chk (by first | assumption | exact tyOkL (by assumption) | decide +kernel | exact R.inRB (by omega) (by omega) | exact R.rgB (by omega) (by omega) (by omega) (by omega) | (simp only [List.length_map, List.length_cons, List.length_nil, List.length_replicate, rgT_length, rgI_length]; first | exact R.inRB (by omega) (by omega) | exact R.rgB (by omega) (by omega) (by omega) (by omega))) ?_
  | refine R.bnd rfl ?_
  | refine R.stA rfl ?_
  | refine R.brF2 ?_
  | refine R.brT2 ?_
  | refine R.brF3 ?_
  | refine R.brT3 ?_
  | refine R.br1 (by (try simp only [Bool.and_eq_true, Bool.or_eq_true, Bool.and_eq_false_iff, Bool.or_eq_false_iff, Bool.not_eq_false', Bool.not_eq_true', decide_eq_true_eq, decide_eq_false_iff_not, List.length_map, List.length_cons, List.length_nil, rgT_length]); omega) ?_
  | refine R.br0 (by (try simp only [Bool.and_eq_true, Bool.or_eq_true, Bool.and_eq_false_iff, Bool.or_eq_false_iff, Bool.not_eq_false', Bool.not_eq_true', decide_eq_true_eq, decide_eq_false_iff_not, List.length_map, List.length_cons, List.length_nil, rgT_length]); omega) ?_)
theorem taken (k : Nat) {ns : List Int} {n : Nat} {μ : Store} {m : Int} (h : Row ns n μ) (h0 : 0 < m) (h1 : m < 1073741824) :
    OkI (Ph tab (k + 1) 21 [.obj n, .int m] μ) (fun t μ' => ∃ r, t = .int r ∧ 0 ≤ r ∧ r < m ∧ Row ns n μ' ∧ Oth n μ μ') (fun _ _ => False) := by
  obtain ⟨a, b, c, hm, ha⟩ := h
  have hl : n < μ.length := (List.getElem?_eq_some_iff.mp hm).1
  refine stat (ph__law_taken k) (by simp only [cleans_cons, clean_obj, Bool.false_and, Bool.and_false]) ?_
  refine fd__law_taken ?_
  unfold b21
  repeat decreasing_trivial_pre_omega
  refine ⟨fun hc => ?_, fun hc => ?_⟩
  · repeat decreasing_trivial_pre_omega
    refine RI.mPutL hm rfl fun μ1 e1 hm1 => ?_
    repeat decreasing_trivial_pre_omega
    exact ⟨_, rfl, Int.emod_nonneg _ (by omega), Int.emod_lt_of_pos _ h0, ⟨_, _, _, hm1, ha⟩, by rw [e1]; exact Oth.set⟩
  · repeat decreasing_trivial_pre_omega
    refine RI.mPutL hm rfl fun μ1 e1 hm1 => ?_
    repeat decreasing_trivial_pre_omega
    refine ⟨fun hc => ?_, fun hc => ?_⟩
    · repeat decreasing_trivial_pre_omega
      refine RI.mPutL hm1 rfl fun μ2 e2 hm2 => ?_
      repeat decreasing_trivial_pre_omega
      refine ⟨_, rfl, Int.emod_nonneg _ (by omega), Int.emod_lt_of_pos _ h0, ⟨_, _, _, hm2, by omega⟩, by rw [e2, e1, List.set_set]; exact Oth.set⟩
    · have hc' := of_decide_eq_false hc
      repeat decreasing_trivial_pre_omega
      rw [List.length_map] at hc'
      obtain ⟨t, ht, ht2⟩ := R.atI_lt (ts := ns.map T.int) (i := a + 1 - 1) (by omega) (by rw [List.length_map]; omega)
      obtain ⟨v, rfl⟩ : ∃ v, t = .int v := by
        rw [List.getElem?_map] at ht2
        obtain ⟨v, _, e⟩ := Option.map_eq_some_iff.mp ht2
        exact ⟨v, e.symm⟩
      refine RI.gIxS ht ?_
      repeat decreasing_trivial_pre_omega
      refine RI.mPutL hm1 rfl fun μ2 e2 hm2 => ?_
      repeat decreasing_trivial_pre_omega
      refine ⟨fun hd => ?_, fun hd => ?_⟩
      · repeat decreasing_trivial_pre_omega
        refine RI.mPutL hm2 rfl fun μ3 e3 hm3 => ?_
        repeat decreasing_trivial_pre_omega
        refine ⟨_, rfl, Int.emod_nonneg _ (by omega), Int.emod_lt_of_pos _ h0, ⟨_, _, _, hm3, by omega⟩, by rw [e3, e2, e1, List.set_set, List.set_set]; exact Oth.set⟩
      · repeat decreasing_trivial_pre_omega
        refine ⟨_, rfl, Int.emod_nonneg _ (by omega), Int.emod_lt_of_pos _ h0, ⟨_, _, _, hm2, by omega⟩, by rw [e2, e1, List.set_set]; exact Oth.set⟩

theorem ph_check_tones (k : Nat) : Ph tab (k + 1) 12 = pureC (I.fnD 4 (b12 (Ph tab k))) := by rw [I.fnD_eq, Ph_succ]; rfl
theorem fd_check_tones {s : Tw.Env → M Out} {a0 a1 : T} {μ : Store} {P : T → Store → Prop} {E : Exc → Store → Prop} (h : OkI (s [some a0, some a1, none, none] μ) (R.fnQ P E) fun _ _ => False) : OkI (I.fnD 4 s [a0, a1] μ) P E := RI.fnD h
theorem ph_are_seen (k : Nat) : Ph tab (k + 1) 13 = pureC (I.fnD 4 (b13 (Ph tab k))) := by rw [I.fnD_eq, Ph_succ]; rfl
theorem fd_are_seen {s : Tw.Env → M Out} {a0 a1 : T} {μ : Store} {P : T → Store → Prop} {E : Exc → Store → Prop} (h : OkI (s [some a0, some a1, none, none] μ) (R.fnQ P E) fun _ _ => False) : OkI (I.fnD 4 s [a0, a1] μ) P E := RI.fnD h
end
section
local macro_rules | `(tactic| decreasing_trivial_pre_omega) => `(tactic| first
  | (refine RI.idO ?_; first | refine RI.sNil ?_ | refine RI.sSeqG fun R hR => ?_ | refine RI.sSet ?_ | refine RI.sRet ?_ | refine RI.sRetN ?_ | refine RI.sExpr ?_ | refine RI.sIf ?_ | refine RI.sPass ?_ | refine RI.sBreak ?_ | refine RI.sCont ?_ | refine RI.sStore ?_ | refine RI.sPar ?_ | refine RI.sFor ?_ | refine RI.setA ?_ | refine RI.asg ?_ | refine RI.sFrzL rfl (by assumption) (by simp only [List.set_cons_succ, List.set_cons_zero]; exact rfl) ?_ | refine RI.goR (by assumption) ?_)
  | (refine RI.idT ?_; first | refine RI.cVar rfl ?_ | refine RI.cK ?_ | refine RI.c1 ?_ | refine RI.c2 ?_ | refine RI.cN ?_ | refine RI.cIf ?_ | refine RI.cAndT ?_ | refine RI.cOrT ?_ | refine RI.cNotT ?_ | refine RI.cChain ?_ | refine RI.cSlice ?_ | refine RI.cKw ?_ | refine RI.cLc ?_ | refine RI.cLc2 ?_ | refine RI.cRgL1 ?_ | refine RI.cRgL2 ?_ | refine RI.cMeth ?_ | refine RI.mAttrF rfl rfl rfl ?_ | refine RI.cCall ?_ | refine RI.gIxO (by assumption) rfl ?_ | refine RI.gIxT rfl ?_ | refine RI.gIxL rfl ?_ | refine RI.gIx0 ?_ | refine RI.gAddI ?_ | refine RI.gSub ?_ | refine RI.gLt ?_ | refine RI.gLe ?_ | refine RI.gGt ?_ | refine RI.gGe ?_ | refine RI.gNeg ?_ | refine RI.eqI0 ?_ | refine RI.eqI1 ?_ | refine RI.bLenT ?_ | refine RI.bLenL ?_ | refine RI.bLenS ?_ | refine RI.bInt ?_ | refine RI.bIntB ?_ | refine RI.bTupL ?_ | refine RI.bTupT ?_ | refine RI.bLstT ?_ | refine RI.bLstL ?_ | refine RI.mCutT ?_ | refine RI.mCutL ?_ | refine RI.isiTup ?_ | refine RI.isiInt ?_ | refine RI.isiIntB ?_ | refine RI.bLenO (by assumption) ?_ | refine RI.gMul (by first | exact R.mulR rfl | exact R.mulL rfl | exact R.mulB (by omega) (by omega)) ?_ | refine RI.gFdiv (by first | assumption | rfl | decide | omega) (by first | assumption | rfl | decide | omega) ?_ | refine RI.gMod (by first | assumption | rfl | decide | omega) ?_ | refine RI.gPow rfl ?_ | (refine RI.mTup ?_ ?_; (focus (simp [lim]; done))) | (refine RI.mLst ?_ ?_; (focus (simp [lim]; done))) | (refine RI.mNew ?_ ?_; (focus (simp [lim]; done))) | refine RI.min2 ?_ | refine RI.max2 ?_ | refine RI.isN0 ?_ | refine RI.isNI ?_ | refine RI.isNN0 ?_ | refine RI.isNNI ?_ | refine RI.mRevL ?_ | refine RI.cCall0 ?_ | refine RI.cRepL ?_ | refine RI.use (isnum _ _ _ _ _) ?_ | refine at_width ?_ | refine at_height ?_ | refine at_most ?_ | refine at_fall ?_ | refine len_pl (by assumption) ?_ | refine RI.lenT ?_ | refine RI.lenL ?_ | refine RI.lenS ?_ | refine RI.lenO (by assumption) ?_ | refine RI.use (check_depths (by assumption) (by assumption)) ?_ | refine RI.use (are_depths (by assumption) (by assumption)) ?_ | refine pl_mk (by assumption) ?_)
  | (refine RI.idL ?_; first | refine RI.aNil ?_ | refine RI.aCons ?_ | refine RI.aStar ?_ | refine RI.iSeq ?_ | refine RI.mItT ?_ | refine RI.mItL ?_ | refine RI.iRg1 ?_ | refine RI.iRg2 ?_ | refine RI.iEn ?_ | refine RI.mEnuT ?_ | refine RI.mEnuL ?_ | refine RI.iZp ?_ | refine RI.mZipT ?_ | refine RI.mZipL ?_ | refine RI.mSeqT ?_ | refine RI.mSeqL ?_ | refine RI.iRg3 ?_)
  | (refine RI.idB ?_; first | refine RI.cTest ?_ | refine RI.cTru ?_ | refine RI.cAnd ?_ | refine RI.cOr ?_ | refine RI.cNot ?_ | refine RI.cYes ?_ | refine RI.mTruB ?_ | refine RI.mTruI ?_ | refine RI.mTruT ?_ | refine RI.mTruL ?_ | refine RI.mTruN ?_)
  | refine RI.qnxS (by simp only [List.set_cons_succ, List.set_cons_zero]; exact rfl) ?_
  | refine RI.qnxP (by simp only [putE, List.set_cons_succ, List.set_cons_zero]; exact rfl) ?_
  | refine RI.qnx ?_
  | refine R.qrt ?_
  | refine R.qbk ?_
  | refine R.qct ?_
  | refine R.frt ?_
  | refine R.fnx ?_
  | refine R.brT ?_
  | refine R.brF ?_
  | refine R.brNT ?_
  | refine R.brNF ?_
  | refine RI.oNone ?_
  | refine RI.oSome ?_
  | refine RI.now ?_
  | refine R.isBl ?_
  | refine R.isInt ?_
  | refine R.isI1 ?_
  | refine R.isI2 ?_
  | refine R.len rfl ?_
  | refine R.chk (by first | assumption | exact tyOkL (by assumption) | decide +kernel | exact R.inRB (by omega) (by omega) | exact R.rgB (by omega) (by omega) (by omega) (by omega) | (simp only [List.length_map, List.length_cons, List.length_nil, List.length_replicate, rgT_length, rgI_length]; first | exact R.inRB (by omega) (by omega) | exact R.rgB (by omega) (by omega) (by omega) (by omega))) ?_
  | refine R.bnd rfl ?_
  | refine R.stA rfl ?_
  | refine R.brF2 ?_
  | refine R.brT2 ?_
  | refine R.brF3 ?_
  | refine R.brT3 ?_
  | refine R.br1 (by (try simp only [Bool.and_eq_true, Bool.or_eq_true, Bool.and_eq_false_iff, Bool.or_eq_false_iff, Bool.not_eq_false', Bool.not_eq_true', decide_eq_true_eq, decide_eq_false_iff_not, List.length_map, List.length_cons, List.length_nil, rgT_length]); omega) ?_
  | refine R.br0 (by (try simp only [Bool.and_eq_true, Bool.or_eq_true, Bool.and_eq_false_iff, Bool.or_eq_false_iff, Bool.not_eq_false', Bool.not_eq_true', decide_eq_true_eq, decide_eq_false_iff_not, List.length_map, List.length_cons, List.length_nil, rgT_length]); omega) ?_)
/-- tones, seen or not -/
structure SnOk (n : Int) (s : List (Option Int)) : Prop where
  len : (s.length : Int) = n
  rng : ∀ c, some c ∈ s → 0 ≤ c ∧ c ≤ 9
abbrev seenT (s : List (Option Int)) : T := .tup (s.map oT)
theorem row_seen (r : List Int) : rowT r = seenT (r.map some) := by
  unfold rowT seenT
  rw [List.map_map]
  rfl
theorem sn_row {n : Int} {r : List Int} (h : (r.length : Int) = n) (hr : ∀ d ∈ r, 0 ≤ d ∧ d ≤ 9) : SnOk n (r.map some) := ⟨by rw [List.length_map]; exact h, fun c hc => by
  obtain ⟨d, hd, e⟩ := List.mem_map.mp hc
  cases e
  exact hr c hd⟩
section
variable {k : Nat} {w h m : Int} {f : Option Int} {μ : Store} {g : List Int} {s : List (Option Int)} {ds : List Int}
theorem check_tones (p : PlOk w h m f) (hg : SnOk (w * h) s) : Ph tab (k + 2) 12 [plT w h m f, seenT s] μ = .ok .non μ := by
  refine spec (ph_check_tones (k + 1)) (by simp only [cleans_cons, cleans_nil, clean_int, clean_bl, clean_non, clean_str, clean_tup, clean_lst, clean_ins, clean_oT, clean_pl, clean_row, cleans_ints, cleans_rows, cleans_oT, cleans_rg, Bool.and_true, Bool.true_and]) clean_non ?_
  have hl := hg.len
  have h9 := p.n9
  refine fd_check_tones ?_
  unfold b12
  repeat decreasing_trivial_pre_omega
  refine RI.lcM (enc := oT) (fun _ => .bl true) (fun o ho => ?_) ?_ ?_
  · refine RI.lcTN rfl (by first | (simp only [wipeE, putE, List.set_cons_succ, List.set_cons_zero]; exact rfl) | rfl) ?_
    cases o with
    | none =>
      repeat decreasing_trivial_pre_omega
      exact ⟨rfl, rfl⟩
    | some t =>
      have := hg.rng t ho
      repeat decreasing_trivial_pre_omega
      simp [this.1, this.2]
  · show _ ≤ 16777216; omega
  repeat decreasing_trivial_pre_omega
  refine RI.allT ?_
  repeat decreasing_trivial_pre_omega
  rfl
/-- whether they are those that were seen -/
def seenF (l : List Int) (s : List (Option Int)) : Bool := (l.zip s).all fun p => match p.2 with
  | none => true
  | some t => decide (t = p.1)
theorem are_seen (hl : ds.length ≤ 100) : Ph tab (k + 1) 13 [rowT ds, seenT s] μ = .ok (.bl (seenF ds s)) μ := by
  refine spec (ph_are_seen k) (by simp only [cleans_cons, cleans_nil, clean_int, clean_bl, clean_non, clean_str, clean_tup, clean_lst, clean_ins, clean_oT, clean_pl, clean_row, cleans_ints, cleans_rows, cleans_oT, cleans_rg, Bool.and_true, Bool.true_and]) (clean_bl _) ?_
  refine fd_are_seen ?_
  unfold b13
  repeat decreasing_trivial_pre_omega
  rw [prs_zip]
  refine RI.lcM (fun p => .bl (match p.2 with | none => true | some t => decide (t = p.1))) (fun p hp => ?_) ?_ ?_
  · refine RI.lcTN rfl (by first | (simp only [wipeE, putE, List.set_cons_succ, List.set_cons_zero]; exact rfl) | rfl) ?_
    obtain ⟨d, o⟩ := p
    cases o with
    | none =>
      repeat decreasing_trivial_pre_omega
      exact ⟨rfl, rfl⟩
    | some t =>
      repeat decreasing_trivial_pre_omega
      exact ⟨rfl, rfl⟩
  · rw [List.length_zip]; show _ ≤ 16777216; omega
  repeat decreasing_trivial_pre_omega
  refine RI.allM ?_
  repeat decreasing_trivial_pre_omega
  rfl
theorem seen_row : ∀ (a b : List Int), a.length = b.length → (seenF a (b.map some) = true ↔ a = b)
  | [], [], _ => by simp [seenF]
  | x :: a, y :: b, hl => by
    have ih := seen_row a b (by simpa using hl)
    unfold seenF at ih ⊢
    rw [List.map_cons, List.zip_cons_cons, List.all_cons, Bool.and_eq_true, ih]
    simp only [decide_eq_true_eq, List.cons.injEq]
    constructor
    · rintro ⟨rfl, h⟩; exact ⟨rfl, h⟩
    · rintro ⟨rfl, h⟩; exact ⟨rfl, h⟩
  | [], _ :: _, h => by simp at h
  | _ :: _, [], h => by simp at h
end

theorem ph_shifted (k : Nat) : Ph tab (k + 1) 14 = pureC (I.fnD 8 (b14 (Ph tab k))) := by rw [I.fnD_eq, Ph_succ]; rfl
theorem fd_shifted {s : Tw.Env → M Out} {a0 a1 a2 a3 : T} {μ : Store} {P : T → Store → Prop} {E : Exc → Store → Prop} (h : OkI (s [some a0, some a1, some a2, some a3, none, none, none, none] μ) (R.fnQ P E) fun _ _ => False) : OkI (I.fnD 8 s [a0, a1, a2, a3] μ) P E := RI.fnD h
theorem ph_together (k : Nat) : Ph tab (k + 1) 15 = pureC (I.fnD 4 (b15 (Ph tab k))) := by rw [I.fnD_eq, Ph_succ]; rfl
theorem fd_together {s : Tw.Env → M Out} {a0 a1 : T} {μ : Store} {P : T → Store → Prop} {E : Exc → Store → Prop} (h : OkI (s [some a0, some a1, none, none] μ) (R.fnQ P E) fun _ _ => False) : OkI (I.fnD 4 s [a0, a1] μ) P E := RI.fnD h
theorem ph_is_shift (k : Nat) : Ph tab (k + 1) 16 = pureC (I.fnD 1 (b16 (Ph tab k))) := by rw [I.fnD_eq, Ph_succ]; rfl
theorem fd_is_shift {s : Tw.Env → M Out} {a0 : T} {μ : Store} {P : T → Store → Prop} {E : Exc → Store → Prop} (h : OkI (s [some a0] μ) (R.fnQ P E) fun _ _ => False) : OkI (I.fnD 1 s [a0] μ) P E := RI.fnD h
theorem ph_overprinted (k : Nat) : Ph tab (k + 1) 17 = pureC (I.fnD 6 (b17 (Ph tab k))) := by rw [I.fnD_eq, Ph_succ]; rfl
theorem fd_overprinted {s : Tw.Env → M Out} {a0 a1 : T} {μ : Store} {P : T → Store → Prop} {E : Exc → Store → Prop} (h : OkI (s [some a0, some a1, none, none, none, none] μ) (R.fnQ P E) fun _ _ => False) : OkI (I.fnD 6 s [a0, a1] μ) P E := RI.fnD h
end
section
local macro_rules | `(tactic| decreasing_trivial_pre_omega) => `(tactic| first
  | (refine RI.idO ?_; first | refine RI.sNil ?_ | refine RI.sSeqG fun R hR => ?_ | refine RI.sSet ?_ | refine RI.sRet ?_ | refine RI.sRetN ?_ | refine RI.sExpr ?_ | refine RI.sIf ?_ | refine RI.sPass ?_ | refine RI.sBreak ?_ | refine RI.sCont ?_ | refine RI.sStore ?_ | refine RI.sPar ?_ | refine RI.sFor ?_ | refine RI.setA ?_ | refine RI.asg ?_ | refine RI.sFrzL rfl (by assumption) (by simp only [List.set_cons_succ, List.set_cons_zero]; exact rfl) ?_ | refine RI.goR (by assumption) ?_)
  | (refine RI.idT ?_; first | refine RI.cVar rfl ?_ | refine RI.cK ?_ | refine RI.c1 ?_ | refine RI.c2 ?_ | refine RI.cN ?_ | refine RI.cIf ?_ | refine RI.cAndT ?_ | refine RI.cOrT ?_ | refine RI.cNotT ?_ | refine RI.cChain ?_ | refine RI.cSlice ?_ | refine RI.cKw ?_ | refine RI.cLc ?_ | refine RI.cLc2 ?_ | refine RI.cRgL1 ?_ | refine RI.cRgL2 ?_ | refine RI.cMeth ?_ | refine RI.mAttrF rfl rfl rfl ?_ | refine RI.cCall ?_ | refine RI.gIxO (by assumption) rfl ?_ | refine RI.gIxT rfl ?_ | refine RI.gIxL rfl ?_ | refine RI.gIx0 ?_ | refine RI.gAddI ?_ | refine RI.gSub ?_ | refine RI.gLt ?_ | refine RI.gLe ?_ | refine RI.gGt ?_ | refine RI.gGe ?_ | refine RI.gNeg ?_ | refine RI.eqI0 ?_ | refine RI.eqI1 ?_ | refine RI.bLenT ?_ | refine RI.bLenL ?_ | refine RI.bLenS ?_ | refine RI.bInt ?_ | refine RI.bIntB ?_ | refine RI.bTupL ?_ | refine RI.bTupT ?_ | refine RI.bLstT ?_ | refine RI.bLstL ?_ | refine RI.mCutT ?_ | refine RI.mCutL ?_ | refine RI.isiTup ?_ | refine RI.isiInt ?_ | refine RI.isiIntB ?_ | refine RI.bLenO (by assumption) ?_ | refine RI.gMul (by first | exact R.mulR rfl | exact R.mulL rfl | exact R.mulB (by omega) (by omega)) ?_ | refine RI.gFdiv (by first | assumption | rfl | decide | omega) (by first | assumption | rfl | decide | omega) ?_ | refine RI.gMod (by first | assumption | rfl | decide | omega) ?_ | refine RI.gPow rfl ?_ | (refine RI.mTup ?_ ?_; (focus (simp [lim]; done))) | (refine RI.mLst ?_ ?_; (focus (simp [lim]; done))) | (refine RI.mNew ?_ ?_; (focus (simp [lim]; done))) | refine RI.min2 ?_ | refine RI.max2 ?_ | refine RI.isN0 ?_ | refine RI.isNI ?_ | refine RI.isNN0 ?_ | refine RI.isNNI ?_ | refine RI.mRevL ?_ | refine RI.cCall0 ?_ | refine RI.cRepL ?_ | refine RI.use (isnum _ _ _ _ _) ?_ | refine at_width ?_ | refine at_height ?_ | refine at_most ?_ | refine at_fall ?_ | refine len_pl (by assumption) ?_ | refine RI.lenT ?_ | refine RI.lenL ?_ | refine RI.lenS ?_ | refine RI.lenO (by assumption) ?_ | refine RI.use (check_depths (by assumption) (by assumption)) ?_ | refine RI.use (are_depths (by assumption) (by assumption)) ?_ | refine pl_mk (by assumption) ?_ | refine RI.use (check_tones (by assumption) (by assumption)) ?_ | refine RI.use (are_seen (by omega)) ?_)
  | (refine RI.idL ?_; first | refine RI.aNil ?_ | refine RI.aCons ?_ | refine RI.aStar ?_ | refine RI.iSeq ?_ | refine RI.mItT ?_ | refine RI.mItL ?_ | refine RI.iRg1 ?_ | refine RI.iRg2 ?_ | refine RI.iEn ?_ | refine RI.mEnuT ?_ | refine RI.mEnuL ?_ | refine RI.iZp ?_ | refine RI.mZipT ?_ | refine RI.mZipL ?_ | refine RI.mSeqT ?_ | refine RI.mSeqL ?_ | refine RI.iRg3 ?_)
  | (refine RI.idB ?_; first | refine RI.cTest ?_ | refine RI.cTru ?_ | refine RI.cAnd ?_ | refine RI.cOr ?_ | refine RI.cNot ?_ | refine RI.cYes ?_ | refine RI.mTruB ?_ | refine RI.mTruI ?_ | refine RI.mTruT ?_ | refine RI.mTruL ?_ | refine RI.mTruN ?_)
  | refine RI.qnxS (by simp only [List.set_cons_succ, List.set_cons_zero]; exact rfl) ?_
  | refine RI.qnxP (by simp only [putE, List.set_cons_succ, List.set_cons_zero]; exact rfl) ?_
  | refine RI.qnx ?_
  | refine R.qrt ?_
  | refine R.qbk ?_
  | refine R.qct ?_
  | refine R.frt ?_
  | refine R.fnx ?_
  | refine R.brT ?_
  | refine R.brF ?_
  | refine R.brNT ?_
  | refine R.brNF ?_
  | refine RI.oNone ?_
  | refine RI.oSome ?_
  | refine RI.now ?_
  | refine R.isBl ?_
  | refine R.isInt ?_
  | refine R.isI1 ?_
  | refine R.isI2 ?_
  | refine R.len rfl ?_
  | refine R.chk (by first | assumption | exact tyOkL (by assumption) | decide +kernel | exact R.inRB (by omega) (by omega) | exact R.rgB (by omega) (by omega) (by omega) (by omega) | (simp only [List.length_map, List.length_cons, List.length_nil, List.length_replicate, rgT_length, rgI_length]; first | exact R.inRB (by omega) (by omega) | exact R.rgB (by omega) (by omega) (by omega) (by omega))) ?_
  | refine R.bnd rfl ?_
  | refine R.stA rfl ?_
  | refine R.brF2 ?_
  | refine R.brT2 ?_
  | refine R.brF3 ?_
  | refine R.brT3 ?_
  | refine R.br1 (by (try simp only [Bool.and_eq_true, Bool.or_eq_true, Bool.and_eq_false_iff, Bool.or_eq_false_iff, Bool.not_eq_false', Bool.not_eq_true', decide_eq_true_eq, decide_eq_false_iff_not, List.length_map, List.length_cons, List.length_nil, rgT_length]); omega) ?_
  | refine R.br0 (by (try simp only [Bool.and_eq_true, Bool.or_eq_true, Bool.and_eq_false_iff, Bool.or_eq_false_iff, Bool.not_eq_false', Bool.not_eq_true', decide_eq_true_eq, decide_eq_false_iff_not, List.length_map, List.length_cons, List.length_nil, rgT_length]); omega) ?_)
/-- what a shifted plate prints -/
def cellS (w h : Int) (ds : List Int) (dn rt r c : Int) : Int := if 0 ≤ r - dn ∧ r - dn < h ∧ 0 ≤ c - rt ∧ c - rt < w then ds.getD ((r - dn) * w + c - rt).toNat 0 else 0
def shiftF (w h : Int) (ds : List Int) (dn rt : Int) : List Int := (rgI 0 h).flatMap fun r => (rgI 0 w).map fun c => cellS w h ds dn rt r c
theorem flat_len {α β γ : Type} (l : List α) (r : List β) (f : α → β → γ) : (l.flatMap fun a => r.map (f a)).length = l.length * r.length := by
  induction l with
  | nil => simp
  | cons a l ih => rw [List.flatMap_cons, List.length_append, ih, List.length_map, List.length_cons, Nat.add_mul, Nat.one_mul, Nat.add_comm]
theorem nat_mul {w h : Int} (hw : 0 ≤ w) (hh : 0 ≤ h) : h.toNat * w.toNat = (w * h).toNat := by
  obtain ⟨a, rfl⟩ := Int.eq_ofNat_of_zero_le hw
  obtain ⟨b, rfl⟩ := Int.eq_ofNat_of_zero_le hh
  simp only [Int.toNat_natCast]
  rw [← Int.natCast_mul, Int.toNat_natCast, Nat.mul_comm]
theorem shiftF_len {w h : Int} {ds : List Int} {dn rt : Int} (hw : 0 ≤ w) (hh : 0 ≤ h) : (shiftF w h ds dn rt).length = (w * h).toNat := by
  unfold shiftF
  rw [flat_len, rgI_length, rgI_length, Int.sub_zero, Int.sub_zero, nat_mul hw hh]
theorem cell_in {w h a b : Int} (a0 : 0 ≤ a) (ah : a < h) (b0 : 0 ≤ b) (bw : b < w) : 0 ≤ a * w + b ∧ a * w + b < w * h := by
  have h1 : 0 ≤ a * w := Int.mul_nonneg a0 (by omega)
  have h2 : (a + 1) * w ≤ h * w := Int.mul_le_mul_of_nonneg_right (by omega) (by omega)
  rw [Int.add_mul, Int.one_mul, Int.mul_comm h w] at h2
  omega
section
variable {k : Nat} {w h m : Int} {f : Option Int} {μ : Store} {ds : List Int} {dn rt : Int}
theorem shifted (p : PlOk w h m f) (hd : DpOk w h m ds) (b1 : -3 ≤ dn) (b2 : dn ≤ 3) (b3 : -3 ≤ rt) (b4 : rt ≤ 3) : Ph tab (k + 2) 14 [plT w h m f, rowT ds, .int dn, .int rt] μ = .ok (rowT (shiftF w h ds dn rt)) μ := by
  refine spec (ph_shifted (k + 1)) (by simp only [cleans_cons, cleans_nil, clean_int, clean_bl, clean_non, clean_str, clean_tup, clean_lst, clean_ins, clean_oT, clean_pl, clean_row, cleans_ints, cleans_rows, cleans_oT, cleans_rg, Bool.and_true, Bool.true_and]) (clean_row _) ?_
  obtain ⟨p1, p2, p3, p4, p5, p6, p7, p8, _⟩ := p
  have hdl := hd.len
  have eb : (((rgI 0 h).flatMap fun r => (rgI 0 w).map fun c => T.int (cellS w h ds dn rt r c)).length) = (w * h).toNat := by rw [flat_len, rgI_length, rgI_length, Int.sub_zero, Int.sub_zero, nat_mul (by omega) (by omega)]
  refine fd_shifted ?_
  unfold b14
  repeat decreasing_trivial_pre_omega
  rw [rgT_eq]
  refine RI.forA (n := 0) (acc0 := []) [5, 6, 7] (fun r => (rgI 0 w).map fun c => T.int (cellS w h ds dn rt r c)) ⟨[none, none, none], rfl, rfl⟩ rfl (by rw [eb]; show 0 + _ ≤ 16777216; omega) (fun r hr vs hv acc μ1 e1 hm1 hb1 => ?_) fun vs hv μ1 e1 hm1 => ?_
  · rw [mem_rgI] at hr
    obtain ⟨v1, v2, v3, rfl⟩ := len3 hv
    refine RI.stpN rfl (by first | (simp only [wipeE, putE, List.set_cons_succ, List.set_cons_zero]; exact rfl) | rfl) ?_
    repeat decreasing_trivial_pre_omega
    rw [rgT_eq]
    refine RI.forA (n := 0) (acc0 := acc) [6, 7] (fun c => [T.int (cellS w h ds dn rt r c)]) ⟨[_, _], rfl, rfl⟩ hm1 (by rw [List.length_map] at hb1; simp only [List.length_flatMap, List.length_singleton, List.map_const', List.sum_replicate_nat]; rw [Nat.mul_one]; exact hb1) (fun c hc vs hv acc2 μ2 e2 hm2 hb2 => ?_) fun vs hv μ2 e2 hm2 => ?_
    · rw [mem_rgI] at hc
      obtain ⟨u1, u2, rfl⟩ := len2 hv
      refine RI.stpN rfl (by first | (simp only [wipeE, putE, List.set_cons_succ, List.set_cons_zero]; exact rfl) | rfl) ?_
      have fin : ∀ (x : Int), x = cellS w h ds dn rt r c → ∀ μ3, μ3 = μ2.set 0 (some (.lst (acc2 ++ [T.int x]))) → μ3 = μ1.set 0 (some (.lst (acc2 ++ [T.int (cellS w h ds dn rt r c)]))) := by
        intro x hx μ3 h3
        rw [h3, e2, hx, List.set_set]
      have hb3 : acc2.length < lim := by rw [List.length_singleton] at hb2; omega
      by_cases hc4 : 0 ≤ r - dn ∧ r - dn < h ∧ 0 ≤ c - rt ∧ c - rt < w
      · obtain ⟨q1, q2, q3, q4⟩ := hc4
        have hi := cell_in q1 q2 q3 q4
        have hi2 : 0 ≤ (r - dn) * w + c - rt ∧ (r - dn) * w + c - rt < w * h := by omega
        have ei : ds[((r - dn) * w + c - rt).toNat]? = some (ds.getD ((r - dn) * w + c - rt).toNat 0) := by rw [List.getD_eq_getElem?_getD, List.getElem?_eq_getElem (show _ < ds.length by omega)]; rfl
        repeat decreasing_trivial_pre_omega
        refine RI.gIxT (atI_map hi2.1 ei) ?_
        repeat decreasing_trivial_pre_omega
        refine RI.appO hm2 hb3 fun μ3 e3 hm3 => ?_
        repeat decreasing_trivial_pre_omega
        refine ⟨⟨[_, _], .inl rfl, rfl⟩, fin _ ?_ μ3 e3⟩
        unfold cellS
        rw [if_pos ⟨q1, q2, q3, q4⟩]
      · have e0 : cellS w h ds dn rt r c = 0 := by unfold cellS; rw [if_neg hc4]
        repeat decreasing_trivial_pre_omega
        refine ⟨fun h1 => ?_, fun h1 => ?_⟩
        · rw [decide_eq_true_eq] at h1
          repeat decreasing_trivial_pre_omega
          refine ⟨fun h2 => ?_, fun h2 => ?_⟩
          · rw [decide_eq_true_eq] at h2
            repeat decreasing_trivial_pre_omega
            refine ⟨fun h3 => ?_, fun h3 => ?_⟩
            · rw [decide_eq_true_eq] at h3
              have h4 : decide (c - rt < w) = false := decide_eq_false (by omega)
              repeat decreasing_trivial_pre_omega
              simp only [h4]
              repeat decreasing_trivial_pre_omega
              refine RI.appO hm2 hb3 fun μ3 e3 hm3 => ?_
              repeat decreasing_trivial_pre_omega
              exact ⟨⟨[_, _], .inl rfl, rfl⟩, fin _ e0.symm μ3 e3⟩
            · repeat decreasing_trivial_pre_omega
              refine RI.appO hm2 hb3 fun μ3 e3 hm3 => ?_
              repeat decreasing_trivial_pre_omega
              exact ⟨⟨[_, _], .inl rfl, rfl⟩, fin _ e0.symm μ3 e3⟩
          · simp only [h2]
            repeat decreasing_trivial_pre_omega
            refine RI.appO hm2 hb3 fun μ3 e3 hm3 => ?_
            repeat decreasing_trivial_pre_omega
            exact ⟨⟨[_, _], .inl rfl, rfl⟩, fin _ e0.symm μ3 e3⟩
        · repeat decreasing_trivial_pre_omega
          refine RI.appO hm2 hb3 fun μ3 e3 hm3 => ?_
          repeat decreasing_trivial_pre_omega
          exact ⟨⟨[_, _], .inl rfl, rfl⟩, fin _ e0.symm μ3 e3⟩
    · obtain ⟨u1, u2, rfl⟩ := len2 hv
      repeat decreasing_trivial_pre_omega
      refine ⟨⟨[_, _, _], .inl rfl, rfl⟩, ?_⟩
      rw [e2, e1, List.set_set]
      congr 4
      exact flat1 _ _
  · obtain ⟨v1, v2, v3, rfl⟩ := len3 hv
    repeat decreasing_trivial_pre_omega
    unfold rowT shiftF
    rw [List.map_flatMap]
    simp only [List.map_map, List.nil_append]
    rfl
/-- the tones of rows over one another -/
def togF (rows : List (List Int)) (n : Int) : List Int := (rgI 0 n).map fun i => if (rows.map fun r => r.getD i.toNat 0).sum < 9 then (rows.map fun r => r.getD i.toNat 0).sum else 9
theorem togF_len {rows : List (List Int)} {n : Int} : (togF rows n).length = n.toNat := by unfold togF; rw [List.length_map, rgI_length, Int.sub_zero]
theorem together {rows : List (List Int)} {n : Int} (n0 : 0 ≤ n) (hn : n ≤ 100) (hl : rows.length ≤ 100) (hr : ∀ r ∈ rows, (r.length : Int) = n) : Ph tab (k + 1) 15 [.lst (rows.map rowT), .int n] μ = .ok (rowT (togF rows n)) μ := by
  refine spec (ph_together k) (by simp only [cleans_cons, cleans_nil, clean_int, clean_bl, clean_non, clean_str, clean_tup, clean_lst, clean_ins, clean_oT, clean_pl, clean_row, cleans_ints, cleans_rows, cleans_oT, cleans_rg, Bool.and_true, Bool.true_and]) (clean_row _) ?_
  refine fd_together ?_
  unfold b15
  repeat decreasing_trivial_pre_omega
  rw [rgT_eq]
  refine RI.lcM (fun i => .int (if (rows.map fun r => r.getD i.toNat 0).sum < 9 then (rows.map fun r => r.getD i.toNat 0).sum else 9)) (fun i hi => ?_) ?_ ?_
  · rw [mem_rgI] at hi
    refine RI.lcTN rfl (by first | (simp only [wipeE, putE, List.set_cons_succ, List.set_cons_zero]; exact rfl) | rfl) ?_
    repeat decreasing_trivial_pre_omega
    refine RI.lcM (enc := rowT) (fun r => .int (r.getD i.toNat 0)) (fun r hr' => ?_) ?_ ?_
    · have hrl := hr r hr'
      have e1 : r[i.toNat]? = some (r.getD i.toNat 0) := by rw [List.getD_eq_getElem?_getD, List.getElem?_eq_getElem (show i.toNat < r.length by omega)]; rfl
      refine RI.lcTN rfl (by first | (simp only [wipeE, putE, List.set_cons_succ, List.set_cons_zero]; exact rfl) | rfl) ?_
      repeat decreasing_trivial_pre_omega
      refine RI.gIxT (atI_map hi.1 e1) ?_
      exact ⟨rfl, rfl⟩
    · show _ ≤ 16777216; omega
    repeat decreasing_trivial_pre_omega
    refine RI.sumM ?_
    repeat decreasing_trivial_pre_omega
    exact ⟨rfl, rfl⟩
  · rw [rgI_length]; show _ ≤ 16777216; omega
  repeat decreasing_trivial_pre_omega
  unfold rowT togF
  rw [List.map_map]
  rfl
theorem is_shift (v : Int) (b1 : -3 ≤ v) (b2 : v ≤ 3) : Ph tab (k + 2) 16 [.int v] μ = .ok (.bl true) μ := by
  refine spec (ph_is_shift (k + 1)) (by simp only [cleans_cons, cleans_nil, clean_int, clean_bl, clean_non, clean_str, clean_tup, clean_lst, clean_ins, clean_oT, clean_pl, clean_row, cleans_ints, cleans_rows, cleans_oT, cleans_rg, Bool.and_true, Bool.true_and]) (clean_bl _) ?_
  refine fd_is_shift ?_
  unfold b16
  repeat decreasing_trivial_pre_omega
  simp [b1, b2]
/-- a plate that is printed: its depths, down, right -/
structure OvOk (w h m : Int) (r : List Int × Int × Int) : Prop where
  dp : DpOk w h m r.1
  d1 : -3 ≤ r.2.1
  d2 : r.2.1 ≤ 3
  r1 : -3 ≤ r.2.2
  r2 : r.2.2 ≤ 3
def ovT (r : List Int × Int × Int) : T := .tup [rowT r.1, .int r.2.1, .int r.2.2]
theorem clean_ov (r : List Int × Int × Int) : clean (ovT r) = true := by
  unfold ovT
  rw [clean_tup]
  exact (by simp only [cleans_cons, cleans_nil, clean_int, clean_bl, clean_non, clean_str, clean_tup, clean_lst, clean_ins, clean_oT, clean_pl, clean_row, cleans_ints, cleans_rows, cleans_oT, cleans_rg, Bool.and_true, Bool.true_and])
theorem cleans_ov (l : List (List Int × Int × Int)) : cleans (l.map ovT) = true := cleans_map _ clean_ov l
def ovF (w h : Int) (rows : List (List Int × Int × Int)) : List Int := togF (rows.map fun r => shiftF w h r.1 r.2.1 r.2.2) (w * h)
theorem overprinted {rows : List (List Int × Int × Int)} (p : PlOk w h m f) (hl : rows.length ≤ 100) (hr : ∀ r ∈ rows, OvOk w h m r) : Ph tab (k + 4) 17 [plT w h m f, .lst (rows.map ovT)] μ = .ok (rowT (ovF w h rows)) μ := by
  refine spec (ph_overprinted (k + 3)) (by simp only [cleans_cons, cleans_nil, clean_pl, clean_lst, cleans_ov, Bool.and_true]) (clean_row _) ?_
  have p1 := p.w1
  have p3 := p.h1
  have p5 := p.n9
  have p6 := p.n1
  refine fd_overprinted ?_
  unfold b17
  repeat decreasing_trivial_pre_omega
  refine RI.forW [2, 3, 4, 5] (fun _ vs μ' => vs.length = 4 ∧ μ' = []) ⟨[none, none, none, none], rfl, rfl, rfl⟩ (fun j t vs μ1 e hJ => ?_) fun vs μ1 hJ => ?_
  · obtain ⟨hv, rfl⟩ := hJ
    obtain ⟨v1, v2, v3, v4, rfl⟩ := len4 hv
    obtain ⟨u, hu, rfl⟩ := enT_get e
    rw [List.getElem?_map] at hu
    obtain ⟨r, hr1, rfl⟩ := Option.map_eq_some_iff.mp hu
    obtain ⟨hd, d1, d2, r1, r2⟩ := hr r (List.mem_iff_getElem?.mpr ⟨j, hr1⟩)
    obtain ⟨ds, dn, rt⟩ := r
    refine RI.stpN rfl (by first | (simp only [wipeE, putE, List.set_cons_succ, List.set_cons_zero]; exact rfl) | rfl) ?_
    repeat decreasing_trivial_pre_omega
    refine RI.use (is_shift dn d1 d2) ?_
    repeat decreasing_trivial_pre_omega
    refine RI.use (is_shift rt r1 r2) ?_
    repeat decreasing_trivial_pre_omega
    exact ⟨[_, _, _, _], rfl, rfl, rfl⟩
  · obtain ⟨hv, rfl⟩ := hJ
    obtain ⟨v1, v2, v3, v4, rfl⟩ := len4 hv
    repeat decreasing_trivial_pre_omega
    refine RI.lcM (enc := ovT) (fun r => rowT (shiftF w h r.1 r.2.1 r.2.2)) (fun r hr' => ?_) ?_ ?_
    · obtain ⟨hd, d1, d2, r1, r2⟩ := hr r hr'
      obtain ⟨ds, dn, rt⟩ := r
      refine RI.lcTN rfl (by first | (simp only [wipeE, putE, List.set_cons_succ, List.set_cons_zero]; exact rfl) | rfl) ?_
      repeat decreasing_trivial_pre_omega
      refine RI.use (shifted p hd d1 d2 r1 r2) ?_
      exact ⟨rfl, rfl⟩
    · show _ ≤ 16777216; omega
    repeat decreasing_trivial_pre_omega
    have e1 : (rows.map fun r => rowT (shiftF w h r.1 r.2.1 r.2.2)) = (rows.map fun r => shiftF w h r.1 r.2.1 r.2.2).map rowT := by rw [List.map_map]; rfl
    rw [e1]
    refine RI.use (together (by omega) (by omega) (by rw [List.length_map]; exact hl) (fun r hr' => ?_)) ?_
    · obtain ⟨q, _, rfl⟩ := List.mem_map.mp hr'
      rw [shiftF_len (by omega) (by omega)]
      omega
    repeat decreasing_trivial_pre_omega
    rfl
end

end
end Lw

namespace Lw
open PySem L2 Tw


theorem ph_shifts_of (k : Nat) : Ph tab (k + 1) 18 = pureC (I.fnD 7 (b18 (Ph tab k))) := by rw [I.fnD_eq, Ph_succ]; rfl
theorem fd_shifts_of {s : Tw.Env → M Out} {a0 a1 a2 a3 : T} {μ : Store} {P : T → Store → Prop} {E : Exc → Store → Prop} (h : OkI (s [some a0, some a1, some a2, some a3, none, none, none] μ) (R.fnQ P E) fun _ _ => False) : OkI (I.fnD 7 s [a0, a1, a2, a3] μ) P E := RI.fnD h
theorem ph_parted (k : Nat) : Ph tab (k + 1) 19 = pureC (I.fnD 6 (b19 (Ph tab k))) := by rw [I.fnD_eq, Ph_succ]; rfl
theorem fd_parted {s : Tw.Env → M Out} {a0 a1 a2 : T} {μ : Store} {P : T → Store → Prop} {E : Exc → Store → Prop} (h : OkI (s [some a0, some a1, some a2, none, none, none] μ) (R.fnQ P E) fun _ _ => False) : OkI (I.fnD 6 s [a0, a1, a2] μ) P E := RI.fnD h
section
local macro_rules | `(tactic| decreasing_trivial_pre_omega) => `(tactic| first
  | (refine RI.idO ?_; first | refine RI.sNil ?_ | refine RI.sSeqG fun R hR => ?_ | refine RI.sSet ?_ | refine RI.sRet ?_ | refine RI.sRetN ?_ | refine RI.sExpr ?_ | refine RI.sIf ?_ | refine RI.sPass ?_ | refine RI.sBreak ?_ | refine RI.sCont ?_ | refine RI.sStore ?_ | refine RI.sPar ?_ | refine RI.sFor ?_ | refine RI.setA ?_ | refine RI.asg ?_ | refine RI.sFrzL rfl (by assumption) (by simp only [List.set_cons_succ, List.set_cons_zero]; exact rfl) ?_ | refine RI.goR (by assumption) ?_)
  | (refine RI.idT ?_; first | refine RI.cVar rfl ?_ | refine RI.cK ?_ | refine RI.c1 ?_ | refine RI.c2 ?_ | refine RI.cN ?_ | refine RI.cIf ?_ | refine RI.cAndT ?_ | refine RI.cOrT ?_ | refine RI.cNotT ?_ | refine RI.cChain ?_ | refine RI.cSlice ?_ | refine RI.cKw ?_ | refine RI.cLc ?_ | refine RI.cLc2 ?_ | refine RI.cRgL1 ?_ | refine RI.cRgL2 ?_ | refine RI.cMeth ?_ | refine RI.mAttrF rfl rfl rfl ?_ | refine RI.cCall ?_ | refine RI.gIxO (by assumption) rfl ?_ | refine RI.gIxT rfl ?_ | refine RI.gIxL rfl ?_ | refine RI.gIx0 ?_ | refine RI.gAddI ?_ | refine RI.gSub ?_ | refine RI.gLt ?_ | refine RI.gLe ?_ | refine RI.gGt ?_ | refine RI.gGe ?_ | refine RI.gNeg ?_ | refine RI.eqI0 ?_ | refine RI.eqI1 ?_ | refine RI.bLenT ?_ | refine RI.bLenL ?_ | refine RI.bLenS ?_ | refine RI.bInt ?_ | refine RI.bIntB ?_ | refine RI.bTupL ?_ | refine RI.bTupT ?_ | refine RI.bLstT ?_ | refine RI.bLstL ?_ | refine RI.mCutT ?_ | refine RI.mCutL ?_ | refine RI.isiTup ?_ | refine RI.isiInt ?_ | refine RI.isiIntB ?_ | refine RI.bLenO (by assumption) ?_ | refine RI.gMul (by first | exact R.mulR rfl | exact R.mulL rfl | exact R.mulB (by omega) (by omega)) ?_ | refine RI.gFdiv (by first | assumption | rfl | decide | omega) (by first | assumption | rfl | decide | omega) ?_ | refine RI.gMod (by first | assumption | rfl | decide | omega) ?_ | refine RI.gPow rfl ?_ | (refine RI.mTup ?_ ?_; (focus (simp [lim]; done))) | (refine RI.mLst ?_ ?_; (focus (simp [lim]; done))) | (refine RI.mNew ?_ ?_; (focus (simp [lim]; done))) | refine RI.min2 ?_ | refine RI.max2 ?_ | refine RI.isN0 ?_ | refine RI.isNI ?_ | refine RI.isNN0 ?_ | refine RI.isNNI ?_ | refine RI.mRevL ?_ | refine RI.cCall0 ?_ | refine RI.cRepL ?_ | refine RI.use (isnum _ _ _ _ _) ?_ | refine at_width ?_ | refine at_height ?_ | refine at_most ?_ | refine at_fall ?_ | refine len_pl (by assumption) ?_ | refine RI.lenT ?_ | refine RI.lenL ?_ | refine RI.lenS ?_ | refine RI.lenO (by assumption) ?_ | refine RI.use (check_depths (by assumption) (by assumption)) ?_ | refine RI.use (are_depths (by assumption) (by assumption)) ?_ | refine pl_mk (by assumption) ?_ | refine RI.use (check_tones (by assumption) (by assumption)) ?_ | refine RI.use (are_seen (by omega)) ?_)
  | (refine RI.idL ?_; first | refine RI.aNil ?_ | refine RI.aCons ?_ | refine RI.aStar ?_ | refine RI.iSeq ?_ | refine RI.mItT ?_ | refine RI.mItL ?_ | refine RI.iRg1 ?_ | refine RI.iRg2 ?_ | refine RI.iEn ?_ | refine RI.mEnuT ?_ | refine RI.mEnuL ?_ | refine RI.iZp ?_ | refine RI.mZipT ?_ | refine RI.mZipL ?_ | refine RI.mSeqT ?_ | refine RI.mSeqL ?_ | refine RI.iRg3 ?_)
  | (refine RI.idB ?_; first | refine RI.cTest ?_ | refine RI.cTru ?_ | refine RI.cAnd ?_ | refine RI.cOr ?_ | refine RI.cNot ?_ | refine RI.cYes ?_ | refine RI.mTruB ?_ | refine RI.mTruI ?_ | refine RI.mTruT ?_ | refine RI.mTruL ?_ | refine RI.mTruN ?_)
  | refine RI.qnxS (by simp only [List.set_cons_succ, List.set_cons_zero]; exact rfl) ?_
  | refine RI.qnxP (by simp only [putE, List.set_cons_succ, List.set_cons_zero]; exact rfl) ?_
  | refine RI.qnx ?_
  | refine R.qrt ?_
  | refine R.qbk ?_
  | refine R.qct ?_
  | refine R.frt ?_
  | refine R.fnx ?_
  | refine R.brT ?_
  | refine R.brF ?_
  | refine R.brNT ?_
  | refine R.brNF ?_
  | refine RI.oNone ?_
  | refine RI.oSome ?_
  | refine RI.now ?_
  | refine R.isBl ?_
  | refine R.isInt ?_
  | refine R.isI1 ?_
  | refine R.isI2 ?_
  | refine R.len rfl ?_
  | refine R.chk (by first | assumption | exact tyOkL (by assumption) | decide +kernel | exact R.inRB (by omega) (by omega) | exact R.rgB (by omega) (by omega) (by omega) (by omega) | (simp only [List.length_map, List.length_cons, List.length_nil, List.length_replicate, rgT_length, rgI_length]; first | exact R.inRB (by omega) (by omega) | exact R.rgB (by omega) (by omega) (by omega) (by omega))) ?_
  | refine R.bnd rfl ?_
  | refine R.stA rfl ?_
  | refine R.brF2 ?_
  | refine R.brT2 ?_
  | refine R.brF3 ?_
  | refine R.brT3 ?_
  | refine R.br1 (by (try simp only [Bool.and_eq_true, Bool.or_eq_true, Bool.and_eq_false_iff, Bool.or_eq_false_iff, Bool.not_eq_false', Bool.not_eq_true', decide_eq_true_eq, decide_eq_false_iff_not, List.length_map, List.length_cons, List.length_nil, rgT_length]); omega) ?_
  | refine R.br0 (by (try simp only [Bool.and_eq_true, Bool.or_eq_true, Bool.and_eq_false_iff, Bool.or_eq_false_iff, Bool.not_eq_false', Bool.not_eq_true', decide_eq_true_eq, decide_eq_false_iff_not, List.length_map, List.length_cons, List.length_nil, rgT_length]); omega) ?_)
section
variable {k : Nat} {w h m : Int} {f : Option Int} {μ : Store} {ds : List Int} {dn rt : Int} {s : List (Option Int)} {one other : List Int}
/-- the shifts with which it prints what was seen -/
def shB (w h : Int) (one other : List Int) (s : List (Option Int)) (d r : Int) : Bool := seenF (togF [one, shiftF w h other d r] (w * h)) s
def shF (w h : Int) (one other : List Int) (s : List (Option Int)) : List (List Int) := (rgI (-3) 4).flatMap fun d => ((rgI (-3) 4).filter fun r => shB w h one other s d r).map fun r => [d, r]
theorem filt_flatT (p : Int → Bool) (g : Int → T) : ∀ l : List Int, (l.flatMap fun r => if p r = true then [g r] else []) = (l.filter p).map g
  | [] => rfl
  | a :: l => by
    rw [List.flatMap_cons, filt_flatT p g l]
    by_cases c : p a = true
    · rw [if_pos c, List.filter_cons_of_pos c, List.map_cons]; rfl
    · rw [if_neg c, List.filter_cons_of_neg c]; rfl
theorem flat_le {α β : Type} (g : α → List β) (b : Nat) : ∀ l : List α, (∀ a ∈ l, (g a).length ≤ b) → (l.flatMap g).length ≤ l.length * b
  | [], _ => by simp
  | a :: l, h => by
    rw [List.flatMap_cons, List.length_append, List.length_cons, Nat.add_mul, Nat.one_mul]
    have h1 := h a List.mem_cons_self
    have h2 := flat_le g b l fun x hx => h x (List.mem_cons_of_mem _ hx)
    omega
theorem shifts_of (p : PlOk w h m f) (h1 : DpOk w h m one) (h2 : DpOk w h m other) (hs : SnOk (w * h) s) : Ph tab (k + 4) 18 [plT w h m f, rowT one, rowT other, seenT s] μ = .ok (.lst ((shF w h one other s).map rowT)) μ := by
  refine spec (ph_shifts_of (k + 3)) (by simp only [cleans_cons, cleans_nil, clean_int, clean_bl, clean_non, clean_str, clean_tup, clean_lst, clean_ins, clean_oT, clean_pl, clean_row, cleans_ints, cleans_rows, cleans_oT, cleans_rg, Bool.and_true, Bool.true_and]) (by rw [clean_lst]; exact cleans_rows _) ?_
  have p1 := p.w1
  have p3 := p.h1
  have p5 := p.n9
  have p6 := p.n1
  have hl1 := h1.len
  have hsl := hs.len
  refine fd_shifts_of ?_
  unfold b18
  repeat decreasing_trivial_pre_omega
  have hin : ∀ d : Int, ((rgI (-3) 4).flatMap fun r => if shB w h one other s d r = true then [rowT [d, r]] else []).length ≤ 7 := fun d => by
    have := flat_le (fun r => if shB w h one other s d r = true then [rowT [d, r]] else []) 1 (rgI (-3) 4) (fun r _ => by split <;> simp)
    rw [rgI_length] at this
    omega
  refine RI.forA (n := 0) (acc0 := []) (enc := T.int) (l := rgI (-3) 4) [5, 6] (fun d => (rgI (-3) 4).flatMap fun r => if shB w h one other s d r = true then [rowT [d, r]] else []) ⟨[none, none], rfl, rfl⟩ rfl (by have := flat_le (fun d => (rgI (-3) 4).flatMap fun r => if shB w h one other s d r = true then [rowT [d, r]] else []) 7 (rgI (-3) 4) (fun d _ => hin d); rw [rgI_length] at this; show 0 + _ ≤ 16777216; omega) (fun d hd vs hv acc μ1 e1 hm1 hb1 => ?_) fun vs hv μ1 e1 hm1 => ?_
  · rw [mem_rgI] at hd
    obtain ⟨v1, v2, rfl⟩ := len2 hv
    refine RI.stpN rfl (by first | (simp only [wipeE, putE, List.set_cons_succ, List.set_cons_zero]; exact rfl) | rfl) ?_
    repeat decreasing_trivial_pre_omega
    refine RI.forA (n := 0) (acc0 := acc) (enc := T.int) (l := rgI (-3) 4) [6] (fun r => if shB w h one other s d r = true then [rowT [d, r]] else []) ⟨[_], rfl, rfl⟩ hm1 hb1 (fun r hr vs hv acc2 μ2 e2 hm2 hb2 => ?_) fun vs hv μ2 e2 hm2 => ?_
    · rw [mem_rgI] at hr
      obtain ⟨u1, rfl⟩ := len1 hv
      refine RI.stpN rfl (by first | (simp only [wipeE, putE, List.set_cons_succ, List.set_cons_zero]; exact rfl) | rfl) ?_
      repeat decreasing_trivial_pre_omega
      refine RI.use (shifted p h2 (by omega) (by omega) (by omega) (by omega)) ?_
      repeat decreasing_trivial_pre_omega
      have et : [rowT one, rowT (shiftF w h other d r)] = [one, shiftF w h other d r].map rowT := rfl
      rw [et]
      refine RI.use (together (by omega) (by omega) (by simp) (fun q hq => ?_)) ?_
      · rcases List.mem_cons.mp hq with rfl | hq
        · omega
        · have : q = shiftF w h other d r := by simpa using hq
          subst this
          rw [shiftF_len (by omega) (by omega)]
          omega
      repeat decreasing_trivial_pre_omega
      refine RI.use (are_seen (by rw [togF_len]; omega)) ?_
      cases hk : seenF (togF [one, shiftF w h other d r] (w * h)) s with
      | true =>
        have hk' : shB w h one other s d r = true := hk
        rw [if_pos hk'] at hb2 ⊢
        repeat decreasing_trivial_pre_omega
        refine RI.appO hm2 (by rw [List.length_singleton] at hb2; omega) fun μ3 e3 hm3 => ?_
        repeat decreasing_trivial_pre_omega
        exact ⟨⟨[_], .inl rfl, rfl⟩, by rw [e3, e2]; exact List.set_set ..⟩
      | false =>
        have hk' : ¬ shB w h one other s d r = true := by show ¬ seenF _ _ = true; rw [hk]; simp
        rw [if_neg hk'] at hb2 ⊢
        repeat decreasing_trivial_pre_omega
        exact ⟨⟨[_], .inl rfl, rfl⟩, by rw [e2, List.append_nil]⟩
    · obtain ⟨u1, rfl⟩ := len1 hv
      repeat decreasing_trivial_pre_omega
      exact ⟨⟨[_, _], .inl rfl, rfl⟩, by rw [e2, e1, List.set_set]⟩
  · obtain ⟨v1, v2, rfl⟩ := len2 hv
    repeat decreasing_trivial_pre_omega
    rw [List.nil_append]
    unfold shF
    rw [List.map_flatMap]
    congr 1
    refine congrArg (fun g => List.flatMap g (rgI (-3) 4)) (funext fun d => ?_)
    rw [filt_flatT (fun r => shB w h one other s d r) fun r => rowT [d, r], List.map_map]
    rfl
/-- what is left for a second plate -/
def partF (s : List (Option Int)) (ds : List Int) : List Int := (s.zip ds).map fun p => match p.1 with
  | none => 0
  | some t => if t - p.2 > 0 then t - p.2 else 0
def partO (w h m : Int) (s : List (Option Int)) (ds : List Int) : Option (List Int) := if (∀ d ∈ partF s ds, d ≤ m) ∧ seenF (togF [ds, partF s ds] (w * h)) s = true then some (partF s ds) else none
def orT : Option (List Int) → T
  | none => .non
  | some r => rowT r
theorem clean_orT (o : Option (List Int)) : clean (orT o) = true := by
  cases o with
  | none => exact clean_non
  | some r => exact clean_row r
theorem partF_len (hl : s.length = ds.length) : (partF s ds).length = ds.length := by unfold partF; simp [hl]
theorem parted (p : PlOk w h m f) (hs : SnOk (w * h) s) (hd : DpOk w h m ds) : Ph tab (k + 4) 19 [plT w h m f, seenT s, rowT ds] μ = .ok (orT (partO w h m s ds)) μ := by
  refine spec (ph_parted (k + 3)) (by simp only [cleans_cons, cleans_nil, clean_int, clean_bl, clean_non, clean_str, clean_tup, clean_lst, clean_ins, clean_oT, clean_pl, clean_row, cleans_ints, cleans_rows, cleans_oT, cleans_rg, Bool.and_true, Bool.true_and]) (clean_orT _) ?_
  have p5 := p.n9
  have p6 := p.n1
  have hdl := hd.len
  have hsl := hs.len
  refine fd_parted ?_
  unfold b19
  repeat decreasing_trivial_pre_omega
  rw [prs_zip]
  refine RI.lcM (fun p => .int (match p.1 with | none => 0 | some t => if t - p.2 > 0 then t - p.2 else 0)) (fun q hq => ?_) ?_ ?_
  · refine RI.lcTN rfl (by first | (simp only [wipeE, putE, List.set_cons_succ, List.set_cons_zero]; exact rfl) | rfl) ?_
    obtain ⟨o, d⟩ := q
    cases o with
    | none =>
      repeat decreasing_trivial_pre_omega
      exact ⟨rfl, rfl⟩
    | some t =>
      repeat decreasing_trivial_pre_omega
      exact ⟨rfl, rfl⟩
  · rw [List.length_zip]; show _ ≤ 16777216; omega
  have e0 : ((s.zip ds).map fun p => T.int (match p.1 with | none => 0 | some t => if t - p.2 > 0 then t - p.2 else 0)) = (partF s ds).map T.int := by unfold partF; rw [List.map_map]; rfl
  rw [e0]
  have hpl := partF_len (s := s) (ds := ds) (by omega)
  unfold partO
  revert hpl
  cases hL : partF s ds with
  | nil => intro hpl; simp at hpl; omega
  | cons a l =>
    intro hpl
    repeat decreasing_trivial_pre_omega
    refine RI.maxT ?_
    repeat decreasing_trivial_pre_omega
    have hmx := mxI_le (m := m) l a
    have hmm : (∀ d ∈ a :: l, d ≤ m) ↔ mxI a l ≤ m := by
      rw [hmx]
      simp
    by_cases hm : mxI a l ≤ m
    · refine R.br0 (by simp; omega) ?_
      repeat decreasing_trivial_pre_omega
      have et : [rowT ds, rowT (a :: l)] = [ds, a :: l].map rowT := rfl
      have et2 : T.tup ((a :: l).map T.int) = rowT (a :: l) := rfl
      rw [et2, et]
      refine RI.use (together (by omega) (by omega) (by simp) (fun q hq => ?_)) ?_
      · rcases List.mem_cons.mp hq with rfl | hq
        · omega
        · have : q = a :: l := by simpa using hq
          subst this
          omega
      repeat decreasing_trivial_pre_omega
      refine RI.use (are_seen (by rw [togF_len]; omega)) ?_
      cases hk : seenF (togF [ds, a :: l] (w * h)) s with
      | true =>
        repeat decreasing_trivial_pre_omega
        rw [if_pos ⟨hmm.mpr hm, rfl⟩]
        rfl
      | false =>
        repeat decreasing_trivial_pre_omega
        rw [if_neg (by simp)]
        rfl
    · refine R.br1 (by simp; omega) ?_
      repeat decreasing_trivial_pre_omega
      rw [if_neg (fun z => hm (hmm.mp z.1))]
      rfl
theorem shifts_ofR {r : List Int} (p : PlOk w h m f) (h1 : DpOk w h m one) (h2 : DpOk w h m other) (hs : SnOk (w * h) (r.map some)) : Ph tab (k + 4) 18 [plT w h m f, rowT one, rowT other, rowT r] μ = .ok (.lst ((shF w h one other (r.map some)).map rowT)) μ := by
  have := shifts_of (k := k) (μ := μ) p h1 h2 hs
  rw [← row_seen] at this
  exact this
theorem partedR {r : List Int} (p : PlOk w h m f) (hs : SnOk (w * h) (r.map some)) (hd : DpOk w h m ds) : Ph tab (k + 4) 19 [plT w h m f, rowT r, rowT ds] μ = .ok (orT (partO w h m (r.map some) ds)) μ := by
  have := parted (k := k) (μ := μ) p hs hd
  rw [← row_seen] at this
  exact this
end

end
end Lw

namespace Lw
open PySem L2 Tw


theorem ph_choices (k : Nat) : Ph tab (k + 1) 11 = pureC (I.fnD 3 (b11 (Ph tab k))) := by rw [I.fnD_eq, Ph_succ]; rfl
theorem fd_choices {s : Tw.Env → M Out} {a0 : T} {μ : Store} {P : T → Store → Prop} {E : Exc → Store → Prop} (h : OkI (s [some a0, none, none] μ) (R.fnQ P E) fun _ _ => False) : OkI (I.fnD 3 s [a0] μ) P E := RI.fnD h
section
local macro_rules | `(tactic| decreasing_trivial_pre_omega) => `(tactic| first
  | (refine RI.idO ?_; first | refine RI.sNil ?_ | refine RI.sSeqG fun R hR => ?_ | refine RI.sSet ?_ | refine RI.sRet ?_ | refine RI.sRetN ?_ | refine RI.sExpr ?_ | refine RI.sIf ?_ | refine RI.sPass ?_ | refine RI.sBreak ?_ | refine RI.sCont ?_ | refine RI.sStore ?_ | refine RI.sPar ?_ | refine RI.sFor ?_ | refine RI.setA ?_ | refine RI.asg ?_ | refine RI.sFrzL rfl (by assumption) (by simp only [List.set_cons_succ, List.set_cons_zero]; exact rfl) ?_ | refine RI.goR (by assumption) ?_)
  | (refine RI.idT ?_; first | refine RI.cVar rfl ?_ | refine RI.cK ?_ | refine RI.c1 ?_ | refine RI.c2 ?_ | refine RI.cN ?_ | refine RI.cIf ?_ | refine RI.cAndT ?_ | refine RI.cOrT ?_ | refine RI.cNotT ?_ | refine RI.cChain ?_ | refine RI.cSlice ?_ | refine RI.cKw ?_ | refine RI.cLc ?_ | refine RI.cLc2 ?_ | refine RI.cRgL1 ?_ | refine RI.cRgL2 ?_ | refine RI.cMeth ?_ | refine RI.mAttrF rfl rfl rfl ?_ | refine RI.cCall ?_ | refine RI.gIxO (by assumption) rfl ?_ | refine RI.gIxT rfl ?_ | refine RI.gIxL rfl ?_ | refine RI.gIx0 ?_ | refine RI.gAddI ?_ | refine RI.gSub ?_ | refine RI.gLt ?_ | refine RI.gLe ?_ | refine RI.gGt ?_ | refine RI.gGe ?_ | refine RI.gNeg ?_ | refine RI.eqI0 ?_ | refine RI.eqI1 ?_ | refine RI.bLenT ?_ | refine RI.bLenL ?_ | refine RI.bLenS ?_ | refine RI.bInt ?_ | refine RI.bIntB ?_ | refine RI.bTupL ?_ | refine RI.bTupT ?_ | refine RI.bLstT ?_ | refine RI.bLstL ?_ | refine RI.mCutT ?_ | refine RI.mCutL ?_ | refine RI.isiTup ?_ | refine RI.isiInt ?_ | refine RI.isiIntB ?_ | refine RI.bLenO (by assumption) ?_ | refine RI.gMul (by first | exact R.mulR rfl | exact R.mulL rfl | exact R.mulB (by omega) (by omega)) ?_ | refine RI.gFdiv (by first | assumption | rfl | decide | omega) (by first | assumption | rfl | decide | omega) ?_ | refine RI.gMod (by first | assumption | rfl | decide | omega) ?_ | refine RI.gPow rfl ?_ | (refine RI.mTup ?_ ?_; (focus (simp [lim]; done))) | (refine RI.mLst ?_ ?_; (focus (simp [lim]; done))) | (refine RI.mNew ?_ ?_; (focus (simp [lim]; done))) | refine RI.min2 ?_ | refine RI.max2 ?_ | refine RI.isN0 ?_ | refine RI.isNI ?_ | refine RI.isNN0 ?_ | refine RI.isNNI ?_ | refine RI.mRevL ?_ | refine RI.cCall0 ?_ | refine RI.cRepL ?_ | refine RI.use (isnum _ _ _ _ _) ?_ | refine at_width ?_ | refine at_height ?_ | refine at_most ?_ | refine at_fall ?_ | refine len_pl (by assumption) ?_ | refine RI.lenT ?_ | refine RI.lenL ?_ | refine RI.lenS ?_ | refine RI.lenO (by assumption) ?_ | refine RI.use (check_depths (by assumption) (by assumption)) ?_ | refine RI.use (are_depths (by assumption) (by assumption)) ?_ | refine pl_mk (by assumption) ?_ | refine RI.use (check_tones (by assumption) (by assumption)) ?_ | refine RI.use (are_seen (by omega)) ?_ | refine RI.use (shifts_ofR (by assumption) (by assumption) (by assumption) (by assumption)) ?_ | refine RI.use (partedR (by assumption) (by assumption) (by assumption)) ?_ | refine RI.use (shifts_of (by assumption) (by assumption) (by assumption) (by assumption)) ?_ | refine RI.use (parted (by assumption) (by assumption) (by assumption)) ?_)
  | (refine RI.idL ?_; first | refine RI.aNil ?_ | refine RI.aCons ?_ | refine RI.aStar ?_ | refine RI.iSeq ?_ | refine RI.mItT ?_ | refine RI.mItL ?_ | refine RI.iRg1 ?_ | refine RI.iRg2 ?_ | refine RI.iEn ?_ | refine RI.mEnuT ?_ | refine RI.mEnuL ?_ | refine RI.iZp ?_ | refine RI.mZipT ?_ | refine RI.mZipL ?_ | refine RI.mSeqT ?_ | refine RI.mSeqL ?_ | refine RI.iRg3 ?_)
  | (refine RI.idB ?_; first | refine RI.cTest ?_ | refine RI.cTru ?_ | refine RI.cAnd ?_ | refine RI.cOr ?_ | refine RI.cNot ?_ | refine RI.cYes ?_ | refine RI.mTruB ?_ | refine RI.mTruI ?_ | refine RI.mTruT ?_ | refine RI.mTruL ?_ | refine RI.mTruN ?_)
  | refine RI.qnxS (by simp only [List.set_cons_succ, List.set_cons_zero]; exact rfl) ?_
  | refine RI.qnxP (by simp only [putE, List.set_cons_succ, List.set_cons_zero]; exact rfl) ?_
  | refine RI.qnx ?_
  | refine R.qrt ?_
  | refine R.qbk ?_
  | refine R.qct ?_
  | refine R.frt ?_
  | refine R.fnx ?_
  | refine R.brT ?_
  | refine R.brF ?_
  | refine R.brNT ?_
  | refine R.brNF ?_
  | refine RI.oNone ?_
  | refine RI.oSome ?_
  | refine RI.now ?_
  | refine R.isBl ?_
  | refine R.isInt ?_
  | refine R.isI1 ?_
  | refine R.isI2 ?_
  | refine R.len rfl ?_
  | refine R.chk (by first | assumption | exact tyOkL (by assumption) | decide +kernel | exact R.inRB (by omega) (by omega) | exact R.rgB (by omega) (by omega) (by omega) (by omega) | (simp only [List.length_map, List.length_cons, List.length_nil, List.length_replicate, rgT_length, rgI_length]; first | exact R.inRB (by omega) (by omega) | exact R.rgB (by omega) (by omega) (by omega) (by omega))) ?_
  | refine R.bnd rfl ?_
  | refine R.stA rfl ?_
  | refine R.brF2 ?_
  | refine R.brT2 ?_
  | refine R.brF3 ?_
  | refine R.brT3 ?_
  | refine R.br1 (by (try simp only [Bool.and_eq_true, Bool.or_eq_true, Bool.and_eq_false_iff, Bool.or_eq_false_iff, Bool.not_eq_false', Bool.not_eq_true', decide_eq_true_eq, decide_eq_false_iff_not, List.length_map, List.length_cons, List.length_nil, rgT_length]); omega) ?_
  | refine R.br0 (by (try simp only [Bool.and_eq_true, Bool.or_eq_true, Bool.and_eq_false_iff, Bool.or_eq_false_iff, Bool.not_eq_false', Bool.not_eq_true', decide_eq_true_eq, decide_eq_false_iff_not, List.length_map, List.length_cons, List.length_nil, rgT_length]); omega) ?_)
/-- all ascending tuples of things, in order -/
def chs : List Int → List (List Int)
  | [] => [[]]
  | a :: r => [] :: ((chs r).map (a :: ·) ++ (chs r).drop 1)
theorem chs_len : ∀ l : List Int, (chs l).length = 2 ^ l.length
  | [] => rfl
  | a :: r => by
    have ih := chs_len r
    have h1 : 1 ≤ 2 ^ r.length := Nat.one_le_two_pow
    rw [chs, List.length_cons, List.length_append, List.length_map, List.length_drop, ih, List.length_cons, Nat.pow_succ]
    omega
theorem chs_row : ∀ (l g : List Int), g ∈ chs l → g.length ≤ l.length ∧ ∀ x ∈ g, x ∈ l
  | [], g, h => by
    have : g = [] := by simpa [chs] using h
    subst this
    simp
  | a :: r, g, h => by
    rw [chs, List.mem_cons, List.mem_append, List.mem_map] at h
    rcases h with rfl | ⟨q, hq, rfl⟩ | h
    · simp
    · obtain ⟨h1, h2⟩ := chs_row r q hq
      refine ⟨by simp; exact h1, fun x hx => ?_⟩
      rcases List.mem_cons.mp hx with rfl | hx
      · exact List.mem_cons_self
      · exact List.mem_cons_of_mem _ (h2 x hx)
    · obtain ⟨h1, h2⟩ := chs_row r g (List.mem_of_mem_drop h)
      exact ⟨by rw [List.length_cons]; omega, fun x hx => List.mem_cons_of_mem _ (h2 x hx)⟩
theorem chs_nil (l : List Int) : [] ∈ chs l := by cases l <;> simp [chs]
theorem choices_at : ∀ (l : List Int) (k : Nat) (μ : Store), l.length ≤ 12 → Ph tab (k + l.length + 1) 11 [.lst (l.map T.int)] μ = .ok (.lst ((chs l).map rowT)) μ
  | [], k, μ, _ => by
    refine spec (ph_choices (k + 0)) (by simp only [List.map_nil, cleans_cons, clean_lst, cleans_nil, Bool.and_true]) (by rw [clean_lst]; exact cleans_rows _) ?_
    refine fd_choices ?_
    unfold b11
    repeat decreasing_trivial_pre_omega
    refine RI.eqD0 (n := 2) (by omega) dat_nil dat_nil ?_
    rw [decide_eq_true (show T.lst (List.map T.int []) = T.lst [] from rfl)]
    repeat decreasing_trivial_pre_omega
    rfl
  | a :: r, k, μ, hl => by
    have ih := choices_at r k [] (by simp at hl; omega)
    have hc := chs_len r
    have hp : 2 ^ r.length ≤ 2 ^ 11 := Nat.pow_le_pow_right (by omega) (by simp at hl; omega)
    refine spec (ph_choices (k + (r.length + 1))) (by simp only [cleans_cons, clean_lst, cleans_nil, cleans_ints, Bool.and_true]) (by rw [clean_lst]; exact cleans_rows _) ?_
    refine fd_choices ?_
    unfold b11
    repeat decreasing_trivial_pre_omega
    refine RI.eqD0 (n := 2) (by omega) (by rw [dat]; exact dats_ints _) dat_nil ?_
    rw [decide_eq_false (by simp)]
    repeat decreasing_trivial_pre_omega
    rw [cut1]
    refine RI.use ih ?_
    repeat decreasing_trivial_pre_omega
    refine RI.lcM (enc := rowT) (fun g => rowT (a :: g)) (fun g hg => ?_) ?_ ?_
    · refine RI.lcTN rfl (by first | (simp only [wipeE, putE, List.set_cons_succ, List.set_cons_zero]; exact rfl) | rfl) ?_
      repeat decreasing_trivial_pre_omega
      refine RI.mTup ?_ ⟨?_, rfl⟩
      · have := (chs_row r g hg).1
        simp [lim]
        simp at hl
        omega
      · unfold rowT
        rw [List.append_nil]
        rfl
    · show _ ≤ 16777216; omega
    repeat decreasing_trivial_pre_omega
    rw [cut1]
    repeat decreasing_trivial_pre_omega
    refine RI.mLst ?_ ?_
    · simp only [List.length_cons, List.length_append, List.length_map, List.length_drop, List.length_nil, lim]
      omega
    repeat decreasing_trivial_pre_omega
    rw [chs]
    simp only [List.map_cons, List.map_append, List.map_map, List.append_nil]
    rfl
theorem choices {lv : Nat} {l : List Int} {μ : Store} (hl : l.length ≤ 12) (h : l.length < lv) : Ph tab lv 11 [.lst (l.map T.int)] μ = .ok (.lst ((chs l).map rowT)) μ := by
  have := choices_at l (lv - l.length - 1) μ hl
  rw [show lv - l.length - 1 + l.length + 1 = lv by omega] at this
  exact this

theorem ph_fewest_plates (k : Nat) : Ph tab (k + 1) 20 = pureC (I.fnD 8 (b20 (Ph tab k))) := by rw [I.fnD_eq, Ph_succ]; rfl
theorem fd_fewest_plates {s : Tw.Env → M Out} {a0 a1 a2 : T} {μ : Store} {P : T → Store → Prop} {E : Exc → Store → Prop} (h : OkI (s [some a0, some a1, some a2, none, none, none, none, none] μ) (R.fnQ P E) fun _ _ => False) : OkI (I.fnD 8 s [a0, a1, a2] μ) P E := RI.fnD h
end
section
local macro_rules | `(tactic| decreasing_trivial_pre_omega) => `(tactic| first
  | (refine RI.idO ?_; first | refine RI.sNil ?_ | refine RI.sSeqG fun R hR => ?_ | refine RI.sSet ?_ | refine RI.sRet ?_ | refine RI.sRetN ?_ | refine RI.sExpr ?_ | refine RI.sIf ?_ | refine RI.sPass ?_ | refine RI.sBreak ?_ | refine RI.sCont ?_ | refine RI.sStore ?_ | refine RI.sPar ?_ | refine RI.sFor ?_ | refine RI.setA ?_ | refine RI.asg ?_ | refine RI.sFrzL rfl (by assumption) (by simp only [List.set_cons_succ, List.set_cons_zero]; exact rfl) ?_ | refine RI.goR (by assumption) ?_)
  | (refine RI.idT ?_; first | refine RI.cVar rfl ?_ | refine RI.cK ?_ | refine RI.c1 ?_ | refine RI.c2 ?_ | refine RI.cN ?_ | refine RI.cIf ?_ | refine RI.cAndT ?_ | refine RI.cOrT ?_ | refine RI.cNotT ?_ | refine RI.cChain ?_ | refine RI.cSlice ?_ | refine RI.cKw ?_ | refine RI.cLc ?_ | refine RI.cLc2 ?_ | refine RI.cRgL1 ?_ | refine RI.cRgL2 ?_ | refine RI.cMeth ?_ | refine RI.mAttrF rfl rfl rfl ?_ | refine RI.cCall ?_ | refine RI.gIxO (by assumption) rfl ?_ | refine RI.gIxT rfl ?_ | refine RI.gIxL rfl ?_ | refine RI.gIx0 ?_ | refine RI.gAddI ?_ | refine RI.gSub ?_ | refine RI.gLt ?_ | refine RI.gLe ?_ | refine RI.gGt ?_ | refine RI.gGe ?_ | refine RI.gNeg ?_ | refine RI.eqI0 ?_ | refine RI.eqI1 ?_ | refine RI.bLenT ?_ | refine RI.bLenL ?_ | refine RI.bLenS ?_ | refine RI.bInt ?_ | refine RI.bIntB ?_ | refine RI.bTupL ?_ | refine RI.bTupT ?_ | refine RI.bLstT ?_ | refine RI.bLstL ?_ | refine RI.mCutT ?_ | refine RI.mCutL ?_ | refine RI.isiTup ?_ | refine RI.isiInt ?_ | refine RI.isiIntB ?_ | refine RI.bLenO (by assumption) ?_ | refine RI.gMul (by first | exact R.mulR rfl | exact R.mulL rfl | exact R.mulB (by omega) (by omega)) ?_ | refine RI.gFdiv (by first | assumption | rfl | decide | omega) (by first | assumption | rfl | decide | omega) ?_ | refine RI.gMod (by first | assumption | rfl | decide | omega) ?_ | refine RI.gPow rfl ?_ | (refine RI.mTup ?_ ?_; (focus (simp [lim]; done))) | (refine RI.mLst ?_ ?_; (focus (simp [lim]; done))) | (refine RI.mNew ?_ ?_; (focus (simp [lim]; done))) | refine RI.min2 ?_ | refine RI.max2 ?_ | refine RI.isN0 ?_ | refine RI.isNI ?_ | refine RI.isNN0 ?_ | refine RI.isNNI ?_ | refine RI.mRevL ?_ | refine RI.cCall0 ?_ | refine RI.cRepL ?_ | refine RI.use (isnum _ _ _ _ _) ?_ | refine at_width ?_ | refine at_height ?_ | refine at_most ?_ | refine at_fall ?_ | refine len_pl (by assumption) ?_ | refine RI.lenT ?_ | refine RI.lenL ?_ | refine RI.lenS ?_ | refine RI.lenO (by assumption) ?_ | refine RI.use (check_depths (by assumption) (by assumption)) ?_ | refine RI.use (are_depths (by assumption) (by assumption)) ?_ | refine pl_mk (by assumption) ?_ | refine RI.use (check_tones (by assumption) (by assumption)) ?_ | refine RI.use (are_seen (by omega)) ?_ | refine RI.use (shifts_ofR (by assumption) (by assumption) (by assumption) (by assumption)) ?_ | refine RI.use (partedR (by assumption) (by assumption) (by assumption)) ?_ | refine RI.use (shifts_of (by assumption) (by assumption) (by assumption) (by assumption)) ?_ | refine RI.use (parted (by assumption) (by assumption) (by assumption)) ?_)
  | (refine RI.idL ?_; first | refine RI.aNil ?_ | refine RI.aCons ?_ | refine RI.aStar ?_ | refine RI.iSeq ?_ | refine RI.mItT ?_ | refine RI.mItL ?_ | refine RI.iRg1 ?_ | refine RI.iRg2 ?_ | refine RI.iEn ?_ | refine RI.mEnuT ?_ | refine RI.mEnuL ?_ | refine RI.iZp ?_ | refine RI.mZipT ?_ | refine RI.mZipL ?_ | refine RI.mSeqT ?_ | refine RI.mSeqL ?_ | refine RI.iRg3 ?_)
  | (refine RI.idB ?_; first | refine RI.cTest ?_ | refine RI.cTru ?_ | refine RI.cAnd ?_ | refine RI.cOr ?_ | refine RI.cNot ?_ | refine RI.cYes ?_ | refine RI.mTruB ?_ | refine RI.mTruI ?_ | refine RI.mTruT ?_ | refine RI.mTruL ?_ | refine RI.mTruN ?_)
  | refine RI.qnxS (by simp only [List.set_cons_succ, List.set_cons_zero]; exact rfl) ?_
  | refine RI.qnxP (by simp only [putE, List.set_cons_succ, List.set_cons_zero]; exact rfl) ?_
  | refine RI.qnx ?_
  | refine R.qrt ?_
  | refine R.qbk ?_
  | refine R.qct ?_
  | refine R.frt ?_
  | refine R.fnx ?_
  | refine R.brT ?_
  | refine R.brF ?_
  | refine R.brNT ?_
  | refine R.brNF ?_
  | refine RI.oNone ?_
  | refine RI.oSome ?_
  | refine RI.now ?_
  | refine R.isBl ?_
  | refine R.isInt ?_
  | refine R.isI1 ?_
  | refine R.isI2 ?_
  | refine R.len rfl ?_
  | refine R.chk (by first | assumption | exact tyOkL (by assumption) | decide +kernel | exact R.inRB (by omega) (by omega) | exact R.rgB (by omega) (by omega) (by omega) (by omega) | (simp only [List.length_map, List.length_cons, List.length_nil, List.length_replicate, rgT_length, rgI_length]; first | exact R.inRB (by omega) (by omega) | exact R.rgB (by omega) (by omega) (by omega) (by omega))) ?_
  | refine R.bnd rfl ?_
  | refine R.stA rfl ?_
  | refine R.brF2 ?_
  | refine R.brT2 ?_
  | refine R.brF3 ?_
  | refine R.brT3 ?_
  | refine R.br1 (by (try simp only [Bool.and_eq_true, Bool.or_eq_true, Bool.and_eq_false_iff, Bool.or_eq_false_iff, Bool.not_eq_false', Bool.not_eq_true', decide_eq_true_eq, decide_eq_false_iff_not, List.length_map, List.length_cons, List.length_nil, rgT_length]); omega) ?_
  | refine R.br0 (by (try simp only [Bool.and_eq_true, Bool.or_eq_true, Bool.and_eq_false_iff, Bool.or_eq_false_iff, Bool.not_eq_false', Bool.not_eq_true', decide_eq_true_eq, decide_eq_false_iff_not, List.length_map, List.length_cons, List.length_nil, rgT_length]); omega) ?_)
section
variable {k : Nat} {w h m : Int} {f : Option Int} {μ : Store} {s : List (Option Int)} {cs : List (List Int)}
/-- the plates that print what was seen -/
def fewG (w h : Int) (cs : List (List Int)) (s : List (Option Int)) : List (List Int) := (chs (rgI 0 cs.length)).filter fun g => seenF (togF (g.map fun i => cs.getD i.toNat []) (w * h)) s
def fewO : List (List Int) → Option (List Int)
  | [] => none
  | a :: l => some (leastF a l)
theorem fewest_plates (p : PlOk w h m f) (hs : SnOk (w * h) s) (hl : cs.length ≤ 6) (hc : ∀ c ∈ cs, DpOk w h m c) : Ph tab (k + 10) 20 [plT w h m f, seenT s, .tup (cs.map rowT)] μ = .ok (orT (fewO (fewG w h cs s))) μ := by
  refine spec (ph_fewest_plates (k + 9)) (by simp only [cleans_cons, cleans_nil, clean_int, clean_bl, clean_non, clean_str, clean_tup, clean_lst, clean_ins, clean_oT, clean_pl, clean_row, cleans_ints, cleans_rows, cleans_oT, cleans_rg, Bool.and_true, Bool.true_and]) (clean_orT _) ?_
  have p5 := p.n9
  have p6 := p.n1
  have hsl := hs.len
  have hcl := chs_len (rgI 0 cs.length)
  rw [rgI_length, Int.sub_zero, Int.toNat_natCast] at hcl
  have hp : 2 ^ cs.length ≤ 2 ^ 6 := Nat.pow_le_pow_right (by omega) hl
  refine fd_fewest_plates ?_
  unfold b20
  repeat decreasing_trivial_pre_omega
  refine RI.forW [5, 6] (fun _ vs μ' => vs.length = 2 ∧ μ' = []) ⟨[none, none], rfl, rfl, rfl⟩ (fun j t vs μ1 e hJ => ?_) fun vs μ1 hJ => ?_
  · obtain ⟨hv, rfl⟩ := hJ
    obtain ⟨v1, v2, rfl⟩ := len2 hv
    obtain ⟨u, hu, rfl⟩ := enT_get e
    rw [List.getElem?_map] at hu
    obtain ⟨c, hc1, rfl⟩ := Option.map_eq_some_iff.mp hu
    have hj := (List.getElem?_eq_some_iff.mp hc1).1
    have hd := hc c (List.mem_iff_getElem?.mpr ⟨j, hc1⟩)
    refine RI.stpN rfl (by first | (simp only [wipeE, putE, List.set_cons_succ, List.set_cons_zero]; exact rfl) | rfl) ?_
    repeat decreasing_trivial_pre_omega
    exact ⟨[_, _], rfl, rfl, rfl⟩
  · obtain ⟨hv, rfl⟩ := hJ
    obtain ⟨v1, v2, rfl⟩ := len2 hv
    repeat decreasing_trivial_pre_omega
    rw [List.length_map]
    repeat decreasing_trivial_pre_omega
    rw [rgT_eq]
    refine RI.use (choices (lv := k + 9) (l := rgI 0 cs.length) (by rw [rgI_length]; omega) (by rw [rgI_length]; omega)) ?_
    repeat decreasing_trivial_pre_omega
    refine RI.lcF (fun g => seenF (togF (g.map fun i => cs.getD i.toNat []) (w * h)) s) rowT (fun g hg => ?_) ?_ ?_
    · obtain ⟨g1, g2⟩ := chs_row _ _ hg
      rw [rgI_length] at g1
      refine RI.lcTN rfl (by first | (simp only [wipeE, putE, List.set_cons_succ, List.set_cons_zero]; exact rfl) | rfl) ?_
      repeat decreasing_trivial_pre_omega
      refine RI.lcM (enc := T.int) (fun i => rowT (cs.getD i.toNat [])) (fun i hi => ?_) ?_ ?_
      · have hi' := g2 i hi
        rw [mem_rgI] at hi'
        have e1 : cs[i.toNat]? = some (cs.getD i.toNat []) := by rw [List.getD_eq_getElem?_getD, List.getElem?_eq_getElem (show i.toNat < cs.length by omega)]; rfl
        refine RI.lcTN rfl (by first | (simp only [wipeE, putE, List.set_cons_succ, List.set_cons_zero]; exact rfl) | rfl) ?_
        repeat decreasing_trivial_pre_omega
        refine RI.gIxT (atI_map hi'.1 e1) ?_
        exact ⟨rfl, rfl⟩
      · show _ ≤ 16777216; omega
      repeat decreasing_trivial_pre_omega
      have et : (g.map fun i => rowT (cs.getD i.toNat [])) = (g.map fun i => cs.getD i.toNat []).map rowT := by rw [List.map_map]; rfl
      rw [et]
      refine RI.use (together (by omega) (by omega) (by rw [List.length_map]; omega) (fun q hq => ?_)) ?_
      · obtain ⟨i, hi, rfl⟩ := List.mem_map.mp hq
        have hi' := g2 i hi
        rw [mem_rgI] at hi'
        rw [List.getD_eq_getElem?_getD, List.getElem?_eq_getElem (show i.toNat < cs.length by omega)]
        exact (hc _ (List.getElem_mem _)).len
      repeat decreasing_trivial_pre_omega
      refine RI.use (are_seen (by rw [togF_len]; omega)) ?_
      repeat decreasing_trivial_pre_omega
      refine ⟨fun hk => ?_, fun hk => ?_⟩
      · repeat decreasing_trivial_pre_omega
        rw [hk]
        exact ⟨rfl, rfl⟩
      · repeat decreasing_trivial_pre_omega
        rw [hk]
        exact ⟨rfl, rfl⟩
    · show _ ≤ 16777216; omega
    repeat decreasing_trivial_pre_omega
    have eg : (chs (rgI 0 (cs.length : Int))).filter (fun g => seenF (togF (g.map fun i => cs.getD i.toNat []) (w * h)) s) = fewG w h cs s := rfl
    rw [eg]
    have hgl : (fewG w h cs s).length ≤ 64 := Nat.le_trans (List.length_filter_le _ _) (by omega)
    revert hgl
    cases fewG w h cs s with
    | nil =>
      intro hgl
      refine RI.eqD1 (n := 3) (by omega) dat_nil dat_nil ?_
      rw [decide_eq_true (show T.lst (List.map rowT []) = T.lst [] from rfl)]
      repeat decreasing_trivial_pre_omega
      rfl
    | cons a l =>
      intro hgl
      refine RI.eqD1 (n := 3) (by omega) (dat_rows _) dat_nil ?_
      rw [decide_eq_false (by simp)]
      repeat decreasing_trivial_pre_omega
      refine RI.lcM (enc := rowT) (fun g => .tup [.int g.length, rowT g]) (fun g hg => ?_) ?_ ?_
      · refine RI.lcTN rfl (by first | (simp only [wipeE, putE, List.set_cons_succ, List.set_cons_zero]; exact rfl) | rfl) ?_
        repeat decreasing_trivial_pre_omega
        rw [List.length_map]
        exact ⟨rfl, rfl⟩
      · show _ ≤ 16777216; omega
      repeat decreasing_trivial_pre_omega
      refine RI.minSh ?_
      repeat decreasing_trivial_pre_omega
      rfl
theorem fewest_platesR {r : List Int} (p : PlOk w h m f) (hs : SnOk (w * h) (r.map some)) (hl : cs.length ≤ 6) (hc : ∀ c ∈ cs, DpOk w h m c) : Ph tab (k + 10) 20 [plT w h m f, rowT r, .tup (cs.map rowT)] μ = .ok (orT (fewO (fewG w h cs (r.map some)))) μ := by
  have := fewest_plates (k := k) (μ := μ) p hs hl hc
  rw [← row_seen] at this
  exact this
end

end
end Lw

namespace Lw
open PySem L2 Tw


/-! the script's row within the store -/
theorem Row.oth {ns : List Int} {n m : Nat} {μ μ' : Store} (h : Row ns n μ) (o : Oth m μ μ') (hn : n ≠ m) : Row ns n μ' := by
  obtain ⟨a, b, c, e, h0⟩ := h
  exact ⟨a, b, c, by rw [o.2 n hn]; exact e, h0⟩
theorem Row.set {ns : List Int} {n m : Nat} {μ : Store} {x : Option MO} (h : Row ns n μ) (hn : n ≠ m) : Row ns n (μ.set m x) := h.oth Oth.set hn
theorem Row.snoc {ns : List Int} {n : Nat} {μ : Store} {x : Option MO} (h : Row ns n μ) : Row ns n (μ ++ [x]) := by
  obtain ⟨a, b, c, e, h0⟩ := h
  exact ⟨a, b, c, by rw [List.getElem?_append_left (List.getElem?_eq_some_iff.mp e).1]; exact e, h0⟩
theorem Row.lt {ns : List Int} {n : Nat} {μ : Store} (h : Row ns n μ) : n < μ.length := by
  obtain ⟨a, b, c, e, h0⟩ := h
  exact (List.getElem?_eq_some_iff.mp e).1
theorem snoc_at {μ : Store} {x : Option MO} : (μ ++ [x])[μ.length]? = some x := by
  rw [List.getElem?_append_right (Nat.le_refl _), Nat.sub_self]
  rfl

/-! prints over one another: what they are cell by cell -/
section
variable {w h m : Int} {ds : List Int} {dn rt : Int} {rows : List (List Int)}
theorem shiftF_get (hw : 1 ≤ w) (hh : 1 ≤ h) {i : Nat} (hi : i < (w * h).toNat) : (shiftF w h ds dn rt).getD i 0 = cellS w h ds dn rt ((i / w.toNat : Nat) : Int) ((i % w.toNat : Nat) : Int) := by
  have e : shiftF w h ds dn rt = (List.range h.toNat).flatMap fun r => (List.range w.toNat).map fun c => cellS w h ds dn rt ((r : Nat) : Int) ((c : Nat) : Int) := by
    unfold shiftF rgI
    rw [Int.sub_zero, Int.sub_zero, List.flatMap_map]
    refine congrArg (fun g => List.flatMap g (List.range h.toNat)) (funext fun r => ?_)
    rw [List.map_map]
    refine List.map_congr_left fun c _ => ?_
    show cellS w h ds dn rt (0 + (r : Int)) (0 + (c : Int)) = _
    rw [Int.zero_add, Int.zero_add]
  have hi2 : i < w.toNat * h.toNat := by rw [Nat.mul_comm, nat_mul (by omega) (by omega)]; exact hi
  rw [e, List.getD_eq_getElem?_getD, grid_get _ (by omega) _ _ hi2]
  rfl
theorem togF_get {n : Int} {i : Nat} (hi : i < n.toNat) : (togF rows n).getD i 0 = if (rows.map fun r => r.getD i 0).sum < 9 then (rows.map fun r => r.getD i 0).sum else 9 := by
  unfold togF
  rw [getD_rgI _ (by rw [Int.sub_zero]; exact hi)]
  rw [show ((0 : Int) + (i : Int)).toNat = i by omega]
theorem shift0 (hw : 1 ≤ w) (hh : 1 ≤ h) (hl : (ds.length : Int) = w * h) : shiftF w h ds 0 0 = ds := by
  have hln : (shiftF w h ds 0 0).length = ds.length := by rw [shiftF_len (by omega) (by omega)]; omega
  refine eq_of_getD hln fun i hi => ?_
  rw [shiftF_len (by omega) (by omega)] at hi
  have hi2 : i < h.toNat * w.toNat := by rw [nat_mul (by omega) (by omega)]; exact hi
  rw [shiftF_get hw hh hi]
  have h1 : i % w.toNat < w.toNat := Nat.mod_lt _ (by omega)
  have h2 : i / w.toNat < h.toNat := Nat.div_lt_of_lt_mul (by rw [Nat.mul_comm]; exact hi2)
  have h3 : w.toNat * (i / w.toNat) + i % w.toNat = i := Nat.div_add_mod i w.toNat
  generalize i / w.toNat = a at h2 h3 ⊢
  generalize i % w.toNat = b at h1 h3 ⊢
  unfold cellS
  rw [if_pos (by omega)]
  congr 1
  have : ((a : Int) - 0) * w + (b : Int) - 0 = (i : Int) := by
    have e : (w.toNat : Int) = w := by omega
    have : ((w.toNat * a + b : Nat) : Int) = (i : Int) := by rw [h3]
    rw [Int.natCast_add, Int.natCast_mul, e] at this
    rw [Int.sub_zero, Int.sub_zero, Int.mul_comm]
    exact this
  rw [this]
  rfl
theorem cellS_nn (hd : ∀ d ∈ ds, 0 ≤ d) (r c : Int) : 0 ≤ cellS w h ds dn rt r c := by
  unfold cellS
  split
  · rw [List.getD_eq_getElem?_getD]
    cases e : ds[((r - dn) * w + c - rt).toNat]? with
    | none => simp
    | some x => exact hd x (List.mem_iff_getElem?.mpr ⟨_, e⟩)
  · omega
theorem getD_nn {l : List Int} (h : ∀ d ∈ l, 0 ≤ d) (i : Nat) : 0 ≤ l.getD i 0 := by
  rw [List.getD_eq_getElem?_getD]
  cases e : l[i]? with
  | none => simp
  | some x => exact h x (List.mem_iff_getElem?.mpr ⟨_, e⟩)
theorem getD_le {l : List Int} {m : Int} (h0 : 0 ≤ m) (h : ∀ d ∈ l, d ≤ m) (i : Nat) : l.getD i 0 ≤ m := by
  rw [List.getD_eq_getElem?_getD]
  cases e : l[i]? with
  | none => exact h0
  | some x => exact h x (List.mem_iff_getElem?.mpr ⟨_, e⟩)
theorem sum_nn {α : Type} {l : List α} {f : α → Int} (h : ∀ a ∈ l, 0 ≤ f a) : 0 ≤ (l.map f).sum := by
  induction l with
  | nil => simp
  | cons a l ih =>
    rw [List.map_cons, List.sum_cons]
    have h1 := h a List.mem_cons_self
    have h2 := ih fun x hx => h x (List.mem_cons_of_mem _ hx)
    omega
theorem togF_rng {n : Int} (h : ∀ r ∈ rows, ∀ d ∈ r, 0 ≤ d) : ∀ d ∈ togF rows n, 0 ≤ d ∧ d ≤ 9 := by
  intro d hd
  unfold togF at hd
  obtain ⟨i, _, rfl⟩ := List.mem_map.mp hd
  have := sum_nn (l := rows) (f := fun r => r.getD i.toNat 0) fun r hr => getD_nn (h r hr) _
  split <;> omega
/-- rows not shifted -/
theorem ov_plain {l : List (List Int)} (hw : 1 ≤ w) (hh : 1 ≤ h) (hl : ∀ r ∈ l, (r.length : Int) = w * h) : ovF w h (l.map fun r => (r, 0, 0)) = togF l (w * h) := by
  unfold ovF
  rw [List.map_map]
  congr 1
  refine (List.map_congr_left fun r hr => ?_).trans (List.map_id _)
  exact shift0 hw hh (hl r hr)
theorem tog2_get {a b : List Int} {n : Int} {i : Nat} (hi : i < n.toNat) : (togF [a, b] n).getD i 0 = if a.getD i 0 + b.getD i 0 < 9 then a.getD i 0 + b.getD i 0 else 9 := by
  rw [togF_get hi]
  simp only [List.map_cons, List.map_nil, List.sum_cons, List.sum_nil, Int.add_zero]
theorem rep_getD (n i : Nat) : (List.replicate n (0 : Int)).getD i 0 = 0 := by
  rw [List.getD_eq_getElem?_getD, List.getElem?_replicate]
  split <;> rfl
end

theorem ph__law_plate (k : Nat) : Ph tab (k + 1) 22 = pureC (I.fnD 5 (b22 (Ph tab k))) := by rw [I.fnD_eq, Ph_succ]; rfl
theorem fd__law_plate {s : Tw.Env → M Out} {a0 a1 : T} {μ : Store} {P : T → Store → Prop} {E : Exc → Store → Prop} (h : OkI (s [some a0, some a1, none, none, none] μ) (R.fnQ P E) fun _ _ => False) : OkI (I.fnD 5 s [a0, a1] μ) P E := RI.fnD h
theorem ph__law_depths (k : Nat) : Ph tab (k + 1) 23 = pureC (I.fnD 3 (b23 (Ph tab k))) := by rw [I.fnD_eq, Ph_succ]; rfl
theorem fd__law_depths {s : Tw.Env → M Out} {a0 a1 : T} {μ : Store} {P : T → Store → Prop} {E : Exc → Store → Prop} (h : OkI (s [some a0, some a1, none] μ) (R.fnQ P E) fun _ _ => False) : OkI (I.fnD 3 s [a0, a1] μ) P E := RI.fnD h
section
local macro_rules | `(tactic| decreasing_trivial_pre_omega) => `(tactic| first
  | (refine RI.idO ?_; first | refine RI.sNil ?_ | refine RI.sSeqG fun R hR => ?_ | refine RI.sSet ?_ | refine RI.sRet ?_ | refine RI.sRetN ?_ | refine RI.sExpr ?_ | refine RI.sIf ?_ | refine RI.sPass ?_ | refine RI.sBreak ?_ | refine RI.sCont ?_ | refine RI.sStore ?_ | refine RI.sPar ?_ | refine RI.sFor ?_ | refine RI.setA ?_ | refine RI.asg ?_ | refine RI.sFrzL rfl (by assumption) (by simp only [List.set_cons_succ, List.set_cons_zero]; exact rfl) ?_ | refine RI.goR (by assumption) ?_)
  | (refine RI.idT ?_; first | refine RI.cVar rfl ?_ | refine RI.cK ?_ | refine RI.c1 ?_ | refine RI.c2 ?_ | refine RI.cN ?_ | refine RI.cIf ?_ | refine RI.cAndT ?_ | refine RI.cOrT ?_ | refine RI.cNotT ?_ | refine RI.cChain ?_ | refine RI.cSlice ?_ | refine RI.cKw ?_ | refine RI.cLc ?_ | refine RI.cLc2 ?_ | refine RI.cRgL1 ?_ | refine RI.cRgL2 ?_ | refine RI.cMeth ?_ | refine RI.mAttrF rfl rfl rfl ?_ | refine RI.cCall ?_ | refine RI.gIxO (by assumption) rfl ?_ | refine RI.gIxT rfl ?_ | refine RI.gIxL rfl ?_ | refine RI.gIx0 ?_ | refine RI.gAddI ?_ | refine RI.gSub ?_ | refine RI.gLt ?_ | refine RI.gLe ?_ | refine RI.gGt ?_ | refine RI.gGe ?_ | refine RI.gNeg ?_ | refine RI.eqI0 ?_ | refine RI.eqI1 ?_ | refine RI.bLenT ?_ | refine RI.bLenL ?_ | refine RI.bLenS ?_ | refine RI.bInt ?_ | refine RI.bIntB ?_ | refine RI.bTupL ?_ | refine RI.bTupT ?_ | refine RI.bLstT ?_ | refine RI.bLstL ?_ | refine RI.mCutT ?_ | refine RI.mCutL ?_ | refine RI.isiTup ?_ | refine RI.isiInt ?_ | refine RI.isiIntB ?_ | refine RI.bLenO (by assumption) ?_ | refine RI.gMul (by first | exact R.mulR rfl | exact R.mulL rfl | exact R.mulB (by omega) (by omega)) ?_ | refine RI.gFdiv (by first | assumption | rfl | decide | omega) (by first | assumption | rfl | decide | omega) ?_ | refine RI.gMod (by first | assumption | rfl | decide | omega) ?_ | refine RI.gPow rfl ?_ | (refine RI.mTup ?_ ?_; (focus (simp [lim]; done))) | (refine RI.mLst ?_ ?_; (focus (simp [lim]; done))) | (refine RI.mNew ?_ ?_; (focus (simp [lim]; done))) | refine RI.min2 ?_ | refine RI.max2 ?_ | refine RI.isN0 ?_ | refine RI.isNI ?_ | refine RI.isNN0 ?_ | refine RI.isNNI ?_ | refine RI.mRevL ?_ | refine RI.cCall0 ?_ | refine RI.cRepL ?_ | refine RI.use (isnum _ _ _ _ _) ?_ | refine at_width ?_ | refine at_height ?_ | refine at_most ?_ | refine at_fall ?_ | refine len_pl (by assumption) ?_ | refine RI.lenT ?_ | refine RI.lenL ?_ | refine RI.lenS ?_ | refine RI.lenO (by assumption) ?_ | refine RI.use (check_depths (by assumption) (by assumption)) ?_ | refine RI.use (are_depths (by assumption) (by assumption)) ?_ | refine pl_mk (by assumption) ?_ | refine RI.use (check_tones (by assumption) (by assumption)) ?_ | refine RI.use (are_seen (by omega)) ?_ | refine RI.use (shifts_ofR (by assumption) (by assumption) (by assumption) (by assumption)) ?_ | refine RI.use (partedR (by assumption) (by assumption) (by assumption)) ?_ | refine RI.use (shifts_of (by assumption) (by assumption) (by assumption) (by assumption)) ?_ | refine RI.use (parted (by assumption) (by assumption) (by assumption)) ?_ | refine RI.use (fewest_plates (by assumption) (by assumption) (by omega) (by assumption)) ?_)
  | (refine RI.idL ?_; first | refine RI.aNil ?_ | refine RI.aCons ?_ | refine RI.aStar ?_ | refine RI.iSeq ?_ | refine RI.mItT ?_ | refine RI.mItL ?_ | refine RI.iRg1 ?_ | refine RI.iRg2 ?_ | refine RI.iEn ?_ | refine RI.mEnuT ?_ | refine RI.mEnuL ?_ | refine RI.iZp ?_ | refine RI.mZipT ?_ | refine RI.mZipL ?_ | refine RI.mSeqT ?_ | refine RI.mSeqL ?_ | refine RI.iRg3 ?_)
  | (refine RI.idB ?_; first | refine RI.cTest ?_ | refine RI.cTru ?_ | refine RI.cAnd ?_ | refine RI.cOr ?_ | refine RI.cNot ?_ | refine RI.cYes ?_ | refine RI.mTruB ?_ | refine RI.mTruI ?_ | refine RI.mTruT ?_ | refine RI.mTruL ?_ | refine RI.mTruN ?_)
  | refine RI.qnxS (by simp only [List.set_cons_succ, List.set_cons_zero]; exact rfl) ?_
  | refine RI.qnxP (by simp only [putE, List.set_cons_succ, List.set_cons_zero]; exact rfl) ?_
  | refine RI.qnx ?_
  | refine R.qrt ?_
  | refine R.qbk ?_
  | refine R.qct ?_
  | refine R.frt ?_
  | refine R.fnx ?_
  | refine R.brT ?_
  | refine R.brF ?_
  | refine R.brNT ?_
  | refine R.brNF ?_
  | refine RI.oNone ?_
  | refine RI.oSome ?_
  | refine RI.now ?_
  | refine R.isBl ?_
  | refine R.isInt ?_
  | refine R.isI1 ?_
  | refine R.isI2 ?_
  | refine R.len rfl ?_
  | refine R.chk (by first | assumption | exact tyOkL (by assumption) | decide +kernel | exact R.inRB (by omega) (by omega) | exact R.rgB (by omega) (by omega) (by omega) (by omega) | (simp only [List.length_map, List.length_cons, List.length_nil, List.length_replicate, rgT_length, rgI_length]; first | exact R.inRB (by omega) (by omega) | exact R.rgB (by omega) (by omega) (by omega) (by omega))) ?_
  | refine R.bnd rfl ?_
  | refine R.stA rfl ?_
  | refine R.brF2 ?_
  | refine R.brT2 ?_
  | refine R.brF3 ?_
  | refine R.brT3 ?_
  | refine R.br1 (by (try simp only [Bool.and_eq_true, Bool.or_eq_true, Bool.and_eq_false_iff, Bool.or_eq_false_iff, Bool.not_eq_false', Bool.not_eq_true', decide_eq_true_eq, decide_eq_false_iff_not, List.length_map, List.length_cons, List.length_nil, rgT_length]); omega) ?_
  | refine R.br0 (by (try simp only [Bool.and_eq_true, Bool.or_eq_true, Bool.and_eq_false_iff, Bool.or_eq_false_iff, Bool.not_eq_false', Bool.not_eq_true', decide_eq_true_eq, decide_eq_false_iff_not, List.length_map, List.length_cons, List.length_nil, rgT_length]); omega) ?_)
section
variable {ns : List Int} {n : Nat} {μ : Store} {k : Nat} {w h m : Int} {f : Option Int}
theorem falls4 {r : Int} (h0 : 0 ≤ r) (h1 : r < 4) : ∃ o : Option Int, atI [T.non, .non, .int 1, .int 2] r = some (oT o) ∧ ∀ x, o = some x → 1 ≤ x ∧ x ≤ 9 := by
  rcases (show r = 0 ∨ r = 1 ∨ r = 2 ∨ r = 3 by omega) with rfl | rfl | rfl | rfl
  · exact ⟨none, rfl, fun x z => nomatch z⟩
  · exact ⟨none, rfl, fun x z => nomatch z⟩
  · exact ⟨some 1, rfl, fun x z => by cases z; omega⟩
  · exact ⟨some 2, rfl, fun x z => by cases z; omega⟩
theorem pl_of {w h m : Int} {o : Option Int} (w1 : 1 ≤ w) (w3 : w ≤ 3) (h1 : 1 ≤ h) (h3 : h ≤ 2 ∨ w = 3 ∧ h ≤ 3) (m1 : 2 ≤ m) (m6 : m ≤ 6) (ho : ∀ x, o = some x → 1 ≤ x ∧ x ≤ 9) : PlOk w h m o ∧ (w * h = 1 ∨ w * h = 2 ∨ w * h = 3 ∨ w * h = 4 ∨ w * h = 6 ∨ w * h = 9) := by
  rcases (show w = 1 ∨ w = 2 ∨ w = 3 by omega) with rfl | rfl | rfl
  · exact ⟨⟨by omega, by omega, by omega, by omega, by omega, by omega, by omega, by omega, ho⟩, by omega⟩
  · exact ⟨⟨by omega, by omega, by omega, by omega, by omega, by omega, by omega, by omega, ho⟩, by omega⟩
  · exact ⟨⟨by omega, by omega, by omega, by omega, by omega, by omega, by omega, by omega, ho⟩, by omega⟩
/-- a plate is drawn -/
theorem lawplate (b : Bool) (hr : Row ns n μ) : OkI (Ph tab (k + 3) 22 [.obj n, .bl b] μ) (fun t μ' => ∃ w h m f, t = plT w h m f ∧ PlOk w h m f ∧ 2 ≤ m ∧ m ≤ 6 ∧ w ≤ 3 ∧ h ≤ 3 ∧ (b = true → f = none) ∧ (w * h = 1 ∨ w * h = 2 ∨ w * h = 3 ∨ w * h = 4 ∨ w * h = 6 ∨ w * h = 9) ∧ Row ns n μ' ∧ Oth n μ μ') (fun _ _ => False) := by
  refine stat (ph__law_plate (k + 2)) (by simp only [cleans_cons, clean_obj, Bool.false_and, Bool.and_false]) ?_
  refine fd__law_plate ?_
  unfold b22
  repeat decreasing_trivial_pre_omega
  refine (taken _ hr (m := 4) (by omega) (by omega)).imp fun t μ1 ⟨r1, e1, a1, b1, hr1, g1⟩ => ?_
  subst e1
  obtain ⟨o, ho, ho2⟩ := falls4 a1 b1
  refine RI.gIxL ho ?_
  repeat decreasing_trivial_pre_omega
  refine (taken _ hr1 (m := 3) (by omega) (by omega)).imp fun t μ2 ⟨r2, e2, a2, b2, hr2, g2⟩ => ?_
  subst e2
  repeat decreasing_trivial_pre_omega
  refine (taken _ hr2 (m := 2 + if decide (1 + r2 = 3) = true then 1 else 0) (by split <;> omega) (by split <;> omega)).imp fun t μ3 ⟨r3, e3, a3, b3, hr3, g3⟩ => ?_
  subst e3
  repeat decreasing_trivial_pre_omega
  refine (taken _ hr3 (m := 5) (by omega) (by omega)).imp fun t μ4 ⟨r4, e4, a4, b4, hr4, g4⟩ => ?_
  subst e4
  have hq : 1 + r3 ≤ 2 ∨ 1 + r2 = 3 ∧ 1 + r3 ≤ 3 := by
    by_cases z : 1 + r2 = 3
    · rw [if_pos (by simpa using z)] at b3; omega
    · rw [if_neg (by simpa using z)] at b3; omega
  have hx : Oth n μ μ4 := ((g1.trans g2).trans g3).trans g4
  cases b with
  | false =>
    obtain ⟨p, hn⟩ := pl_of (w := 1 + r2) (h := 1 + r3) (m := 2 + r4) (o := o) (by omega) (by omega) (by omega) hq (by omega) (by omega) ho2
    repeat decreasing_trivial_pre_omega
    exact ⟨_, _, _, _, rfl, p, by omega, by omega, by omega, by omega, (fun z => by cases z), hn, hr4, hx⟩
  | true =>
    obtain ⟨p, hn⟩ := pl_of (w := 1 + r2) (h := 1 + r3) (m := 2 + r4) (o := none) (by omega) (by omega) (by omega) hq (by omega) (by omega) (fun x z => nomatch z)
    repeat decreasing_trivial_pre_omega
    exact ⟨_, _, _, _, rfl, p, by omega, by omega, by omega, by omega, fun _ => rfl, hn, hr4, hx⟩
/-- depths are drawn -/
theorem lawdepths (p : PlOk w h m f) (hr : Row ns n μ) : OkI (Ph tab (k + 2) 23 [.obj n, plT w h m f] μ) (fun t μ' => ∃ ds, t = rowT ds ∧ DpOk w h m ds ∧ Row ns n μ' ∧ Oth n μ μ') (fun _ _ => False) := by
  refine stat (ph__law_depths (k + 1)) (by simp only [cleans_cons, clean_obj, Bool.false_and, Bool.and_false]) ?_
  have h9 := p.n9
  have h1 := p.n1
  have m1 := p.m1
  have m9 := p.m9
  refine fd__law_depths ?_
  unfold b23
  repeat decreasing_trivial_pre_omega
  refine RI.lcI (J := fun j acc μ' => Oth n μ μ' ∧ Row ns n μ' ∧ ∃ ds : List Int, acc = ds.map T.int ∧ ds.length = j ∧ ∀ d ∈ ds, 0 ≤ d ∧ d ≤ m) ⟨Oth.refl, hr, [], rfl, rfl, by simp⟩ ?_ (fun j t acc μ1 e hJ => ?_) fun acc μ1 hJ => ?_
  · rw [rgT_length]; show _ ≤ 16777216; omega
  · obtain ⟨hO, hR, ds, rfl, hl, hd⟩ := hJ
    refine RI.lcTN rfl (by first | (simp only [wipeE, putE, List.set_cons_succ, List.set_cons_zero]; exact rfl) | rfl) ?_
    repeat decreasing_trivial_pre_omega
    refine (taken _ hR (m := m + 1) (by omega) (by omega)).imp fun t μ2 ⟨r, e2, a2, b2, hr2, g2⟩ => ?_
    subst e2
    refine ⟨hO.trans g2, hr2, ds ++ [r], by simp, by simp [hl], fun d hd' => ?_⟩
    rcases List.mem_append.mp hd' with z | z
    · exact hd d z
    · have : d = r := by simpa using z
      omega
  · obtain ⟨hO, hR, ds, rfl, hl, hd⟩ := hJ
    rw [rgT_length] at hl
    repeat decreasing_trivial_pre_omega
    exact ⟨ds, rfl, ⟨by omega, hd⟩, hR, hO⟩
end

section
variable {w h m : Int} {ds one other : List Int} {rows : List (List Int × Int × Int)}
theorem ov_rev : ovF w h rows.reverse = ovF w h rows := by
  unfold ovF togF
  refine List.map_congr_left fun i _ => ?_
  have : ((rows.reverse.map fun r => shiftF w h r.1 r.2.1 r.2.2).map fun r => r.getD i.toNat 0).sum = ((rows.map fun r => shiftF w h r.1 r.2.1 r.2.2).map fun r => r.getD i.toNat 0).sum := by
    rw [List.map_reverse, List.map_reverse, List.sum_reverse]
  rw [this]
theorem ov_nil (h0 : 0 ≤ w * h) : ovF w h [] = List.replicate (w * h).toNat 0 := by
  refine eq_of_getD (by unfold ovF; rw [togF_len, List.length_replicate]) fun i hi => ?_
  unfold ovF at hi ⊢
  rw [togF_len] at hi
  rw [togF_get hi, rep_getD]
  rfl
theorem ov_len : (ovF w h rows).length = (w * h).toNat := by unfold ovF; exact togF_len
theorem ov_snoc {x : List Int × Int × Int} (hx : ∀ d ∈ x.1, 0 ≤ d) (hw : 1 ≤ w) (hh : 1 ≤ h) {i : Nat} (hi : i < (w * h).toNat) : (ovF w h rows).getD i 0 ≤ (ovF w h (rows ++ [x])).getD i 0 := by
  unfold ovF
  rw [togF_get hi, togF_get hi, List.map_append, List.map_append, List.sum_append]
  simp only [List.map_cons, List.map_nil, List.sum_cons, List.sum_nil, Int.add_zero]
  have : 0 ≤ (shiftF w h x.1 x.2.1 x.2.2).getD i 0 := by
    rw [shiftF_get hw hh hi]
    exact cellS_nn hx _ _
  split <;> split <;> omega
theorem ov_away {x : List Int} (hw : 1 ≤ w) (hh : 1 ≤ h) (h3 : h ≤ 3) : ovF w h (rows ++ [(x, 3, -3)]) = ovF w h rows := by
  refine eq_of_getD (by rw [ov_len, ov_len]) fun i hi => ?_
  rw [ov_len] at hi
  unfold ovF
  rw [togF_get hi, togF_get hi, List.map_append, List.map_append, List.sum_append]
  simp only [List.map_cons, List.map_nil, List.sum_cons, List.sum_nil, Int.add_zero]
  have : (shiftF w h x 3 (-3)).getD i 0 = 0 := by
    rw [shiftF_get hw hh hi]
    have hi2 : i < h.toNat * w.toNat := by rw [nat_mul (by omega) (by omega)]; exact hi
    have h2 : i / w.toNat < h.toNat := Nat.div_lt_of_lt_mul (by rw [Nat.mul_comm]; exact hi2)
    generalize i / w.toNat = a at h2 ⊢
    unfold cellS
    rw [if_neg (by omega)]
  rw [this, Int.add_zero]
/-- both plates: what is left for the second one -/
theorem part_get {s d : List Int} {i : Nat} (hl : s.length = d.length) (hi : i < d.length) : (partF (s.map some) d).getD i 0 = if s.getD i 0 - d.getD i 0 > 0 then s.getD i 0 - d.getD i 0 else 0 := by
  unfold partF
  rw [List.getD_eq_getElem?_getD, List.getElem?_map]
  have e : ((s.map some).zip d)[i]? = some (some (s.getD i 0), d.getD i 0) := by
    rw [List.getElem?_zip_eq_some, List.getElem?_map, List.getD_eq_getElem?_getD, List.getD_eq_getElem?_getD, List.getElem?_eq_getElem hi, List.getElem?_eq_getElem (show i < s.length by omega)]
    exact ⟨rfl, rfl⟩
  rw [e]
  rfl
structure Two (w h m : Int) (one other : List Int) : Prop where
  w1 : 1 ≤ w
  h1 : 1 ≤ h
  m9 : m ≤ 9
  m1 : 1 ≤ m
  d1 : DpOk w h m one
  d2 : DpOk w h m other
theorem Two.nn (q : Two w h m one other) : 0 ≤ w * h := Int.mul_nonneg (by have := q.w1; omega) (by have := q.h1; omega)
theorem part_both (q : Two w h m one other) : ∀ i : Nat, i < (w * h).toNat → (partF ((togF [one, other] (w * h)).map some) one).getD i 0 = (if one.getD i 0 + other.getD i 0 < 9 then one.getD i 0 + other.getD i 0 else 9) - one.getD i 0 ∧ 0 ≤ one.getD i 0 ∧ 0 ≤ other.getD i 0 ∧ one.getD i 0 ≤ m ∧ other.getD i 0 ≤ m := by
  intro i hi
  have hl := q.d1.len
  have hn := q.nn
  have a1 := getD_nn (fun d hd => (q.d1.rng d hd).1) i
  have a2 := getD_nn (fun d hd => (q.d2.rng d hd).1) i
  have b1 := getD_le (show 0 ≤ m by have := q.m1; omega) (fun d hd => (q.d1.rng d hd).2) i
  have b2 := getD_le (show 0 ≤ m by have := q.m1; omega) (fun d hd => (q.d2.rng d hd).2) i
  rw [part_get (by rw [togF_len]; omega) (by omega), tog2_get hi]
  have := q.m9
  refine ⟨?_, a1, a2, b1, b2⟩
  split <;> (split <;> omega)
theorem part_len (q : Two w h m one other) : (partF ((togF [one, other] (w * h)).map some) one).length = (w * h).toNat := by
  have hl := q.d1.len
  have hn := q.nn
  rw [partF_len (by rw [List.length_map, togF_len]; omega)]
  omega
theorem part_dp (q : Two w h m one other) : DpOk w h m (partF ((togF [one, other] (w * h)).map some) one) := by
  have hpl := part_len q
  have hn := q.nn
  refine ⟨by rw [hpl]; omega, fun d hd => ?_⟩
  obtain ⟨i, hi⟩ := List.mem_iff_getElem?.mp hd
  have hlt := (List.getElem?_eq_some_iff.mp hi).1
  have := part_both q i (by omega)
  rw [List.getD_eq_getElem?_getD, hi] at this
  simp only [Option.getD_some] at this
  have h9 := q.m9
  split at this <;> omega
theorem tog_part (q : Two w h m one other) : togF [one, partF ((togF [one, other] (w * h)).map some) one] (w * h) = togF [one, other] (w * h) := by
  refine eq_of_getD (by rw [togF_len, togF_len]) fun i hi => ?_
  rw [togF_len] at hi
  obtain ⟨e, _⟩ := part_both q i hi
  rw [tog2_get hi, tog2_get hi, e]
  split <;> split <;> omega
theorem partO_both (q : Two w h m one other) : partO w h m ((togF [one, other] (w * h)).map some) one = some (partF ((togF [one, other] (w * h)).map some) one) := by
  unfold partO
  rw [if_pos]
  refine ⟨fun d hd => ((part_dp q).rng d hd).2, ?_⟩
  rw [tog_part q]
  exact (seen_row _ _ rfl).mpr rfl
theorem part_not_gt (q : Two w h m one other) : ¬ other < partF ((togF [one, other] (w * h)).map some) one := by
  have hpl := part_len q
  have hn := q.nn
  have h2 := q.d2.len
  refine not_lt_of_le (by omega) fun i => ?_
  by_cases hi : i < (w * h).toNat
  · obtain ⟨e, a, b, c, d⟩ := part_both q i hi
    rw [e]
    split <;> omega
  · rw [List.getD_eq_getElem?_getD, List.getElem?_eq_none (by omega), List.getD_eq_getElem?_getD, List.getElem?_eq_none (by omega)]
    exact Int.le_refl _
theorem both_sn (q : Two w h m one other) : SnOk (w * h) ((togF [one, other] (w * h)).map some) := sn_row (by rw [togF_len]; have := q.nn; omega) (togF_rng fun r hr d hd => by
  rcases List.mem_cons.mp hr with rfl | hr
  · exact (q.d1.rng d hd).1
  · have : r = other := by simpa using hr
    subst this
    exact (q.d2.rng d hd).1)
theorem tog_zero (q : Two w h m one other) {z : List Int} (hz : ∀ i : Nat, z.getD i 0 = 0) : togF [one, z] (w * h) = one := by
  have hl := q.d1.len
  have hn := q.nn
  refine eq_of_getD (by rw [togF_len]; omega) fun i hi => ?_
  rw [togF_len] at hi
  rw [tog2_get hi, hz, Int.add_zero]
  have b1 := getD_le (show 0 ≤ m by have := q.m1; omega) (fun d hd => (q.d1.rng d hd).2) i
  have := q.m9
  split <;> omega
theorem shift_zero (hw : 1 ≤ w) (hh : 1 ≤ h) (n : Nat) (dn rt : Int) (i : Nat) : (shiftF w h (List.replicate n 0) dn rt).getD i 0 = 0 := by
  by_cases hi : i < (w * h).toNat
  · rw [shiftF_get hw hh hi]
    unfold cellS
    split
    · exact rep_getD _ _
    · rfl
  · rw [List.getD_eq_getElem?_getD, List.getElem?_eq_none (by rw [shiftF_len (by omega) (by omega)]; omega)]
    rfl
theorem sh_all (q : Two w h m one other) (n : Nat) : (shF w h one (List.replicate n 0) (one.map some)).length = 49 := by
  have e : ∀ d r : Int, shB w h one (List.replicate n 0) (one.map some) d r = true := fun d r => by
    unfold shB
    rw [tog_zero q (shift_zero q.w1 q.h1 n d r)]
    exact (seen_row _ _ rfl).mpr rfl
  unfold shF
  have e2 : (fun d => ((rgI (-3) 4).filter fun r => shB w h one (List.replicate n 0) (one.map some) d r).map fun r => [d, r]) = fun d => (rgI (-3) 4).map fun r => [d, r] := funext fun d => by
    rw [List.filter_eq_self.mpr fun r _ => e d r]
  rw [e2, flat_len, rgI_length]
  rfl
theorem sh_00 (q : Two w h m one other) : [0, 0] ∈ shF w h one other ((togF [one, other] (w * h)).map some) := by
  unfold shF
  rw [List.mem_flatMap]
  refine ⟨0, by rw [mem_rgI]; omega, List.mem_map.mpr ⟨0, ?_, rfl⟩⟩
  rw [List.mem_filter]
  refine ⟨by rw [mem_rgI]; omega, ?_⟩
  unfold shB
  rw [shift0 q.w1 q.h1 q.d2.len]
  exact (seen_row _ _ rfl).mpr rfl
theorem sh_mem {s : List (Option Int)} {x : List Int} (hx : x ∈ shF w h one other s) : ∃ d r, x = [d, r] ∧ -3 ≤ d ∧ d ≤ 3 ∧ -3 ≤ r ∧ r ≤ 3 ∧ shB w h one other s d r = true := by
  unfold shF at hx
  rw [List.mem_flatMap] at hx
  obtain ⟨d, hd, hx⟩ := hx
  obtain ⟨r, hr, rfl⟩ := List.mem_map.mp hx
  rw [List.mem_filter] at hr
  rw [mem_rgI] at hd hr
  exact ⟨d, r, rfl, by omega, by omega, by omega, by omega, hr.2⟩
/-! the fewest plates -/
theorem fewO_some {l : List (List Int)} {g : List Int} (hg : g ∈ l) : ∃ m, fewO l = some m ∧ m ∈ l ∧ ∀ y ∈ l, shLe m y := by
  cases l with
  | nil => simp at hg
  | cons a l =>
    obtain ⟨h1, h2⟩ := leastF_of a l
    exact ⟨_, rfl, h1, h2⟩
theorem fewO_mem {l : List (List Int)} {g : List Int} (hg : fewO l = some g) : g ∈ l := by
  cases l with
  | nil => cases hg
  | cons a l =>
    cases hg
    exact (leastF_of a l).1
theorem shLe_len {a b : List Int} (h : shLe a b) : a.length ≤ b.length := by
  unfold shLe lrLe at h
  simp only at h
  omega
theorem few_mem {cs : List (List Int)} {r g : List Int} (hr : (r.length : Int) = w * h) (h0 : 0 ≤ w * h) : g ∈ fewG w h cs (r.map some) ↔ g ∈ chs (rgI 0 cs.length) ∧ togF (g.map fun i => cs.getD i.toNat []) (w * h) = r := by
  unfold fewG
  rw [List.mem_filter, seen_row _ _ (by rw [togF_len]; omega)]
theorem tog_nil : togF [] (w * h) = List.replicate (w * h).toNat 0 := by
  refine eq_of_getD (by rw [togF_len, List.length_replicate]) fun i hi => ?_
  rw [togF_len] at hi
  rw [togF_get hi, rep_getD]
  rfl
theorem few_zero {cs : List (List Int)} (h0 : 0 ≤ w * h) : fewO (fewG w h cs ((List.replicate (w * h).toNat (0 : Int)).map some)) = some [] := by
  obtain ⟨m, e, _, hm⟩ := fewO_some (l := fewG w h cs ((List.replicate (w * h).toNat (0 : Int)).map some)) (g := []) ((few_mem (by rw [List.length_replicate]; omega) h0).mpr ⟨chs_nil _, tog_nil⟩)
  have := shLe_len (hm [] ((few_mem (by rw [List.length_replicate]; omega) h0).mpr ⟨chs_nil _, tog_nil⟩))
  rw [e, List.eq_nil_of_length_eq_zero (l := m) (by simpa using this)]
theorem part_self (q : Two w h m one other) : partO w h m (one.map some) one = some (List.replicate (w * h).toNat 0) := by
  have hl := q.d1.len
  have hn := q.nn
  have e : partF (one.map some) one = List.replicate (w * h).toNat 0 := by
    refine eq_of_getD (by rw [partF_len (by rw [List.length_map]), List.length_replicate]; omega) fun i hi => ?_
    rw [partF_len (by rw [List.length_map])] at hi
    rw [part_get rfl hi, rep_getD]
    split <;> omega
  unfold partO
  rw [e, if_pos]
  refine ⟨fun d hd => ?_, ?_⟩
  · have := (List.mem_replicate.mp hd).2
    have := q.m1
    omega
  · rw [tog_zero q fun i => rep_getD _ i]
    exact (seen_row _ _ rfl).mpr rfl
/-- both, by three plates of which they are the first two -/
theorem few_three (q : Two w h m one other) (third : List Int) : ∃ t, fewO (fewG w h [one, other, third] ((togF [one, other] (w * h)).map some)) = some t ∧ t.length ≤ 2 ∧ t ∈ chs (rgI 0 3) ∧ togF (t.map fun i => [one, other, third].getD i.toNat []) (w * h) = togF [one, other] (w * h) ∧
    (t.length = 2 → fewO (fewG w h [one, other] ((togF [one, other] (w * h)).map some)) = some [0, 1]) := by
  have hn := q.nn
  have hb : ((togF [one, other] (w * h)).length : Int) = w * h := by rw [togF_len]; omega
  have m01 : [0, 1] ∈ fewG w h [one, other, third] ((togF [one, other] (w * h)).map some) := (few_mem hb hn).mpr ⟨by show [0, 1] ∈ chs (rgI 0 3); decide, rfl⟩
  have n01 : [0, 1] ∈ fewG w h [one, other] ((togF [one, other] (w * h)).map some) := (few_mem hb hn).mpr ⟨by show [0, 1] ∈ chs (rgI 0 2); decide, rfl⟩
  obtain ⟨t, e, ht, hm⟩ := fewO_some m01
  obtain ⟨u, e2, hu, hm2⟩ := fewO_some n01
  have hl := shLe_len (hm _ m01)
  obtain ⟨h1, h2⟩ := (few_mem hb hn).mp ht
  refine ⟨t, e, hl, h1, h2, fun ht2 => ?_⟩
  obtain ⟨g1, g2⟩ := (few_mem hb hn).mp hu
  have ec : chs (rgI 0 2) = [[], [0], [0, 1], [1]] := by decide
  have g1' : u ∈ chs (rgI 0 2) := g1
  rw [ec] at g1'
  have key : u.length < 2 → u ∈ fewG w h [one, other, third] ((togF [one, other] (w * h)).map some) := fun hlt => by
    refine (few_mem hb hn).mpr ⟨?_, ?_⟩
    · show u ∈ chs (rgI 0 3)
      simp only [List.mem_cons, List.mem_nil_iff, or_false] at g1'
      rcases g1' with rfl | rfl | rfl | rfl <;> decide
    · rw [← g2]
      simp only [List.mem_cons, List.mem_nil_iff, or_false] at g1'
      rcases g1' with rfl | rfl | rfl | rfl <;> rfl
  rw [e2]
  congr 1
  by_cases hlt : u.length < 2
  · have := shLe_len (hm _ (key hlt))
    omega
  · simp only [List.mem_cons, List.mem_nil_iff, or_false] at g1'
    rcases g1' with rfl | rfl | rfl | rfl
    · simp at hlt
    · simp at hlt
    · rfl
    · simp at hlt
end
end
end Lw

namespace Lw
open PySem L2 Tw


theorem ph__law_are_shifted (k : Nat) : Ph tab (k + 1) 24 = pureC (I.fnD 13 (b24 (Ph tab k))) := by rw [I.fnD_eq, Ph_succ]; rfl
theorem fd__law_are_shifted {s : Tw.Env → M Out} {a0 a1 a2 a3 : T} {μ : Store} {P : T → Store → Prop} {E : Exc → Store → Prop} (h : OkI (s [some a0, some a1, some a2, some a3, none, none, none, none, none, none, none, none, none] μ) (R.fnQ P E) fun _ _ => False) : OkI (I.fnD 13 s [a0, a1, a2, a3] μ) P E := RI.fnD h
section
local macro_rules | `(tactic| decreasing_trivial_pre_omega) => `(tactic| first
  | (refine RI.idO ?_; first | refine RI.sNil ?_ | refine RI.sSeqG fun R hR => ?_ | refine RI.sSet ?_ | refine RI.sRet ?_ | refine RI.sRetN ?_ | refine RI.sExpr ?_ | refine RI.sIf ?_ | refine RI.sPass ?_ | refine RI.sBreak ?_ | refine RI.sCont ?_ | refine RI.sStore ?_ | refine RI.sPar ?_ | refine RI.sFor ?_ | refine RI.setA ?_ | refine RI.asg ?_ | refine RI.sFrzL rfl (by assumption) (by simp only [List.set_cons_succ, List.set_cons_zero]; exact rfl) ?_ | refine RI.goR (by assumption) ?_)
  | (refine RI.idT ?_; first | refine RI.cVar rfl ?_ | refine RI.cK ?_ | refine RI.c1 ?_ | refine RI.c2 ?_ | refine RI.cN ?_ | refine RI.cIf ?_ | refine RI.cAndT ?_ | refine RI.cOrT ?_ | refine RI.cNotT ?_ | refine RI.cChain ?_ | refine RI.cSlice ?_ | refine RI.cKw ?_ | refine RI.cLc ?_ | refine RI.cLc2 ?_ | refine RI.cRgL1 ?_ | refine RI.cRgL2 ?_ | refine RI.cMeth ?_ | refine RI.mAttrF rfl rfl rfl ?_ | refine RI.cCall ?_ | refine RI.gIxO (by assumption) rfl ?_ | refine RI.gIxT rfl ?_ | refine RI.gIxL rfl ?_ | refine RI.gIx0 ?_ | refine RI.gAddI ?_ | refine RI.gSub ?_ | refine RI.gLt ?_ | refine RI.gLe ?_ | refine RI.gGt ?_ | refine RI.gGe ?_ | refine RI.gNeg ?_ | refine RI.eqI0 ?_ | refine RI.eqI1 ?_ | refine RI.bLenT ?_ | refine RI.bLenL ?_ | refine RI.bLenS ?_ | refine RI.bInt ?_ | refine RI.bIntB ?_ | refine RI.bTupL ?_ | refine RI.bTupT ?_ | refine RI.bLstT ?_ | refine RI.bLstL ?_ | refine RI.mCutT ?_ | refine RI.mCutL ?_ | refine RI.isiTup ?_ | refine RI.isiInt ?_ | refine RI.isiIntB ?_ | refine RI.bLenO (by assumption) ?_ | refine RI.gMul (by first | exact R.mulR rfl | exact R.mulL rfl | exact R.mulB (by omega) (by omega)) ?_ | refine RI.gFdiv (by first | assumption | rfl | decide | omega) (by first | assumption | rfl | decide | omega) ?_ | refine RI.gMod (by first | assumption | rfl | decide | omega) ?_ | refine RI.gPow rfl ?_ | (refine RI.mTup ?_ ?_; (focus (simp [lim]; done))) | (refine RI.mLst ?_ ?_; (focus (simp [lim]; done))) | (refine RI.mNew ?_ ?_; (focus (simp [lim]; done))) | refine RI.min2 ?_ | refine RI.max2 ?_ | refine RI.isN0 ?_ | refine RI.isNI ?_ | refine RI.isNN0 ?_ | refine RI.isNNI ?_ | refine RI.mRevL ?_ | refine RI.cCall0 ?_ | refine RI.cRepL ?_ | refine RI.use (isnum _ _ _ _ _) ?_ | refine at_width ?_ | refine at_height ?_ | refine at_most ?_ | refine at_fall ?_ | refine len_pl (by assumption) ?_ | refine RI.lenT ?_ | refine RI.lenL ?_ | refine RI.lenS ?_ | refine RI.lenO (by assumption) ?_ | refine RI.use (check_depths (by assumption) (by assumption)) ?_ | refine RI.use (are_depths (by assumption) (by assumption)) ?_ | refine pl_mk (by assumption) ?_ | refine RI.use (check_tones (by assumption) (by assumption)) ?_ | refine RI.use (are_seen (by omega)) ?_ | refine RI.use (shifts_ofR (by assumption) (by assumption) (by assumption) (by assumption)) ?_ | refine RI.use (partedR (by assumption) (by assumption) (by assumption)) ?_ | refine RI.use (shifts_of (by assumption) (by assumption) (by assumption) (by assumption)) ?_ | refine RI.use (parted (by assumption) (by assumption) (by assumption)) ?_ | refine RI.use (fewest_plates (by assumption) (by assumption) (by omega) (by assumption)) ?_)
  | (refine RI.idL ?_; first | refine RI.aNil ?_ | refine RI.aCons ?_ | refine RI.aStar ?_ | refine RI.iSeq ?_ | refine RI.mItT ?_ | refine RI.mItL ?_ | refine RI.iRg1 ?_ | refine RI.iRg2 ?_ | refine RI.iEn ?_ | refine RI.mEnuT ?_ | refine RI.mEnuL ?_ | refine RI.iZp ?_ | refine RI.mZipT ?_ | refine RI.mZipL ?_ | refine RI.mSeqT ?_ | refine RI.mSeqL ?_ | refine RI.iRg3 ?_)
  | (refine RI.idB ?_; first | refine RI.cTest ?_ | refine RI.cTru ?_ | refine RI.cAnd ?_ | refine RI.cOr ?_ | refine RI.cNot ?_ | refine RI.cYes ?_ | refine RI.mTruB ?_ | refine RI.mTruI ?_ | refine RI.mTruT ?_ | refine RI.mTruL ?_ | refine RI.mTruN ?_)
  | refine RI.qnxS (by simp only [List.set_cons_succ, List.set_cons_zero]; exact rfl) ?_
  | refine RI.qnxP (by simp only [putE, List.set_cons_succ, List.set_cons_zero]; exact rfl) ?_
  | refine RI.qnx ?_
  | refine R.qrt ?_
  | refine R.qbk ?_
  | refine R.qct ?_
  | refine R.frt ?_
  | refine R.fnx ?_
  | refine R.brT ?_
  | refine R.brF ?_
  | refine R.brNT ?_
  | refine R.brNF ?_
  | refine RI.oNone ?_
  | refine RI.oSome ?_
  | refine RI.now ?_
  | refine R.isBl ?_
  | refine R.isInt ?_
  | refine R.isI1 ?_
  | refine R.isI2 ?_
  | refine R.len rfl ?_
  | refine R.chk (by first | assumption | exact tyOkL (by assumption) | decide +kernel | exact R.inRB (by omega) (by omega) | exact R.rgB (by omega) (by omega) (by omega) (by omega) | (simp only [List.length_map, List.length_cons, List.length_nil, List.length_replicate, rgT_length, rgI_length]; first | exact R.inRB (by omega) (by omega) | exact R.rgB (by omega) (by omega) (by omega) (by omega))) ?_
  | refine R.bnd rfl ?_
  | refine R.stA rfl ?_
  | refine R.brF2 ?_
  | refine R.brT2 ?_
  | refine R.brF3 ?_
  | refine R.brT3 ?_
  | refine R.br1 (by (try simp only [Bool.and_eq_true, Bool.or_eq_true, Bool.and_eq_false_iff, Bool.or_eq_false_iff, Bool.not_eq_false', Bool.not_eq_true', decide_eq_true_eq, decide_eq_false_iff_not, List.length_map, List.length_cons, List.length_nil, rgT_length]); omega) ?_
  | refine R.br0 (by (try simp only [Bool.and_eq_true, Bool.or_eq_true, Bool.and_eq_false_iff, Bool.or_eq_false_iff, Bool.not_eq_false', Bool.not_eq_true', decide_eq_true_eq, decide_eq_false_iff_not, List.length_map, List.length_cons, List.length_nil, rgT_length]); omega) ?_)
section
variable {k : Nat} {w h m : Int} {f : Option Int} {μ : Store} {one other : List Int} {ns : List Int} {n : Nat}
theorem ov00 {c : List Int} (hc : DpOk w h m c) : OvOk w h m (c, 0, 0) := ⟨hc, by simp, by simp, by simp, by simp⟩
theorem ov_two (p : PlOk w h m f) (h1 : DpOk w h m one) (h2 : DpOk w h m other) {d r : Int} (b1 : -3 ≤ d) (b2 : d ≤ 3) (b3 : -3 ≤ r) (b4 : r ≤ 3) : Ph tab (k + 4) 17 [plT w h m f, .lst [.tup [rowT one, .int 0, .int 0], .tup [rowT other, .int d, .int r]]] μ = .ok (rowT (togF [one, shiftF w h other d r] (w * h))) μ := by
  have := overprinted (k := k) (μ := μ) (rows := [(one, 0, 0), (other, d, r)]) p (by simp) (fun q hq => by
    rcases List.mem_cons.mp hq with rfl | hq
    · exact ov00 h1
    · have : q = (other, d, r) := by simpa using hq
      subst this
      exact ⟨h2, b1, b2, b3, b4⟩)
  have e : ovF w h [(one, 0, 0), (other, d, r)] = togF [one, shiftF w h other d r] (w * h) := by
    unfold ovF
    simp only [List.map_cons, List.map_nil]
    rw [shift0 p.w1 p.h1 h1.len]
  rw [e] at this
  exact this
theorem ov_pair (p : PlOk w h m f) (h1 : DpOk w h m one) (h2 : DpOk w h m other) : Ph tab (k + 4) 17 [plT w h m f, .lst [.tup [rowT one, .int 0, .int 0], .tup [rowT other, .int 0, .int 0]]] μ = .ok (rowT (togF [one, other] (w * h))) μ := by
  have := ov_two (k := k) (μ := μ) p h1 h2 (d := 0) (r := 0) (by decide) (by decide) (by decide) (by decide)
  rw [shift0 p.w1 p.h1 h2.len] at this
  exact this
theorem ov_list (p : PlOk w h m f) {cs : List (List Int)} (hl : cs.length ≤ 100) (hc : ∀ c ∈ cs, DpOk w h m c) : Ph tab (k + 4) 17 [plT w h m f, .lst (cs.map fun c => .tup [rowT c, .int 0, .int 0])] μ = .ok (rowT (togF cs (w * h))) μ := by
  have := overprinted (k := k) (μ := μ) (rows := cs.map fun c => (c, 0, 0)) p (by rw [List.length_map]; exact hl) (fun q hq => by
    obtain ⟨c, hc', rfl⟩ := List.mem_map.mp hq
    exact ov00 (hc c hc'))
  rw [ov_plain p.w1 p.h1 fun r hr => (hc r hr).len, List.map_map] at this
  exact this
theorem zeros (n : Nat) : T.tup (List.replicate n (.int 0)) = rowT (List.replicate n 0) := by unfold rowT; rw [List.map_replicate]
theorem dp_zero (p : PlOk w h m f) : DpOk w h m (List.replicate (w * h).toNat 0) := ⟨by rw [List.length_replicate]; have := p.n1; omega, fun d hd => by
  have := (List.mem_replicate.mp hd).2
  have := p.m1
  omega⟩
theorem are_shifted (q : Two w h m one other) (p : PlOk w h m f) (hr : Row ns n μ) : OkI (Ph tab 39 24 [.obj n, plT w h m f, rowT one, rowT other] μ) (fun t μ' => t = .bl true ∧ Row ns n μ' ∧ Oth n μ μ') (fun _ _ => False) := by
  refine stat (ph__law_are_shifted 38) (by simp only [cleans_cons, clean_obj, Bool.false_and, Bool.and_false]) ?_
  have p1 := p.w1
  have p3 := p.h1
  have p5 := p.n9
  have p6 := p.n1
  have h1 := q.d1
  have h2 := q.d2
  have hbs := both_sn q
  have hl1 := h1.len
  have hz := dp_zero p
  have hos : SnOk (w * h) (one.map some) := sn_row hl1 fun d hd => by
    have := h1.rng d hd
    have := q.m9
    omega
  have hzs : SnOk (w * h) ((List.replicate (w * h).toNat (0 : Int)).map some) := sn_row hz.len fun d hd => by
    have := (List.mem_replicate.mp hd).2
    omega
  have eb := row_seen (togF [one, other] (w * h))
  refine fd__law_are_shifted ?_
  unfold b24
  repeat decreasing_trivial_pre_omega
  refine RI.gMulT (by omega) (by omega) ?_
  repeat decreasing_trivial_pre_omega
  refine RI.use (ov_pair p h1 h2) ?_
  repeat decreasing_trivial_pre_omega
  rw [zeros]
  repeat decreasing_trivial_pre_omega
  have e00 : T.tup [T.int 0, T.int 0] = rowT [0, 0] := rfl
  rw [e00]
  refine RI.inR1 ?_
  rw [decide_eq_true (sh_00 q)]
  repeat decreasing_trivial_pre_omega
  rw [List.length_map, sh_all q]
  repeat decreasing_trivial_pre_omega
  refine RI.forW [9, 10] (fun _ vs μ' => vs.length = 2 ∧ μ' = μ) ⟨[_, _], rfl, rfl, rfl⟩ (fun j t vs μ1 e hJ => ?_) fun vs μ1 hJ => ?_
  · obtain ⟨hv, rfl⟩ := hJ
    obtain ⟨v1, v2, rfl⟩ := len2 hv
    rw [List.getElem?_map] at e
    obtain ⟨x, hx, rfl⟩ := Option.map_eq_some_iff.mp e
    obtain ⟨d, r, rfl, b1, b2, b3, b4, hB⟩ := sh_mem (List.mem_iff_getElem?.mpr ⟨j, hx⟩)
    refine RI.stpN rfl (by first | (simp only [wipeE, putE, List.set_cons_succ, List.set_cons_zero]; exact rfl) | rfl) ?_
    repeat decreasing_trivial_pre_omega
    refine RI.use (ov_two p h1 h2 b1 b2 b3 b4) ?_
    have hE : togF [one, shiftF w h other d r] (w * h) = togF [one, other] (w * h) := (seen_row _ _ (by rw [togF_len, togF_len])).mp hB
    rw [hE]
    repeat decreasing_trivial_pre_omega
    refine RI.eqD1 (n := 3) (by omega) (dat_row _) (dat_row _) ?_
    rw [decide_eq_true rfl]
    repeat decreasing_trivial_pre_omega
    exact ⟨[_, _], rfl, rfl, rfl⟩
  · obtain ⟨hv, rfl⟩ := hJ
    obtain ⟨v1, v2, rfl⟩ := len2 hv
    repeat decreasing_trivial_pre_omega
    rw [part_self q]
    repeat decreasing_trivial_pre_omega
    refine RI.eqD1 (n := 3) (by omega) (dat_row _) (dat_row _) ?_
    rw [decide_eq_true (show orT (some (List.replicate (w * h).toNat 0)) = rowT (List.replicate (w * h).toNat 0) from rfl)]
    repeat decreasing_trivial_pre_omega
    have et2 : T.tup [rowT one, rowT other] = .tup ([one, other].map rowT) := rfl
    rw [et2]
    have hc2 : ∀ c ∈ [one, other], DpOk w h m c := fun c hc => by
      rcases List.mem_cons.mp hc with rfl | hc
      · exact h1
      · have : c = other := by simpa using hc
        subst this
        exact h2
    refine RI.use (fewest_platesR p hzs (by simp) hc2) ?_
    rw [few_zero (by omega)]
    repeat decreasing_trivial_pre_omega
    refine RI.eqD1 (n := 3) (by omega) (dat_row _) (dat_row []) ?_
    rw [decide_eq_true (show orT (some []) = T.tup [] from rfl)]
    repeat decreasing_trivial_pre_omega
    refine (lawdepths (k := 36) p hr).imp fun t μ2 ⟨ds, et, hd, hr2, g2⟩ => ?_
    subst et
    repeat decreasing_trivial_pre_omega
    have et3 : T.tup [rowT one, rowT other, rowT ds] = .tup ([one, other, ds].map rowT) := rfl
    have hc3 : ∀ c ∈ [one, other, ds], DpOk w h m c := fun c hc => by
      simp only [List.mem_cons, List.mem_nil_iff, or_false] at hc
      rcases hc with rfl | rfl | rfl
      · exact h1
      · exact h2
      · exact hd
    rw [et3]
    refine RI.use (fewest_platesR p hbs (by simp) hc3) ?_
    obtain ⟨t, e1, tl, tc, te, t2⟩ := few_three q ds
    rw [e1]
    repeat decreasing_trivial_pre_omega
    refine RI.isNR ?_
    repeat decreasing_trivial_pre_omega
    have tr := (chs_row _ _ tc).2
    have pick : ∀ (u : List Int), u ∈ chs (rgI 0 3) → ∀ c ∈ u.map (fun i => [one, other, ds].getD i.toNat []), DpOk w h m c := fun u hu c hc => by
      obtain ⟨i, hi, rfl⟩ := List.mem_map.mp hc
      have hi' := (chs_row _ _ hu).2 i hi
      rw [mem_rgI] at hi'
      refine hc3 _ ?_
      rw [List.getD_eq_getElem?_getD, List.getElem?_eq_getElem (show i.toNat < [one, other, ds].length by simp; omega)]
      exact List.getElem_mem _
    have at_ : ∀ (u : List Int), u ∈ chs (rgI 0 3) → ∀ i ∈ u, atI [rowT one, rowT other, rowT ds] i = some (rowT ([one, other, ds].getD i.toNat [])) := fun u hu i hi => by
      have hi' := (chs_row _ _ hu).2 i hi
      rw [mem_rgI] at hi'
      refine atI_map (f := rowT) (l := [one, other, ds]) hi'.1 ?_
      rw [List.getD_eq_getElem?_getD, List.getElem?_eq_getElem (show i.toNat < [one, other, ds].length by simp; omega)]
      rfl
    refine RI.lcM (enc := T.int) (fun i => .tup [rowT ([one, other, ds].getD i.toNat []), .int 0, .int 0]) (fun i hi => ?_) ?_ ?_
    · refine RI.lcTN rfl (by first | (simp only [wipeE, putE, List.set_cons_succ, List.set_cons_zero]; exact rfl) | rfl) ?_
      repeat decreasing_trivial_pre_omega
      refine RI.gIxT (at_ t tc i hi) ?_
      repeat decreasing_trivial_pre_omega
      exact ⟨rfl, rfl⟩
    · show _ ≤ 16777216; omega
    repeat decreasing_trivial_pre_omega
    have el : ∀ u : List Int, (u.map fun i => T.tup [rowT ([one, other, ds].getD i.toNat []), .int 0, .int 0]) = (u.map fun i => [one, other, ds].getD i.toNat []).map fun c => .tup [rowT c, .int 0, .int 0] := fun u => by rw [List.map_map]; rfl
    rw [el]
    refine RI.use (ov_list p (by rw [List.length_map]; omega) (pick t tc)) ?_
    rw [te]
    repeat decreasing_trivial_pre_omega
    refine RI.eqD1 (n := 3) (by omega) (dat_row _) (dat_row _) ?_
    rw [decide_eq_true rfl]
    repeat decreasing_trivial_pre_omega
    by_cases hl2 : t.length = 2
    · repeat decreasing_trivial_pre_omega
      have ec : cutT ([one, other, ds].map rowT) none (some 2) = [one, other].map rowT := rfl
      rw [ec]
      refine RI.use (fewest_platesR p hbs (by simp) hc2) ?_
      rw [t2 hl2]
      repeat decreasing_trivial_pre_omega
      refine RI.eqD1 (n := 3) (by omega) (dat_row _) (dat_row [0, 1]) ?_
      rw [decide_eq_true (show orT (some [0, 1]) = T.tup [.int 0, .int 1] from rfl)]
      repeat decreasing_trivial_pre_omega
      refine RI.lcM (enc := T.int) (fun d => .int (if d + 1 < 9 then d + 1 else 9)) (fun d hd' => ?_) ?_ ?_
      · refine RI.lcTN rfl (by first | (simp only [wipeE, putE, List.set_cons_succ, List.set_cons_zero]; exact rfl) | rfl) ?_
        repeat decreasing_trivial_pre_omega
        exact ⟨rfl, rfl⟩
      · rw [togF_len]; show _ ≤ 16777216; omega
      repeat decreasing_trivial_pre_omega
      have ed : T.tup ((togF [one, other] (w * h)).map fun d => .int (if d + 1 < 9 then d + 1 else 9)) = rowT ((togF [one, other] (w * h)).map fun d => if d + 1 < 9 then d + 1 else 9) := by unfold rowT; rw [List.map_map]; rfl
      rw [ed]
      have hdl : (((togF [one, other] (w * h)).map fun d => if d + 1 < 9 then d + 1 else 9).length : Int) = w * h := by rw [List.length_map, togF_len]; omega
      have hds : SnOk (w * h) (((togF [one, other] (w * h)).map fun d => if d + 1 < 9 then d + 1 else 9).map some) := sn_row hdl fun x hx => by
        obtain ⟨d, hd', rfl⟩ := List.mem_map.mp hx
        have := hbs.rng d (List.mem_map.mpr ⟨d, hd', rfl⟩)
        split <;> omega
      refine RI.use (fewest_platesR p hds (by simp) hc3) ?_
      cases ef : fewO (fewG w h [one, other, ds] (((togF [one, other] (w * h)).map fun d => if d + 1 < 9 then d + 1 else 9).map some)) with
      | none =>
        repeat decreasing_trivial_pre_omega
        exact ⟨rfl, hr2, g2⟩
      | some u =>
        obtain ⟨uc, ue⟩ := (few_mem hdl (by omega)).mp (fewO_mem ef)
        have ul := (chs_row _ _ uc).1
        rw [rgI_length] at ul
        repeat decreasing_trivial_pre_omega
        refine RI.isNNR ?_
        repeat decreasing_trivial_pre_omega
        refine RI.lcM (enc := T.int) (fun i => .tup [rowT ([one, other, ds].getD i.toNat []), .int 0, .int 0]) (fun i hi => ?_) ?_ ?_
        · refine RI.lcTN rfl (by first | (simp only [wipeE, putE, List.set_cons_succ, List.set_cons_zero]; exact rfl) | rfl) ?_
          repeat decreasing_trivial_pre_omega
          refine RI.gIxT (at_ u uc i hi) ?_
          repeat decreasing_trivial_pre_omega
          exact ⟨rfl, rfl⟩
        · show _ ≤ 16777216; simp at ul; omega
        repeat decreasing_trivial_pre_omega
        rw [el]
        refine RI.use (ov_list p (by rw [List.length_map]; simp at ul; omega) (pick u uc)) ?_
        rw [ue]
        repeat decreasing_trivial_pre_omega
        refine RI.eqD1 (n := 3) (by omega) (dat_row _) (dat_row _) ?_
        rw [decide_eq_true rfl]
        repeat decreasing_trivial_pre_omega
        exact ⟨rfl, hr2, g2⟩
    · repeat decreasing_trivial_pre_omega
      repeat decreasing_trivial_pre_omega
      refine RI.lcM (enc := T.int) (fun d => .int (if d + 1 < 9 then d + 1 else 9)) (fun d hd' => ?_) ?_ ?_
      · refine RI.lcTN rfl (by first | (simp only [wipeE, putE, List.set_cons_succ, List.set_cons_zero]; exact rfl) | rfl) ?_
        repeat decreasing_trivial_pre_omega
        exact ⟨rfl, rfl⟩
      · rw [togF_len]; show _ ≤ 16777216; omega
      repeat decreasing_trivial_pre_omega
      have ed : T.tup ((togF [one, other] (w * h)).map fun d => .int (if d + 1 < 9 then d + 1 else 9)) = rowT ((togF [one, other] (w * h)).map fun d => if d + 1 < 9 then d + 1 else 9) := by unfold rowT; rw [List.map_map]; rfl
      rw [ed]
      have hdl : (((togF [one, other] (w * h)).map fun d => if d + 1 < 9 then d + 1 else 9).length : Int) = w * h := by rw [List.length_map, togF_len]; omega
      have hds : SnOk (w * h) (((togF [one, other] (w * h)).map fun d => if d + 1 < 9 then d + 1 else 9).map some) := sn_row hdl fun x hx => by
        obtain ⟨d, hd', rfl⟩ := List.mem_map.mp hx
        have := hbs.rng d (List.mem_map.mpr ⟨d, hd', rfl⟩)
        split <;> omega
      refine RI.use (fewest_platesR p hds (by simp) hc3) ?_
      cases ef : fewO (fewG w h [one, other, ds] (((togF [one, other] (w * h)).map fun d => if d + 1 < 9 then d + 1 else 9).map some)) with
      | none =>
        repeat decreasing_trivial_pre_omega
        exact ⟨rfl, hr2, g2⟩
      | some u =>
        obtain ⟨uc, ue⟩ := (few_mem hdl (by omega)).mp (fewO_mem ef)
        have ul := (chs_row _ _ uc).1
        rw [rgI_length] at ul
        repeat decreasing_trivial_pre_omega
        refine RI.isNNR ?_
        repeat decreasing_trivial_pre_omega
        refine RI.lcM (enc := T.int) (fun i => .tup [rowT ([one, other, ds].getD i.toNat []), .int 0, .int 0]) (fun i hi => ?_) ?_ ?_
        · refine RI.lcTN rfl (by first | (simp only [wipeE, putE, List.set_cons_succ, List.set_cons_zero]; exact rfl) | rfl) ?_
          repeat decreasing_trivial_pre_omega
          refine RI.gIxT (at_ u uc i hi) ?_
          repeat decreasing_trivial_pre_omega
          exact ⟨rfl, rfl⟩
        · show _ ≤ 16777216; simp at ul; omega
        repeat decreasing_trivial_pre_omega
        rw [el]
        refine RI.use (ov_list p (by rw [List.length_map]; simp at ul; omega) (pick u uc)) ?_
        rw [ue]
        repeat decreasing_trivial_pre_omega
        refine RI.eqD1 (n := 3) (by omega) (dat_row _) (dat_row _) ?_
        rw [decide_eq_true rfl]
        repeat decreasing_trivial_pre_omega
        exact ⟨rfl, hr2, g2⟩
end
end
end Lw

namespace Lw
open PySem L2 Tw


theorem ph_law (k : Nat) : Ph tab (k + 1) 25 = pureC (I.fnD 14 (b25 (Ph tab k))) := by rw [I.fnD_eq, Ph_succ]; rfl
theorem fd_law {s : Tw.Env → M Out} {a0 : T} {μ : Store} {P : T → Store → Prop} {E : Exc → Store → Prop} (h : OkI (s [some a0, none, none, none, none, none, none, none, none, none, none, none, none, none] μ) (R.fnQ P E) fun _ _ => False) : OkI (I.fnD 14 s [a0] μ) P E := RI.fnD h
section
local macro_rules | `(tactic| decreasing_trivial_pre_omega) => `(tactic| first
  | (refine RI.idO ?_; first | refine RI.sNil ?_ | refine RI.sSeqG fun R hR => ?_ | refine RI.sSet ?_ | refine RI.sRet ?_ | refine RI.sRetN ?_ | refine RI.sExpr ?_ | refine RI.sIf ?_ | refine RI.sPass ?_ | refine RI.sBreak ?_ | refine RI.sCont ?_ | refine RI.sStore ?_ | refine RI.sPar ?_ | refine RI.sFor ?_ | refine RI.setA ?_ | refine RI.asg ?_ | refine RI.sFrzL rfl (by assumption) (by simp only [List.set_cons_succ, List.set_cons_zero]; exact rfl) ?_ | refine RI.goR (by assumption) ?_)
  | (refine RI.idT ?_; first | refine RI.cVar rfl ?_ | refine RI.cK ?_ | refine RI.c1 ?_ | refine RI.c2 ?_ | refine RI.cN ?_ | refine RI.cIf ?_ | refine RI.cAndT ?_ | refine RI.cOrT ?_ | refine RI.cNotT ?_ | refine RI.cChain ?_ | refine RI.cSlice ?_ | refine RI.cKw ?_ | refine RI.cLc ?_ | refine RI.cLc2 ?_ | refine RI.cRgL1 ?_ | refine RI.cRgL2 ?_ | refine RI.cMeth ?_ | refine RI.mAttrF rfl rfl rfl ?_ | refine RI.cCall ?_ | refine RI.gIxO (by assumption) rfl ?_ | refine RI.gIxT rfl ?_ | refine RI.gIxL rfl ?_ | refine RI.gIx0 ?_ | refine RI.gAddI ?_ | refine RI.gSub ?_ | refine RI.gLt ?_ | refine RI.gLe ?_ | refine RI.gGt ?_ | refine RI.gGe ?_ | refine RI.gNeg ?_ | refine RI.eqI0 ?_ | refine RI.eqI1 ?_ | refine RI.bLenT ?_ | refine RI.bLenL ?_ | refine RI.bLenS ?_ | refine RI.bInt ?_ | refine RI.bIntB ?_ | refine RI.bTupL ?_ | refine RI.bTupT ?_ | refine RI.bLstT ?_ | refine RI.bLstL ?_ | refine RI.mCutT ?_ | refine RI.mCutL ?_ | refine RI.isiTup ?_ | refine RI.isiInt ?_ | refine RI.isiIntB ?_ | refine RI.bLenO (by assumption) ?_ | refine RI.gMul (by first | exact R.mulR rfl | exact R.mulL rfl | exact R.mulB (by omega) (by omega)) ?_ | refine RI.gFdiv (by first | assumption | rfl | decide | omega) (by first | assumption | rfl | decide | omega) ?_ | refine RI.gMod (by first | assumption | rfl | decide | omega) ?_ | refine RI.gPow rfl ?_ | (refine RI.mTup ?_ ?_; (focus (simp [lim]; done))) | (refine RI.mLst ?_ ?_; (focus (simp [lim]; done))) | (refine RI.mNew ?_ ?_; (focus (simp [lim]; done))) | refine RI.min2 ?_ | refine RI.max2 ?_ | refine RI.isN0 ?_ | refine RI.isNI ?_ | refine RI.isNN0 ?_ | refine RI.isNNI ?_ | refine RI.mRevL ?_ | refine RI.cCall0 ?_ | refine RI.cRepL ?_ | refine RI.use (isnum _ _ _ _ _) ?_ | refine at_width ?_ | refine at_height ?_ | refine at_most ?_ | refine at_fall ?_ | refine len_pl (by assumption) ?_ | refine RI.lenT ?_ | refine RI.lenL ?_ | refine RI.lenS ?_ | refine RI.lenO (by assumption) ?_ | refine RI.use (check_depths (by assumption) (by assumption)) ?_ | refine RI.use (are_depths (by assumption) (by assumption)) ?_ | refine pl_mk (by assumption) ?_ | refine RI.use (check_tones (by assumption) (by assumption)) ?_ | refine RI.use (are_seen (by omega)) ?_ | refine RI.use (shifts_ofR (by assumption) (by assumption) (by assumption) (by assumption)) ?_ | refine RI.use (partedR (by assumption) (by assumption) (by assumption)) ?_ | refine RI.use (shifts_of (by assumption) (by assumption) (by assumption) (by assumption)) ?_ | refine RI.use (parted (by assumption) (by assumption) (by assumption)) ?_ | refine RI.use (fewest_plates (by assumption) (by assumption) (by omega) (by assumption)) ?_)
  | (refine RI.idL ?_; first | refine RI.aNil ?_ | refine RI.aCons ?_ | refine RI.aStar ?_ | refine RI.iSeq ?_ | refine RI.mItT ?_ | refine RI.mItL ?_ | refine RI.iRg1 ?_ | refine RI.iRg2 ?_ | refine RI.iEn ?_ | refine RI.mEnuT ?_ | refine RI.mEnuL ?_ | refine RI.iZp ?_ | refine RI.mZipT ?_ | refine RI.mZipL ?_ | refine RI.mSeqT ?_ | refine RI.mSeqL ?_ | refine RI.iRg3 ?_)
  | (refine RI.idB ?_; first | refine RI.cTest ?_ | refine RI.cTru ?_ | refine RI.cAnd ?_ | refine RI.cOr ?_ | refine RI.cNot ?_ | refine RI.cYes ?_ | refine RI.mTruB ?_ | refine RI.mTruI ?_ | refine RI.mTruT ?_ | refine RI.mTruL ?_ | refine RI.mTruN ?_)
  | refine RI.qnxS (by simp only [List.set_cons_succ, List.set_cons_zero]; exact rfl) ?_
  | refine RI.qnxP (by simp only [putE, List.set_cons_succ, List.set_cons_zero]; exact rfl) ?_
  | refine RI.qnx ?_
  | refine R.qrt ?_
  | refine R.qbk ?_
  | refine R.qct ?_
  | refine R.frt ?_
  | refine R.fnx ?_
  | refine R.brT ?_
  | refine R.brF ?_
  | refine R.brNT ?_
  | refine R.brNF ?_
  | refine RI.oNone ?_
  | refine RI.oSome ?_
  | refine RI.now ?_
  | refine R.isBl ?_
  | refine R.isInt ?_
  | refine R.isI1 ?_
  | refine R.isI2 ?_
  | refine R.len rfl ?_
  | refine R.chk (by first | assumption | exact tyOkL (by assumption) | decide +kernel | exact R.inRB (by omega) (by omega) | exact R.rgB (by omega) (by omega) (by omega) (by omega) | (simp only [List.length_map, List.length_cons, List.length_nil, List.length_replicate, rgT_length, rgI_length]; first | exact R.inRB (by omega) (by omega) | exact R.rgB (by omega) (by omega) (by omega) (by omega))) ?_
  | refine R.bnd rfl ?_
  | refine R.stA rfl ?_
  | refine R.brF2 ?_
  | refine R.brT2 ?_
  | refine R.brF3 ?_
  | refine R.brT3 ?_
  | refine R.br1 (by (try simp only [Bool.and_eq_true, Bool.or_eq_true, Bool.and_eq_false_iff, Bool.or_eq_false_iff, Bool.not_eq_false', Bool.not_eq_true', decide_eq_true_eq, decide_eq_false_iff_not, List.length_map, List.length_cons, List.length_nil, rgT_length]); omega) ?_
  | refine R.br0 (by (try simp only [Bool.and_eq_true, Bool.or_eq_true, Bool.and_eq_false_iff, Bool.or_eq_false_iff, Bool.not_eq_false', Bool.not_eq_true', decide_eq_true_eq, decide_eq_false_iff_not, List.length_map, List.length_cons, List.length_nil, rgT_length]); omega) ?_)
theorem len12 {α : Type} {l : List α} (h : l.length = 12) : ∃ a b c d e f g h i j k m, l = [a, b, c, d, e, f, g, h, i, j, k, m] := by
  match l, h with
  | [a, b, c, d, e, f, g, h, i, j, k, m], _ => exact ⟨a, b, c, d, e, f, g, h, i, j, k, m, rfl⟩
theorem lawOk (ns : List Int) : OkI (I.fnD 14 (b25 (Ph tab 39)) [.scr (ns.map T.int)] []) (fun t _ => t = .bl true) fun _ _ => False := by
  refine fd_law ?_
  unfold b25
  repeat decreasing_trivial_pre_omega
  refine RI.forW [2, 3, 4, 5, 6, 7, 8, 9, 10, 11, 12, 13] (fun _ vs μ => vs.length = 12 ∧ Row ns 0 μ) ⟨[_, _, _, _, _, _, _, _, _, _, _, _], rfl, rfl, ⟨0, 0, 0, rfl, by omega⟩⟩ (fun j t vs μ e hJ => ?_) fun vs μ hJ => ?_
  · obtain ⟨hv, hr⟩ := hJ
    obtain ⟨v2, v3, v4, v5, v6, v7, v8, v9, v10, v11, v12, v13, rfl⟩ := len12 hv
    refine RI.stpN rfl (by first | (simp only [wipeE, putE, List.set_cons_succ, List.set_cons_zero]; exact rfl) | rfl) ?_
    repeat decreasing_trivial_pre_omega
    refine (lawplate (k := 36) false hr).imp fun t μ1 ⟨w, h, m, f, et, p, m2, m6, w3, h3, _, hn, hr1, _⟩ => ?_
    subst et
    have p1 := p.w1
    have p3 := p.h1
    have h9 := p.n9
    have n1 := p.n1
    repeat decreasing_trivial_pre_omega
    refine RI.gMulT (by omega) (by omega) ?_
    rw [zeros]
    repeat decreasing_trivial_pre_omega
    have hm2 := snoc_at (μ := μ1) (x := some (.lst []))
    have hr2 := hr1.snoc (x := some (.lst []))
    have hn0 : 0 ≠ μ1.length := by have := hr1.lt; omega
    generalize μ1 ++ [some (MO.lst [])] = μ2 at hm2 hr2 ⊢
    generalize μ1.length = nn at hm2 hn0 ⊢
    refine (taken 38 hr2 (m := 4) (by omega) (by omega)).imp fun t μ3 ⟨r3, et, a3, b3, hr3, g3⟩ => ?_
    subst et
    have hm3 : μ3[nn]? = some (some (.lst [])) := by rw [g3.2 nn (Ne.symm hn0)]; exact hm2
    repeat decreasing_trivial_pre_omega
    refine RI.forW [4] (fun j vs μ' => vs.length = 1 ∧ Row ns 0 μ' ∧ ∃ rows : List (List Int × Int × Int), μ'[nn]? = some (some (.lst (rows.map ovT))) ∧ rows.length = j ∧ ∀ r ∈ rows, OvOk w h m r) ⟨[_], rfl, rfl, hr3, [], hm3, rfl, by simp⟩ (fun j t vs μ4 e hJ => ?_) fun vs μ4 hJ => ?_
    · obtain ⟨hv, hr4, rows, hm4, hl4, ho4⟩ := hJ
      obtain ⟨u4, rfl⟩ := len1 hv
      obtain ⟨hj, rfl⟩ := rgT_get e
      refine RI.stpN rfl (by first | (simp only [wipeE, putE, List.set_cons_succ, List.set_cons_zero]; exact rfl) | rfl) ?_
      repeat decreasing_trivial_pre_omega
      refine (lawdepths (k := 37) p hr4).imp fun t μ5 ⟨ds, et, hd, hr5, g5⟩ => ?_
      subst et
      repeat decreasing_trivial_pre_omega
      refine (taken 38 hr5 (m := 3) (by omega) (by omega)).imp fun t μ6 ⟨r6, et, a6, b6, hr6, g6⟩ => ?_
      subst et
      repeat decreasing_trivial_pre_omega
      refine (taken 38 hr6 (m := 3) (by omega) (by omega)).imp fun t μ7 ⟨r7, et, a7, b7, hr7, g7⟩ => ?_
      subst et
      have hm7 : μ7[nn]? = some (some (.lst (rows.map ovT))) := by rw [((g5.trans g6).trans g7).2 nn (Ne.symm hn0)]; exact hm4
      repeat decreasing_trivial_pre_omega
      refine RI.appO hm7 (by rw [List.length_map]; show _ < 16777216; omega) fun μ8 e8 hm8 => ?_
      repeat decreasing_trivial_pre_omega
      refine ⟨[_], rfl, rfl, by rw [e8]; exact hr7.set hn0, rows ++ [(ds, r6 - 1, r7 - 1)], ?_, by simp [hl4], fun r hr' => ?_⟩
      · rw [hm8, List.map_append]
        rfl
      · rcases List.mem_append.mp hr' with z | z
        · exact ho4 r z
        · have : r = (ds, r6 - 1, r7 - 1) := by simpa using z
          subst this
          exact ⟨hd, by show -3 ≤ r6 - 1; omega, by show r6 - 1 ≤ 3; omega, by show -3 ≤ r7 - 1; omega, by show r7 - 1 ≤ 3; omega⟩
    · obtain ⟨hv, hr4, rows, hm4, hl4, ho4⟩ := hJ
      obtain ⟨u4, rfl⟩ := len1 hv
      rw [rgT_length] at hl4
      repeat decreasing_trivial_pre_omega
      have hr5 : Row ns 0 (μ4.set nn none) := hr4.set hn0
      generalize μ4.set nn none = μ5 at hr5 ⊢
      have hlr : rows.length ≤ 100 := by omega
      refine RI.use (overprinted p hlr ho4) ?_
      repeat decreasing_trivial_pre_omega
      rw [← List.map_reverse]
      refine RI.use (overprinted p (by rw [List.length_reverse]; exact hlr) (fun r hr' => ho4 r (List.mem_reverse.mp hr'))) ?_
      rw [ov_rev]
      repeat decreasing_trivial_pre_omega
      refine RI.eqD1 (n := 3) (by omega) (dat_row _) (dat_row _) ?_
      rw [decide_eq_true rfl]
      repeat decreasing_trivial_pre_omega
      refine RI.use (overprinted (rows := []) p (by simp) (by simp)) ?_
      rw [ov_nil (by omega)]
      repeat decreasing_trivial_pre_omega
      refine RI.eqD1 (n := 3) (by omega) (dat_row _) (dat_row _) ?_
      rw [decide_eq_true rfl]
      repeat decreasing_trivial_pre_omega
      refine (lawdepths (k := 37) p hr5).imp fun t μ6 ⟨d6, et, hd6, hr6, g6⟩ => ?_
      subst et
      repeat decreasing_trivial_pre_omega
      refine RI.gAddL ?_ ?_
      · simp [lim]; omega
      have ea : ∀ (x : List Int) (d r : Int), rows.map ovT ++ [T.tup [rowT x, .int d, .int r]] = (rows ++ [(x, d, r)]).map ovT := fun x d r => by rw [List.map_append]; rfl
      have ho : ∀ (x : List Int) (d r : Int), DpOk w h m x → -3 ≤ d → d ≤ 3 → -3 ≤ r → r ≤ 3 → ∀ q ∈ rows ++ [(x, d, r)], OvOk w h m q := fun x d r hx y1 y2 y3 y4 q hq => by
        rcases List.mem_append.mp hq with z | z
        · exact ho4 q z
        · have : q = (x, d, r) := by simpa using z
          subst this
          exact ⟨hx, y1, y2, y3, y4⟩
      rw [ea]
      repeat decreasing_trivial_pre_omega
      refine RI.use (overprinted p (by rw [List.length_append, List.length_singleton]; omega) (ho d6 0 0 hd6 (by omega) (by omega) (by omega) (by omega))) ?_
      repeat decreasing_trivial_pre_omega
      rw [rgT_eq]
      refine RI.lcF (fun _ => false) T.int (fun i hi => ?_) ?_ ?_
      · rw [mem_rgI] at hi
        have l1 : i.toNat < (ovF w h rows).length := by rw [ov_len]; omega
        have l2 : i.toNat < (ovF w h (rows ++ [(d6, 0, 0)])).length := by rw [ov_len]; omega
        have le := ov_snoc (rows := rows) (x := (d6, 0, 0)) (fun d hd' => (hd6.rng d hd').1) p1 p3 (i := i.toNat) (by omega)
        have e1 : (ovF w h rows)[i.toNat]? = some ((ovF w h rows).getD i.toNat 0) := by rw [List.getD_eq_getElem?_getD, List.getElem?_eq_getElem l1]; rfl
        have e2 : (ovF w h (rows ++ [(d6, 0, 0)]))[i.toNat]? = some ((ovF w h (rows ++ [(d6, 0, 0)])).getD i.toNat 0) := by rw [List.getD_eq_getElem?_getD, List.getElem?_eq_getElem l2]; rfl
        refine RI.lcTN rfl (by first | (simp only [wipeE, putE, List.set_cons_succ, List.set_cons_zero]; exact rfl) | rfl) ?_
        repeat decreasing_trivial_pre_omega
        refine RI.gIxT (atI_map hi.1 e2) ?_
        repeat decreasing_trivial_pre_omega
        refine RI.gIxT (atI_map hi.1 e1) ?_
        repeat decreasing_trivial_pre_omega
        exact ⟨rfl, rfl⟩
      · rw [rgI_length]; show _ ≤ 16777216; omega
      repeat decreasing_trivial_pre_omega
      refine RI.eqD1 (n := 3) (by omega) (by rw [dat]; exact dats_ints _) dat_nil ?_
      rw [decide_eq_true (by simp)]
      repeat decreasing_trivial_pre_omega
      refine (lawdepths (k := 37) p hr6).imp fun t μ7 ⟨d7, et, hd7, hr7, g7⟩ => ?_
      subst et
      repeat decreasing_trivial_pre_omega
      refine RI.gAddL ?_ ?_
      · simp [lim]; omega
      rw [ea]
      repeat decreasing_trivial_pre_omega
      refine RI.use (overprinted p (by rw [List.length_append, List.length_singleton]; omega) (ho d7 3 (0 - 3) hd7 (by omega) (by omega) (by omega) (by omega))) ?_
      rw [show (0 : Int) - 3 = -3 by omega, ov_away p1 p3 h3]
      repeat decreasing_trivial_pre_omega
      refine RI.eqD1 (n := 3) (by omega) (dat_row _) (dat_row _) ?_
      rw [decide_eq_true rfl]
      repeat decreasing_trivial_pre_omega
      refine (lawdepths (k := 37) p hr7).imp fun t μ8 ⟨one, et, hd1, hr8, g8⟩ => ?_
      subst et
      repeat decreasing_trivial_pre_omega
      refine (lawdepths (k := 37) p hr8).imp fun t μ9 ⟨other, et, hd2, hr9, g9⟩ => ?_
      subst et
      have q : Two w h m one other := ⟨p1, p3, p.m9, p.m1, hd1, hd2⟩
      have hbs := both_sn q
      repeat decreasing_trivial_pre_omega
      refine RI.use (ov_pair p hd1 hd2) ?_
      repeat decreasing_trivial_pre_omega
      rw [partO_both q]
      repeat decreasing_trivial_pre_omega
      refine RI.isNR ?_
      repeat decreasing_trivial_pre_omega
      refine RI.gtR ?_
      rw [decide_eq_false (part_not_gt q)]
      repeat decreasing_trivial_pre_omega
      refine RI.use (ov_pair p hd1 (part_dp q)) ?_
      rw [tog_part q]
      repeat decreasing_trivial_pre_omega
      refine RI.eqD1 (n := 3) (by omega) (dat_row _) (dat_row _) ?_
      rw [decide_eq_true rfl]
      repeat decreasing_trivial_pre_omega
      refine (are_shifted q p hr9).imp fun t μ10 ⟨et, hr10, _⟩ => ?_
      subst et
      repeat decreasing_trivial_pre_omega
      exact ⟨[_, _, _, _, _, _, _, _, _, _, _, _], rfl, rfl, hr10⟩
  · obtain ⟨hv, hr⟩ := hJ
    obtain ⟨v2, v3, v4, v5, v6, v7, v8, v9, v10, v11, v12, v13, rfl⟩ := len12 hv
    repeat decreasing_trivial_pre_omega
    rfl
theorem plain : ∀ ns : List Int, ns.length ≤ 63 → ∃ μ, Ph tab 40 25 [.scr (ns.map T.int)] [] = .ok (.bl true) μ := by
  intro ns _
  obtain ⟨μ1, e⟩ := (lawOk ns).ex
  rw [ph_law 39]
  exact ⟨[], pureC_ok (by simp only [cleans_cons, cleans_nil, clean_scr, cleans_ints, Bool.and_true]) (clean_bl _) e⟩
end
end Lw

open PySem PySem.W PyProof.Rows
set_option maxRecDepth 100000 in
set_option maxHeartbeats 0 in
theorem PySem.Challenge.cw_bittenplates_k55_whole_prints_put_togeth_holds : PySem.Challenge.rw_bittenplates_k55_whole_prints_put_togeth.Holds := by
  w_on; o_law; k_head; (case hw => w_witness2)
  k_fill
  refine Tw.walkT (l := PySem.Challenge.rw_bittenplates_k55_whole_prints_put_togeth) (x := "_law_script") rfl rfl (fun w h Y => PySem.W.kIn_of Y) ?F
  case F =>
    intro w mg fa h KX G hmg
    refine' Lw.all_mk KX G hmg ?cg0 ?pg0 ?ic0 ?po0 ?sa0 ?ca0 ?cn0 ?cq0 ?cm0 ?sf0_0 ?sg0_0 ?sk0_0 ?sy0_0 ?si0_0 ?sf0_1 ?sg0_1 ?sk0_1 ?sy0_1 ?si0_1 ?mk0 ?kc0 ?a0 ?l0 ?c0 ?k0 ?a1 ?l1 ?c1 ?k1 ?a2 ?fn2 ?l2 ?c2 ?k2 ?lt2 ?pa3 ?pb3 ?pc3 ?pd3 ?l3 ?c3 ?k3 ?pa4 ?pb4 ?pc4 ?pd4 ?l4 ?c4 ?k4 ?pa5 ?pb5 ?pc5 ?pd5 ?l5 ?c5 ?k5 ?pa6 ?pb6 ?pc6 ?pd6 ?l6 ?c6 ?k6 ?a7 ?fn7 ?l7 ?c7 ?k7 ?a8 ?fn8 ?l8 ?c8 ?k8 ?a9 ?l9 ?c9 ?k9 ?a10 ?l10 ?c10 ?k10 ?a11 ?l11 ?c11 ?k11 ?a12 ?l12 ?c12 ?k12 ?a13 ?l13 ?c13 ?k13 ?a14 ?l14 ?c14 ?k14 ?a15 ?l15 ?c15 ?k15 ?a16 ?l16 ?c16 ?k16 ?a17 ?l17 ?c17 ?k17 ?a18 ?l18 ?c18 ?k18 ?a19 ?l19 ?c19 ?k19 ?a20 ?l20 ?c20 ?k20 ?a21 ?l21 ?c21 ?k21 ?a22 ?l22 ?c22 ?k22 ?a23 ?l23 ?c23 ?k23 ?a24 ?l24 ?c24 ?k24 ?a25 ?l25 ?c25 ?k25 ?x0 ?x1 ?x2 ?x3 ?x4 ?al0 ?z0 ?z1 ?z2 ?z3 ?z4 ?z5 ?z6 ?z7 ?z8 ?z9 ?z10 ?z11 ?z12 Lw.plain
    (case cg0 => k_is)
    (case pg0 => k_is)
    (case ic0 => k_is)
    (case po0 => k_is)
    (case sa0 => k_is)
    (case ca0 => k_is)
    (case cn0 => k_is)
    (case cq0 => k_is)
    (case cm0 => k_is)
    (case sf0_0 => k_is)
    (case sg0_0 => k_is)
    (case sk0_0 => k_is)
    (case sy0_0 => k_is)
    (case si0_0 => k_is)
    (case sf0_1 => k_is)
    (case sg0_1 => k_is)
    (case sk0_1 => k_is)
    (case sy0_1 => k_is)
    (case si0_1 => k_is)
    (case mk0 => k_is)
    (case kc0 => k_is)
    (case a0 => k_is)
    (case l0 => k_is)
    (case c0 => k_is)
    (case k0 => k_is)
    (case a1 => k_is)
    (case l1 => k_is)
    (case c1 => k_is)
    (case k1 => k_is)
    (case a2 => k_is)
    (case fn2 => k_is)
    (case l2 => k_is)
    (case c2 => k_is)
    (case k2 => k_is)
    (case lt2 => k_is)
    (case pa3 => k_is)
    (case pb3 => k_is)
    (case pc3 => k_is)
    (case pd3 => k_is)
    (case l3 => k_is)
    (case c3 => k_is)
    (case k3 => k_is)
    (case pa4 => k_is)
    (case pb4 => k_is)
    (case pc4 => k_is)
    (case pd4 => k_is)
    (case l4 => k_is)
    (case c4 => k_is)
    (case k4 => k_is)
    (case pa5 => k_is)
    (case pb5 => k_is)
    (case pc5 => k_is)
    (case pd5 => k_is)
    (case l5 => k_is)
    (case c5 => k_is)
    (case k5 => k_is)
    (case pa6 => k_is)
    (case pb6 => k_is)
    (case pc6 => k_is)
    (case pd6 => k_is)
    (case l6 => k_is)
    (case c6 => k_is)
    (case k6 => k_is)
    (case a7 => k_is)
    (case fn7 => k_is)
    (case l7 => k_is)
    (case c7 => k_is)
    (case k7 => k_is)
    (case a8 => k_is)
    (case fn8 => k_is)
    (case l8 => k_is)
    (case c8 => k_is)
    (case k8 => k_is)
    (case a9 => k_is)
    (case l9 => k_is)
    (case c9 => k_is)
    (case k9 => k_is)
    (case a10 => k_is)
    (case l10 => k_is)
    (case c10 => k_is)
    (case k10 => k_is)
    (case a11 => k_is)
    (case l11 => k_is)
    (case c11 => k_is)
    (case k11 => k_is)
    (case a12 => k_is)
    (case l12 => k_is)
    (case c12 => k_is)
    (case k12 => k_is)
    (case a13 => k_is)
    (case l13 => k_is)
    (case c13 => k_is)
    (case k13 => k_is)
    (case a14 => k_is)
    (case l14 => k_is)
    (case c14 => k_is)
    (case k14 => k_is)
    (case a15 => k_is)
    (case l15 => k_is)
    (case c15 => k_is)
    (case k15 => k_is)
    (case a16 => k_is)
    (case l16 => k_is)
    (case c16 => k_is)
    (case k16 => k_is)
    (case a17 => k_is)
    (case l17 => k_is)
    (case c17 => k_is)
    (case k17 => k_is)
    (case a18 => k_is)
    (case l18 => k_is)
    (case c18 => k_is)
    (case k18 => k_is)
    (case a19 => k_is)
    (case l19 => k_is)
    (case c19 => k_is)
    (case k19 => k_is)
    (case a20 => k_is)
    (case l20 => k_is)
    (case c20 => k_is)
    (case k20 => k_is)
    (case a21 => k_is)
    (case l21 => k_is)
    (case c21 => k_is)
    (case k21 => k_is)
    (case a22 => k_is)
    (case l22 => k_is)
    (case c22 => k_is)
    (case k22 => k_is)
    (case a23 => k_is)
    (case l23 => k_is)
    (case c23 => k_is)
    (case k23 => k_is)
    (case a24 => k_is)
    (case l24 => k_is)
    (case c24 => k_is)
    (case k24 => k_is)
    (case a25 => k_is)
    (case l25 => k_is)
    (case c25 => k_is)
    (case k25 => k_is)
    (case x0 => k_is)
    (case x1 => k_is)
    (case x2 => k_is)
    (case x3 => k_is)
    (case x4 => k_is)
    (case al0 => k_is)
    (case z0 => k_is)
    (case z1 => k_is)
    (case z2 => k_is)
    (case z3 => k_is)
    (case z4 => k_is)
    (case z5 => k_is)
    (case z6 => k_is)
    (case z7 => k_is)
    (case z8 => k_is)
    (case z9 => k_is)
    (case z10 => k_is)
    (case z11 => k_is)
    (case z12 => k_is)
