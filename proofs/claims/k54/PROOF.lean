import PyProof.Rows.All
import Wide.All
import OpenK.AllK
import Wide.FinOn
import HandS.ForMost
import HandS.Exc
import HandS.ExcOwn
import HandS.ExcInit
import HandS.TryOnly
import HandS.TryMany
import HandS.CallSlots
import HandS.Defaults
import HandS.MakeKwOnly
import HandS.WordsExc
import HandS.Wide
import HandS.OwnEq
import HandS.Deep
import HandS.ExcIs
import KE.KStateDown
import HandS.Head0
import HandS.Head1
import HandS.Head2
import HandS.HeadEnd
import HandS.HeadHook1
import HandS.HeadHook2
import PySem.Challenge.RW_untaughthelm_k54_whole_errors_and_result
import HandS.IsInst
set_option Elab.async false
set_option linter.all false
set_option maxRecDepth 100000
set_option maxHeartbeats 0
/-! Vm1: plain data, the store of lists, how they stand in the abstract heap; what a reading does, as a function over plain data. -/
namespace Vm
open PySem PySem.Spec PyProof.Rows L2

inductive D where
  | non
  | bl (b : Bool)
  | int (i : Int)
  | str (x : Str)
  | tup (ds : List D)
  | ptr (n : Nat)
  | fro (ds : List D)
  | ins (c : Nat) (ds : List D)
  | err (c : Nat) (ds : List D)
  | self

/-- the types of data -/
inductive Ty where
  | non | bl | int | str | tup | lst | ins (c : Nat) | err (c : Nat)
  deriving DecidableEq
/-- a class as it is asked for -/
inductive Cl where
  | own (c : Nat)
  | ty (x : String)
  deriving DecidableEq
/-- the classes of a text: where they stand, the names of their attributes, which are plain ones, which are errors; what isinstance says -/
structure Tab where
  adr : Nat → Addr
  names : Nat → List Str
  isIns : Nat → Bool
  isErr : Nat → Bool
  isi : Ty → Cl → Option Bool

/-- the store: the lists, the object that is being made -/
structure Sto where
  l : List (List D)
  me : Option (Nat × List D)

/-- where the store's things stand -/
structure Sf where
  cur : Option Addr
  old : List Addr
structure Rho where
  l : List Addr
  me : Sf
/-- no object that is being made -/
def Sep (m : Sf) (a : Addr) : Prop := m.cur ≠ some a ∧ a ∉ m.old

def Fro (K : PySem.W.Frag) (H : Hp) (a : Addr) (xs : List V) : Prop :=
  (∃ o, H a = some (.frz o (.lst xs))) ∨
    ∃ (o : Obj) (its : Array Value) (n : Nat), K.lookup a = some o ∧ o.cls = .type "list" ∧ o.dict = none ∧ o.data = .seq its n ∧ its.size ≤ sizeLine ∧ Vals xs its.toList
theorem Fro.sql {K : PySem.W.Frag} {H : Hp} {a : Addr} {xs : List V} (h : Fro K H a xs) : SqL K H a xs := by
  rcases h with h | h
  · exact .inl (.inr h)
  · exact .inr h

/-- an error stands at a: its class at C, its attributes -/
def ErrAt (H : Hp) (a C : Addr) (names : List Str) (vs : List V) : Prop :=
  vs.length = names.length ∧ ((names = [] ∧ H a = some (exo a C none)) ∨
    ∃ dx fs, H a = some (exo a C (some dx)) ∧ H dx = some (exd dx fs) ∧ ∀ (j : Nat) n v, names[j]? = some n → vs[j]? = some v → fs.lookup n = some v)

mutual
inductive Rp (T : Tab) (K : PySem.W.Frag) (ρ : Rho) (H : Hp) : V → D → Prop
  | non : Rp T K ρ H .non .non
  | bl (b : Bool) : Rp T K ρ H (.bl b) (.bl b)
  | int (i : Int) : Rp T K ρ H (.int i) (.int i)
  | str (x : Str) : Rp T K ρ H (.str x) (.str x)
  | tup {a : Addr} {vs : List V} {ds : List D} : SqT K H a vs → RpL T K ρ H vs ds → Rp T K ρ H (.ref a) (.tup ds)
  | ptr {a : Addr} {n : Nat} : ρ.l[n]? = some a → Rp T K ρ H (.ref a) (.ptr n)
  | fro {a : Addr} {vs : List V} {ds : List D} : Fro K H a vs → RpL T K ρ H vs ds → Rp T K ρ H (.ref a) (.fro ds)
  | ins {a dx : Addr} {c : Nat} {vs : List V} {ds : List D} : T.isIns c = true → H a = some (.ins (T.adr c) dx ((T.names c).zip vs)) → Sep ρ.me a → vs.length = (T.names c).length → RpL T K ρ H vs ds → Rp T K ρ H (.ref a) (.ins c ds)
  | err {a : Addr} {c : Nat} {vs : List V} {ds : List D} : T.isErr c = true → ErrAt H a (T.adr c) (T.names c) vs → RpL T K ρ H vs ds → Rp T K ρ H (.ref a) (.err c ds)
inductive RpL (T : Tab) (K : PySem.W.Frag) (ρ : Rho) (H : Hp) : List V → List D → Prop
  | nil : RpL T K ρ H [] []
  | cons {v : V} {vs : List V} {d : D} {ds : List D} : Rp T K ρ H v d → RpL T K ρ H vs ds → RpL T K ρ H (v :: vs) (d :: ds)
end

/-- a value or the object that is being made -/
def RpS (T : Tab) (K : PySem.W.Frag) (ρ : Rho) (H : Hp) (v : V) (d : D) : Prop := Rp T K ρ H v d ∨ (d = .self ∧ ∃ a, v = .ref a ∧ ρ.me.cur = some a)

/-- the object that is being made -/
def MeOk (T : Tab) (K : PySem.W.Frag) (ρ : Rho) (H : Hp) : Option Addr → Option (Nat × List D) → Prop
  | none, none => True
  | some a, some (c, ds) => ∃ dx vs, H a = some (.ins (T.adr c) dx (((T.names c).take ds.length).zip vs)) ∧ ds.length ≤ (T.names c).length ∧ RpL T K ρ H vs ds
  | _, _ => False
/-- the store stands in the abstract heap -/
structure RS (T : Tab) (K : PySem.W.Frag) (ρ : Rho) (H : Hp) (st : Sto) : Prop where
  len : ρ.l.length = st.l.length
  nd : ρ.l.Nodup
  ent : ∀ (n : Nat) a ds, ρ.l[n]? = some a → st.l[n]? = some ds → ∃ vs, H a = some (.lst vs) ∧ RpL T K ρ H vs ds
  me : MeOk T K ρ H ρ.me.cur st.me
  old : ∀ a ∈ ρ.me.old, H a ≠ none

/-- the heap goes on -/
structure Evo (ρ : Rho) (H : Hp) (ρ' : Rho) (H' : Hp) : Prop where
  pre : ∃ t, ρ'.l = ρ.l ++ t ∧ ∀ a ∈ t, H a = none
  me : ρ'.me = ρ.me
  ob : ∀ a o, H a = some o → a ∉ ρ.l → ρ.me.cur ≠ some a → H' a = some o
  dm : ∀ a, H' a = none → H a = none

theorem RpL.length {T : Tab} {K : PySem.W.Frag} {ρ : Rho} {H : Hp} : ∀ {vs : List V} {ds : List D}, RpL T K ρ H vs ds → vs.length = ds.length
  | _, _, .nil => rfl
  | _, _, .cons _ r => by rw [List.length_cons, List.length_cons, RpL.length r]
theorem RpL.get {T : Tab} {K : PySem.W.Frag} {ρ : Rho} {H : Hp} : ∀ {vs : List V} {ds : List D}, RpL T K ρ H vs ds → ∀ (i : Nat) d, ds[i]? = some d → ∃ v, vs[i]? = some v ∧ Rp T K ρ H v d
  | _, _, .nil, i, d, h => by simp at h
  | _, _, .cons h r, 0, d, e => by
    simp at e
    subst e
    exact ⟨_, rfl, h⟩
  | _, _, .cons h r, i + 1, d, e => by
    simp at e
    obtain ⟨v, h1, h2⟩ := RpL.get r i d e
    exact ⟨v, by simpa using h1, h2⟩
theorem RpL.getV {T : Tab} {K : PySem.W.Frag} {ρ : Rho} {H : Hp} : ∀ {vs : List V} {ds : List D}, RpL T K ρ H vs ds → ∀ (i : Nat) v, vs[i]? = some v → ∃ d, ds[i]? = some d ∧ Rp T K ρ H v d
  | _, _, .nil, i, d, h => by simp at h
  | _, _, .cons h r, 0, d, e => by
    simp at e
    subst e
    exact ⟨_, rfl, h⟩
  | _, _, .cons h r, i + 1, d, e => by
    simp at e
    obtain ⟨v, h1, h2⟩ := RpL.getV r i d e
    exact ⟨v, by simpa using h1, h2⟩
theorem RpL.app {T : Tab} {K : PySem.W.Frag} {ρ : Rho} {H : Hp} : ∀ {vs ws : List V} {ds es : List D}, RpL T K ρ H vs ds → RpL T K ρ H ws es → RpL T K ρ H (vs ++ ws) (ds ++ es)
  | _, _, _, _, .nil, s => s
  | _, _, _, _, .cons h r, s => .cons h (RpL.app r s)
theorem RpL.take {T : Tab} {K : PySem.W.Frag} {ρ : Rho} {H : Hp} : ∀ {vs : List V} {ds : List D} (n : Nat), RpL T K ρ H vs ds → RpL T K ρ H (vs.take n) (ds.take n)
  | _, _, 0, _ => .nil
  | _, _, n + 1, .nil => .nil
  | _, _, n + 1, .cons h r => .cons h (RpL.take n r)
theorem RpL.drop {T : Tab} {K : PySem.W.Frag} {ρ : Rho} {H : Hp} : ∀ {vs : List V} {ds : List D} (n : Nat), RpL T K ρ H vs ds → RpL T K ρ H (vs.drop n) (ds.drop n)
  | _, _, 0, r => r
  | _, _, n + 1, .nil => .nil
  | _, _, n + 1, .cons h r => RpL.drop n r
theorem RpL.set {T : Tab} {K : PySem.W.Frag} {ρ : Rho} {H : Hp} {v : V} {d : D} (h : Rp T K ρ H v d) : ∀ {vs : List V} {ds : List D} (n : Nat), RpL T K ρ H vs ds → RpL T K ρ H (vs.set n v) (ds.set n d)
  | _, _, _, .nil => .nil
  | _, _, 0, .cons _ r => .cons h r
  | _, _, n + 1, .cons q r => .cons q (RpL.set h n r)

/-- what is known of the store's places ahead of a step -/
structure Wf (ρ : Rho) (H : Hp) : Prop where
  l : ∀ a ∈ ρ.l, ∃ xs, H a = some (.lst xs)
  me : ∀ a, ρ.me.cur = some a → ∃ C dx fs, H a = some (.ins C dx fs)
section
variable {T : Tab} {K : PySem.W.Frag} {ρ ρ' ρ1 ρ2 : Rho} {H H' H1 H2 : Hp} {st st' : Sto} {v : V} {d : D} {vs : List V} {ds : List D}
theorem RS.wf (s : RS T K ρ H st) : Wf ρ H := by
  refine ⟨fun a ha => ?_, fun a ha => ?_⟩
  · obtain ⟨n, hn⟩ := List.mem_iff_getElem?.mp ha
    have hlt : n < st.l.length := by
      rw [← s.len]
      exact (List.getElem?_eq_some_iff.mp hn).1
    obtain ⟨vs, h, _⟩ := s.ent n a _ hn (List.getElem?_eq_getElem hlt)
    exact ⟨vs, h⟩
  · have m := s.me
    rw [ha] at m
    cases e : st.me with
    | none =>
      rw [e] at m
      exact m.elim
    | some p =>
      rw [e] at m
      obtain ⟨c, ds⟩ := p
      obtain ⟨dx, vs, h, _⟩ := m
      exact ⟨_, _, _, h⟩
theorem Evo.refl : Evo ρ H ρ H := ⟨⟨[], by simp, fun _ z => nomatch z⟩, rfl, fun _ _ h _ _ => h, fun _ h => h⟩
theorem Evo.trans (a : Evo ρ H ρ1 H1) (b : Evo ρ1 H1 ρ2 H2) : Evo ρ H ρ2 H2 := by
  obtain ⟨⟨t, e1, f1⟩, m1, o1, d1⟩ := a
  obtain ⟨⟨u, e2, f2⟩, m2, o2, d2⟩ := b
  refine ⟨⟨t ++ u, by rw [e2, e1, List.append_assoc], fun x hx => ?_⟩, m2.trans m1, fun x o h n1 n2 => ?_, fun x h => d1 x (d2 x h)⟩
  · rcases List.mem_append.mp hx with hx | hx
    · exact f1 x hx
    · exact d1 x (f2 x hx)
  · have z := o1 x o h n1 n2
    refine o2 x o z ?_ (by rw [m1]; exact n2)
    rw [e1]
    intro hx
    rcases List.mem_append.mp hx with hx | hx
    · exact n1 hx
    · rw [f1 x hx] at h
      cases h
/-- a new object -/
theorem Evo.new {p : Addr} {o : HO} (h : H p = none) : Evo ρ H ρ (upd H p o) := by
  refine ⟨⟨[], by simp, fun _ z => nomatch z⟩, rfl, fun a u e _ _ => ?_, fun a e => ?_⟩
  · rw [upd_ne (ne_of_none e h)]
    exact e
  · by_cases ha : a = p
    · rw [ha]
      exact h
    · rw [upd_ne ha] at e
      exact e
/-- a new list of the store -/
theorem Evo.newL {p : Addr} {o : HO} (h : H p = none) : Evo ρ H { ρ with l := ρ.l ++ [p] } (upd H p o) := by
  refine ⟨⟨[p], rfl, fun a ha => ?_⟩, rfl, fun a u e _ _ => ?_, fun a e => ?_⟩
  · rw [List.mem_singleton.mp ha]
    exact h
  · rw [upd_ne (ne_of_none e h)]
    exact e
  · by_cases ha : a = p
    · rw [ha]
      exact h
    · rw [upd_ne ha] at e
      exact e
/-- a list of the store is written -/
theorem Evo.wr {p : Addr} {o : HO} (h : p ∈ ρ.l) : Evo ρ H ρ (upd H p o) := by
  refine ⟨⟨[], by simp, fun _ z => nomatch z⟩, rfl, fun a u e n _ => ?_, fun a e => ?_⟩
  · rw [upd_ne (fun z : a = p => n (by rw [z]; exact h))]
    exact e
  · by_cases ha : a = p
    · rw [ha, upd_same] at e
      cases e
    · rw [upd_ne ha] at e
      exact e

/-! ### what stands stays -/
theorem Wf.rd (w : Wf ρ H) (e : Evo ρ H ρ' H') {a : Addr} {u : HO} (h : Rd H a u) (n : ∀ xs, u ≠ .lst xs) (n2 : ∀ C dx fs, u ≠ .ins C dx fs) : Rd H' a u := by
  rcases h with h | ⟨o, h⟩
  · refine .inl (e.ob a u h (fun z => ?_) fun z => ?_)
    · obtain ⟨xs, q⟩ := w.l a z
      rw [h] at q
      exact n xs (Option.some.inj q)
    · obtain ⟨C, dx, fs, q⟩ := w.me a z
      rw [h] at q
      exact n2 _ _ _ (Option.some.inj q)
  · refine .inr ⟨o, e.ob a _ h (fun z => ?_) fun z => ?_⟩
    · obtain ⟨xs, q⟩ := w.l a z
      rw [h] at q
      cases q
    · obtain ⟨C, dx, fs, q⟩ := w.me a z
      rw [h] at q
      cases q
theorem Wf.ob (w : Wf ρ H) (e : Evo ρ H ρ' H') {a : Addr} {u : HO} (h : H a = some u) (n : ∀ xs, u ≠ .lst xs) (n2 : (∀ C dx fs, u ≠ .ins C dx fs) ∨ ρ.me.cur ≠ some a) : H' a = some u := by
  refine e.ob a u h (fun z => ?_) fun z => ?_
  · obtain ⟨xs, q⟩ := w.l a z
    rw [h] at q
    exact n xs (Option.some.inj q)
  · rcases n2 with n2 | n2
    · obtain ⟨C, dx, fs, q⟩ := w.me a z
      rw [h] at q
      exact n2 _ _ _ (Option.some.inj q)
    · exact n2 z
theorem exo_lst {e C : Addr} {d : Option Addr} (xs : List V) : exo e C d ≠ .lst xs := fun z => by
  have z' : HO.ext _ = HO.lst xs := z
  cases z'
theorem exo_ins {e C : Addr} {d : Option Addr} (C' dx : Addr) (fs : List (Str × V)) : exo e C d ≠ .ins C' dx fs := fun z => by
  have z' : HO.ext _ = HO.ins C' dx fs := z
  cases z'
theorem exd_lst {e : Addr} {gs : List (Str × V)} (xs : List V) : exd e gs ≠ .lst xs := fun z => by
  have z' : HO.ext _ = HO.lst xs := z
  cases z'
theorem exd_ins {e : Addr} {gs : List (Str × V)} (C' dx : Addr) (fs : List (Str × V)) : exd e gs ≠ .ins C' dx fs := fun z => by
  have z' : HO.ext _ = HO.ins C' dx fs := z
  cases z'
theorem ErrAt.mono {a C : Addr} {ns : List Str} (w : Wf ρ H) (e : Evo ρ H ρ' H') (h : ErrAt H a C ns vs) : ErrAt H' a C ns vs := by
  obtain ⟨l, h⟩ := h
  refine ⟨l, ?_⟩
  rcases h with ⟨n, h⟩ | ⟨dx, fs, h1, h2, h3⟩
  · exact .inl ⟨n, w.ob e h exo_lst (.inl exo_ins)⟩
  · exact .inr ⟨dx, fs, w.ob e h1 exo_lst (.inl exo_ins), w.ob e h2 exd_lst (.inl exd_ins), h3⟩
theorem Wf.sqt (w : Wf ρ H) (e : Evo ρ H ρ' H') {a : Addr} (h : SqT K H a vs) : SqT K H' a vs := by
  rcases h with h | h
  · exact .inl (w.rd e h (fun xs z => nomatch z) fun _ _ _ z => nomatch z)
  · exact .inr h
theorem Wf.fro (w : Wf ρ H) (e : Evo ρ H ρ' H') {a : Addr} (h : Fro K H a vs) : Fro K H' a vs := by
  rcases h with ⟨o, h⟩ | h
  · exact .inl ⟨o, w.ob e h (fun xs z => nomatch z) (.inl fun _ _ _ z => nomatch z)⟩
  · exact .inr h
theorem Evo.at (e : Evo ρ H ρ' H') {n : Nat} {a : Addr} (h : ρ.l[n]? = some a) : ρ'.l[n]? = some a := by
  obtain ⟨⟨t, e1, _⟩, _⟩ := e
  rw [e1, List.getElem?_append_left (List.getElem?_eq_some_iff.mp h).1]
  exact h
mutual
theorem Rp.mono (w : Wf ρ H) (e : Evo ρ H ρ' H') : ∀ {v : V} {d : D}, Rp T K ρ H v d → Rp T K ρ' H' v d
  | _, _, .non => .non
  | _, _, .bl b => .bl b
  | _, _, .int i => .int i
  | _, _, .str x => .str x
  | _, _, .tup h r => .tup (w.sqt e h) (RpL.mono w e r)
  | _, _, .ptr h => .ptr (e.at h)
  | _, _, .fro h r => .fro (w.fro e h) (RpL.mono w e r)
  | _, _, .ins i h n l r => .ins i (w.ob e h (fun _ z => nomatch z) (.inr n.1)) (by rw [e.me]; exact n) l (RpL.mono w e r)
  | _, _, .err i h r => .err i (h.mono w e) (RpL.mono w e r)
theorem RpL.mono (w : Wf ρ H) (e : Evo ρ H ρ' H') : ∀ {vs : List V} {ds : List D}, RpL T K ρ H vs ds → RpL T K ρ' H' vs ds
  | _, _, .nil => .nil
  | _, _, .cons h r => .cons (Rp.mono w e h) (RpL.mono w e r)
end
mutual
theorem Rp.ext (hl : ∀ (n : Nat) a, ρ.l[n]? = some a → ρ'.l[n]? = some a) (hm : ρ'.me = ρ.me) : ∀ {v : V} {d : D}, Rp T K ρ H v d → Rp T K ρ' H v d
  | _, _, .non => .non
  | _, _, .bl b => .bl b
  | _, _, .int i => .int i
  | _, _, .str x => .str x
  | _, _, .tup h r => .tup h (RpL.ext hl hm r)
  | _, _, .ptr h => .ptr (hl _ _ h)
  | _, _, .fro h r => .fro h (RpL.ext hl hm r)
  | _, _, .ins i h n l r => .ins i h (by rw [hm]; exact n) l (RpL.ext hl hm r)
  | _, _, .err i h r => .err i h (RpL.ext hl hm r)
theorem RpL.ext (hl : ∀ (n : Nat) a, ρ.l[n]? = some a → ρ'.l[n]? = some a) (hm : ρ'.me = ρ.me) : ∀ {vs : List V} {ds : List D}, RpL T K ρ H vs ds → RpL T K ρ' H vs ds
  | _, _, .nil => .nil
  | _, _, .cons h r => .cons (Rp.ext hl hm h) (RpL.ext hl hm r)
end
theorem RpS.mono (w : Wf ρ H) (e : Evo ρ H ρ' H') (h : RpS T K ρ H v d) : RpS T K ρ' H' v d := by
  rcases h with h | ⟨e1, a, e2, e3⟩
  · exact .inl (h.mono w e)
  · exact .inr ⟨e1, a, e2, by rw [e.me]; exact e3⟩

theorem MeOk.mono (w : Wf ρ H) (e : Evo ρ H ρ' H') (k : ∀ a u, ρ.me.cur = some a → H a = some u → H' a = some u) : ∀ {sm}, MeOk T K ρ H ρ.me.cur sm → MeOk T K ρ' H' ρ'.me.cur sm := fun {sm} m => by
  rw [e.me]
  cases e1 : ρ.me.cur with
  | none =>
    rw [e1] at m
    cases sm with
    | none => trivial
    | some q => exact m.elim
  | some a =>
    rw [e1] at m
    cases sm with
    | none => exact m.elim
    | some q =>
      obtain ⟨c, ds⟩ := q
      obtain ⟨dx, vs, m1, m2, m3⟩ := m
      exact ⟨dx, vs, k a _ e1 m1, m2, m3.mono w e⟩

/-! ### the store goes on -/
/-- whatever comes beside the store -/
theorem RS.evoE (s : RS T K ρ H st) (e : Evo ρ H ρ H') (ne : ∀ a u, H a = some u → H' a = some u) : RS T K ρ H' st := by
  have w := s.wf
  refine ⟨s.len, s.nd, fun n a ds h1 h2 => ?_, ?_, fun a ha hz => s.old a ha (e.dm a hz)⟩
  · obtain ⟨vs, h3, h4⟩ := s.ent n a ds h1 h2
    exact ⟨vs, ne _ _ h3, h4.mono w e⟩
  · exact s.me.mono w e fun a u _ q => ne a u q
/-- a new object beside the store -/
theorem RS.evo0 (s : RS T K ρ H st) {p : Addr} {o : HO} (h : H p = none) : RS T K ρ (upd H p o) st := by
  have w := s.wf
  have e : Evo ρ H ρ (upd H p o) := Evo.new h
  have ne : ∀ {a u}, H a = some u → upd H p o a = some u := fun q => by
    rw [upd_ne (ne_of_none q h)]
    exact q
  refine ⟨s.len, s.nd, fun n a ds h1 h2 => ?_, ?_, fun a ha hz => s.old a ha (e.dm a hz)⟩
  · obtain ⟨vs, h3, h4⟩ := s.ent n a ds h1 h2
    exact ⟨vs, ne h3, h4.mono w e⟩
  · exact s.me.mono w e fun a u _ q => ne q
/-- a new list of the store -/
theorem RS.push (s : RS T K ρ H st) {p : Addr} {vs : List V} {ds : List D} (h : H p = none) (r : RpL T K ρ H vs ds) : RS T K { ρ with l := ρ.l ++ [p] } (upd H p (.lst vs)) { st with l := st.l ++ [ds] } := by
  have w := s.wf
  have e : Evo ρ H { ρ with l := ρ.l ++ [p] } (upd H p (.lst vs)) := Evo.newL h
  have ne : ∀ {a u}, H a = some u → upd H p (.lst vs) a = some u := fun q => by
    rw [upd_ne (ne_of_none q h)]
    exact q
  have np : p ∉ ρ.l := fun z => by
    obtain ⟨xs, q⟩ := w.l p z
    rw [h] at q
    cases q
  refine ⟨by simp [s.len], ?_, fun n a es h1 h2 => ?_, ?_, fun a ha hz => s.old a ha (e.dm a hz)⟩
  · show (ρ.l ++ [p]).Nodup
    rw [List.nodup_append]
    exact ⟨s.nd, by simp, fun a ha b hb z => by
      rw [List.mem_singleton.mp hb] at z
      exact np (z ▸ ha)⟩
  · have h1' : (ρ.l ++ [p])[n]? = some a := h1
    have h2' : (st.l ++ [ds])[n]? = some es := h2
    by_cases hn : n < ρ.l.length
    · rw [List.getElem?_append_left hn] at h1'
      rw [List.getElem?_append_left (by rw [← s.len]; exact hn)] at h2'
      obtain ⟨ws, h3, h4⟩ := s.ent n a es h1' h2'
      exact ⟨ws, ne h3, h4.mono w e⟩
    · have hn2 : n = ρ.l.length := by
        have := (List.getElem?_eq_some_iff.mp h1').1
        rw [List.length_append, List.length_singleton] at this
        omega
      subst hn2
      rw [List.getElem?_append_right (Nat.le_refl _)] at h1'
      rw [s.len, List.getElem?_append_right (Nat.le_refl _)] at h2'
      simp at h1' h2'
      subst h1' h2'
      exact ⟨vs, upd_same, r.mono w e⟩
  · exact s.me.mono w e fun a u _ q => ne q
/-- a list of the store is written -/
theorem RS.wr (s : RS T K ρ H st) {n : Nat} {p : Addr} {vs : List V} {ds : List D} (h : ρ.l[n]? = some p) (r : RpL T K ρ H vs ds) : RS T K ρ (upd H p (.lst vs)) { st with l := st.l.set n ds } := by
  have w := s.wf
  have hp : p ∈ ρ.l := List.mem_of_getElem? h
  have e : Evo ρ H ρ (upd H p (.lst vs)) := Evo.wr hp
  have hn : n < ρ.l.length := (List.getElem?_eq_some_iff.mp h).1
  refine ⟨by simp [s.len], s.nd, fun m a es h1 h2 => ?_, ?_, fun a ha hz => s.old a ha (e.dm a hz)⟩
  · have h2' : (st.l.set n ds)[m]? = some es := h2
    by_cases hm : m = n
    · subst hm
      rw [h] at h1
      have ea : p = a := Option.some.inj h1
      subst ea
      rw [List.getElem?_set_self (by rw [← s.len]; exact hn)] at h2'
      have ed : ds = es := Option.some.inj h2'
      subst ed
      exact ⟨vs, upd_same, r.mono w e⟩
    · rw [List.getElem?_set_ne (Ne.symm hm)] at h2'
      obtain ⟨ws, h3, h4⟩ := s.ent m a es h1 h2'
      refine ⟨ws, ?_, h4.mono w e⟩
      rw [upd_ne (fun z : a = p => hm (nd_ix s.nd (by rw [← z]; exact h1) h))]
      exact h3
  · refine s.me.mono w e fun a u q1 q2 => ?_
    rw [upd_ne]
    · exact q2
    · intro z
      obtain ⟨C, dx, fs, q⟩ := w.me a q1
      obtain ⟨xs, q'⟩ := w.l p hp
      rw [← z, q] at q'
      cases q'
end
end Vm
/-! Wk0: the text's parts by place; the tables of its classes; what the head's Hook tells. -/
namespace Wk
open PySem PySem.Spec PyProof.Rows L2 Vm He
def top (i : Nat) : Stmt := PySem.Challenge.pw_untaughthelm_k54_whole_errors_and_result.main.body.getD i (.Pass ⟨0, 0, 0, 0⟩)
def clsBody (s : Stmt) : List Stmt := match s with
  | .ClassDef _ _ _ b _ _ _ _ _ _ _ => b
  | _ => []
def meth (i j : Nat) : Stmt := (clsBody (top i)).getD j (.Pass ⟨0, 0, 0, 0⟩)
def clsN : List PySem.Str := (["HelmError", "BadField", "BadNumber", "MixedFields", "BadText", "BadTable", "BadRow", "BadPlant", "BadTicks", "BadRecord", "BadCut", "BadLot", "NoFit", "BadWrong", "BadAsker", "Quarrel", "NotShown", "BadAhead", "BadLine", "BadSamples"] : List PySem.Str) ++ (["BadReacher", "NothingPut", "BadFoe", "TooSmall", "BadProgram", "BadFit", "NoState", "BadBox", "BadBounds", "Outside", "BadSchedule", "BadChanger", "BadDesk", "BadDeed", "NoPlant", "NoRun", "NoDuty", "LongRun", "Idle", "NoDeed"] : List PySem.Str) ++ (["Unlearnt", "Optimum", "Infeasible", "Unbounded", "Keeper", "Never", "Stretch", "Escape", "Prior", "End", "Ends", "Blow", "Stop", "Lost", "Learning", "OneLaw", "Silent", "Shadow", "Sizes", "Story"] : List PySem.Str) ++ (["Disguise"] : List PySem.Str)
def fldN : List (List PySem.Str) := ([[], ["prime"], ["thing"], [], ["place"], ["what"], ["what"], ["what", "at"], ["ticks"], ["what"], ["low", "high"], ["lot"], [], ["wrong"], ["what"], ["weights"], ["tick"], ["what"], ["what"], ["what"]] : List (List PySem.Str)) ++ ([["what"], [], ["what"], ["prime"], ["what", "at"], ["what"], ["state"], ["what"], ["what"], ["state"], ["what", "at"], ["what"], ["what"], ["what"], [], [], [], [], [], []] : List (List PySem.Str)) ++ ([["plant", "start", "silent", "other"], ["point", "weights"], ["weights"], ["point", "ray"], ["box", "inputs"], ["space", "rows"], ["begin", "end", "why"], ["plant", "rows", "table"], ["state", "parts", "low", "high"], ["value", "lot", "plant", "ray"], ["low", "high"], ["lot", "plant", "state", "side"], ["place", "side"], ["corner", "blows", "weights"], ["puts", "states", "space", "table"], ["table", "spaces"], ["row"], ["plant", "rows", "table"], ["least", "greatest"], ["field", "size", "inputs", "deeds"]] : List (List PySem.Str)) ++ ([["record", "plant", "lot", "other", "other_lot"]] : List (List PySem.Str))
def freeN : List PySem.Str := ["len", "abs", "int", "str", "list", "tuple", "isinstance", "range", "enumerate", "ValueError"]
def defN : List PySem.Str := ["_law_draw", "_law_mix", "_law_hand", "_law_errors", "_law_named_errors", "_law_due_fields", "_law_fields", "_law_kinds", "_law_results", "_law_named_results", "_law_things", "_law_drawn", "_law_word", "_law_errors_right", "_law_results_right", "law"]
def isiT : Ty → Cl → Option Bool
  | .err c, .own d => if c < 40 ∧ d < 61 then some (c == d || d == 0) else none
  | .err c, .ty x => if c < 40 ∧ x = "ValueError" then some true else none
  | .ins c, .own d => if (40 ≤ c ∧ c < 61) ∧ (40 ≤ d ∧ d < 61) then some (c == d) else none
  | _, _ => none
def tab (K : PySem.W.Frag) : Tab := ⟨fun c => ga K (clsN.getD c ""), fun c => fldN.getD c [], fun c => decide (40 ≤ c) && decide (c < 61), fun c => decide (c < 40), isiT⟩
/-! ### the facts -/
def adr (K : PySem.W.Frag) (c : Nat) : Addr := ga K (clsN.getD c "")
def own (K : PySem.W.Frag) (C : Addr) (m : PySem.Str) : Bool := eqO (PySem.W.findIn K (.ref C) m) (some (some (.ref (ma K C m)))) && decide (PySem.W.typeIn K (.ref (ma K C m)) = some (.type "function"))
def oexB (K : PySem.W.Frag) (C : Addr) : Bool := match K.lookup C with
  | some ⟨.type "type", _, .cls cd, sl⟩ => (match cd.mro, sl.toList with
    | .ref C' :: bm, [_, _, _, _, some (.builtin n), _] => decide (C' = C) && (decide (n = "ValueError.__new__") && (!cd.hasDel && (cd.hasDict && PySem.HandSPX.refsVE bm)))
    | _, _ => false)
  | _ => false
def excB (K : PySem.W.Frag) (C : Addr) : Bool := eqO (PySem.W.findIn K (.ref C) "__getattribute__") (some (some (.builtin "BaseException.__getattribute__"))) && (eqO (PySem.W.findIn K (.ref C) "__getattr__") (some none) && (decide (PySem.W.subIn K (.ref C) (.type "BaseException") = some true) &&
  (PySem.W.hasDictIn K C && (eqO (PySem.W.findIn K (.ref C) "__class__") (some (some (.builtin "object.__class__"))) && (decide (PySem.W.mroIn K C (.type "object") = some true) &&
  (eqO (PySem.W.findIn K (.ref C) "__setattr__") (some (some (.builtin "object.__setattr__"))) && (decide (PySem.W.typeIn K (.ref C) = some (.type "type")) && (PySem.W.keepIn K (.ref C) && oexB K C))))))))
def gsB (K : PySem.W.Frag) : Bool := eqO (PySem.W.specialIn K (.builtin "object.__class__") "__get__") (some (some (.builtin "getset_descriptor.__get__"))) && decide (PySem.W.takesIn K (.builtin "object.__class__") = some true)
def insB (K : PySem.W.Frag) (C : Addr) : Bool := PySem.W.plainGet K C PySem.Str.empty && (PySem.W.hasDictIn K C && (PySem.W.plainOver K C && (eqO (PySem.W.findIn K (.ref C) "__setattr__") (some (some (.builtin "object.__setattr__"))) &&
  (eqO (PySem.W.findIn K (.ref C) "__class__") (some (some (.builtin "object.__class__"))) && (decide (PySem.W.mroIn K C (.type "object") = some true) &&
  (PySem.W.makesIn K C && (own K C "__init__" && (PySem.W.isFn K (.ref (ma K C "__init__")) && (PySem.W.keepIn K (.ref C) && (own K C "__eq__" && (PySem.W.isFn K (.ref (ma K C "__eq__")) && eqO (PySem.W.findIn K (.ref C) "__ne__") (some (some (.builtin "object.__ne__"))))))))))))))
def clsiB (K : PySem.W.Frag) (C : Addr) : Bool := eqO (PySem.W.specialIn K (.ref C) "__getattribute__") (some (some (.builtin "type.__getattribute__"))) && (PySem.W.readsIn K C (.type "type") && (match PySem.W.findCls K (.ref C) (.type "type") "__init__" with
  | some (.val (.builtin x)) => decide (x = "ValueError.__init__")
  | _ => false))
def errR : List Nat := List.range 40
def insR : List Nat := List.range' 40 21
def bareR : List Nat := [0, 21]
def initR : List Nat := [1, 2, 3, 4, 5, 6, 7, 8, 9, 10, 11, 12, 13, 14, 15, 16, 17, 18, 19, 20, 22, 23, 24, 25, 26, 27, 28, 29, 30, 31, 32, 33, 34, 35, 36, 37, 38, 39]
def fcGlo (K : PySem.W.Frag) : Bool := (clsN ++ defN).all fun x => eqO (PySem.W.nsIn K mainGlobals x) (some (some (.ref (ga K x))))
def fcFree (K : PySem.W.Frag) : Bool := freeN.all fun x => eqO (PySem.W.nsIn K mainGlobals x) (some none)
def fcErr (K : PySem.W.Frag) : Bool := errR.all fun c => excB K (adr K c)
def fcIns (K : PySem.W.Frag) : Bool := insR.all fun c => insB K (adr K c)
def fcFld (K : PySem.W.Frag) : Bool := (List.range 61).all fun c => (fldN.getD c []).all fun n => eqO (PySem.W.findIn K (.ref (adr K c)) n) (some none)
def fcKit (K : PySem.W.Frag) : Bool := (errR.all fun c => (List.range 61).all fun d => decide (PySem.W.kitOne K (.ref (adr K c)) (.ref (adr K d)) = some (c == d || d == 0))) && ((errR.all fun c => decide (PySem.W.kitOne K (.ref (adr K c)) (.type "ValueError") = some true)) &&
  insR.all fun c => insR.all fun d => decide (PySem.W.kitOne K (.ref (adr K c)) (.ref (adr K d)) = some (c == d)))
def fcInit (K : PySem.W.Frag) : Bool := (initR.all fun c => own K (adr K c) "__init__") && bareR.all fun c => eqO (PySem.W.findIn K (.ref (adr K c)) "__init__") (some (some (.builtin "ValueError.__init__")))
def fcA (K : PySem.W.Frag) : Bool := fcGlo K && (fcFree K && (fcErr K && fcIns K))
def fcC (K : PySem.W.Frag) : Bool := fcFld K && (fcInit K && (gsB K && clsiB K (adr K 0)))
def fcts (K : PySem.W.Frag) : Bool := fcA K && (fcKit K && fcC K)
def d0 : He.DefD := ⟨("BadField", some "__init__"), "__init__", "BadField.__init__", defArgs (meth 3 0), defBody (meth 3 0), defScope (meth 3 0), [], []⟩
def d1 : He.DefD := ⟨("BadNumber", some "__init__"), "__init__", "BadNumber.__init__", defArgs (meth 4 0), defBody (meth 4 0), defScope (meth 4 0), [], []⟩
def d2 : He.DefD := ⟨("MixedFields", some "__init__"), "__init__", "MixedFields.__init__", defArgs (meth 5 0), defBody (meth 5 0), defScope (meth 5 0), [], []⟩
def d3 : He.DefD := ⟨("BadText", some "__init__"), "__init__", "BadText.__init__", defArgs (meth 6 0), defBody (meth 6 0), defScope (meth 6 0), [], []⟩
def d4 : He.DefD := ⟨("BadTable", some "__init__"), "__init__", "BadTable.__init__", defArgs (meth 7 0), defBody (meth 7 0), defScope (meth 7 0), [], []⟩
def d5 : He.DefD := ⟨("BadRow", some "__init__"), "__init__", "BadRow.__init__", defArgs (meth 8 0), defBody (meth 8 0), defScope (meth 8 0), [], []⟩
def d6 : He.DefD := ⟨("BadPlant", some "__init__"), "__init__", "BadPlant.__init__", defArgs (meth 9 0), defBody (meth 9 0), defScope (meth 9 0), [], []⟩
def d7 : He.DefD := ⟨("BadTicks", some "__init__"), "__init__", "BadTicks.__init__", defArgs (meth 10 0), defBody (meth 10 0), defScope (meth 10 0), [], []⟩
def d8 : He.DefD := ⟨("BadRecord", some "__init__"), "__init__", "BadRecord.__init__", defArgs (meth 11 0), defBody (meth 11 0), defScope (meth 11 0), [], []⟩
def d9 : He.DefD := ⟨("BadCut", some "__init__"), "__init__", "BadCut.__init__", defArgs (meth 12 0), defBody (meth 12 0), defScope (meth 12 0), [], []⟩
def d10 : He.DefD := ⟨("BadLot", some "__init__"), "__init__", "BadLot.__init__", defArgs (meth 13 0), defBody (meth 13 0), defScope (meth 13 0), [], []⟩
def d11 : He.DefD := ⟨("NoFit", some "__init__"), "__init__", "NoFit.__init__", defArgs (meth 14 0), defBody (meth 14 0), defScope (meth 14 0), [], []⟩
def d12 : He.DefD := ⟨("BadWrong", some "__init__"), "__init__", "BadWrong.__init__", defArgs (meth 15 0), defBody (meth 15 0), defScope (meth 15 0), [], []⟩
def d13 : He.DefD := ⟨("BadAsker", some "__init__"), "__init__", "BadAsker.__init__", defArgs (meth 16 0), defBody (meth 16 0), defScope (meth 16 0), [], []⟩
def d14 : He.DefD := ⟨("Quarrel", some "__init__"), "__init__", "Quarrel.__init__", defArgs (meth 17 0), defBody (meth 17 0), defScope (meth 17 0), [], []⟩
def d15 : He.DefD := ⟨("NotShown", some "__init__"), "__init__", "NotShown.__init__", defArgs (meth 18 0), defBody (meth 18 0), defScope (meth 18 0), [], []⟩
def d16 : He.DefD := ⟨("BadAhead", some "__init__"), "__init__", "BadAhead.__init__", defArgs (meth 19 0), defBody (meth 19 0), defScope (meth 19 0), [], []⟩
def d17 : He.DefD := ⟨("BadLine", some "__init__"), "__init__", "BadLine.__init__", defArgs (meth 20 0), defBody (meth 20 0), defScope (meth 20 0), [], []⟩
def d18 : He.DefD := ⟨("BadSamples", some "__init__"), "__init__", "BadSamples.__init__", defArgs (meth 21 0), defBody (meth 21 0), defScope (meth 21 0), [], []⟩
def d19 : He.DefD := ⟨("BadReacher", some "__init__"), "__init__", "BadReacher.__init__", defArgs (meth 22 0), defBody (meth 22 0), defScope (meth 22 0), [], []⟩
def d20 : He.DefD := ⟨("BadFoe", some "__init__"), "__init__", "BadFoe.__init__", defArgs (meth 24 0), defBody (meth 24 0), defScope (meth 24 0), [], []⟩
def d21 : He.DefD := ⟨("TooSmall", some "__init__"), "__init__", "TooSmall.__init__", defArgs (meth 25 0), defBody (meth 25 0), defScope (meth 25 0), [], []⟩
def d22 : He.DefD := ⟨("BadProgram", some "__init__"), "__init__", "BadProgram.__init__", defArgs (meth 26 0), defBody (meth 26 0), defScope (meth 26 0), [], []⟩
def d23 : He.DefD := ⟨("BadFit", some "__init__"), "__init__", "BadFit.__init__", defArgs (meth 27 0), defBody (meth 27 0), defScope (meth 27 0), [], []⟩
def d24 : He.DefD := ⟨("NoState", some "__init__"), "__init__", "NoState.__init__", defArgs (meth 28 0), defBody (meth 28 0), defScope (meth 28 0), [], []⟩
def d25 : He.DefD := ⟨("BadBox", some "__init__"), "__init__", "BadBox.__init__", defArgs (meth 29 0), defBody (meth 29 0), defScope (meth 29 0), [], []⟩
def d26 : He.DefD := ⟨("BadBounds", some "__init__"), "__init__", "BadBounds.__init__", defArgs (meth 30 0), defBody (meth 30 0), defScope (meth 30 0), [], []⟩
def d27 : He.DefD := ⟨("Outside", some "__init__"), "__init__", "Outside.__init__", defArgs (meth 31 0), defBody (meth 31 0), defScope (meth 31 0), [], []⟩
def d28 : He.DefD := ⟨("BadSchedule", some "__init__"), "__init__", "BadSchedule.__init__", defArgs (meth 32 0), defBody (meth 32 0), defScope (meth 32 0), [], []⟩
def d29 : He.DefD := ⟨("BadChanger", some "__init__"), "__init__", "BadChanger.__init__", defArgs (meth 33 0), defBody (meth 33 0), defScope (meth 33 0), [], []⟩
def d30 : He.DefD := ⟨("BadDesk", some "__init__"), "__init__", "BadDesk.__init__", defArgs (meth 34 0), defBody (meth 34 0), defScope (meth 34 0), [], []⟩
def d31 : He.DefD := ⟨("BadDeed", some "__init__"), "__init__", "BadDeed.__init__", defArgs (meth 35 0), defBody (meth 35 0), defScope (meth 35 0), [], []⟩
def d32 : He.DefD := ⟨("NoPlant", some "__init__"), "__init__", "NoPlant.__init__", defArgs (meth 36 0), defBody (meth 36 0), defScope (meth 36 0), [], []⟩
def d33 : He.DefD := ⟨("NoRun", some "__init__"), "__init__", "NoRun.__init__", defArgs (meth 37 0), defBody (meth 37 0), defScope (meth 37 0), [], []⟩
def d34 : He.DefD := ⟨("NoDuty", some "__init__"), "__init__", "NoDuty.__init__", defArgs (meth 38 0), defBody (meth 38 0), defScope (meth 38 0), [], []⟩
def d35 : He.DefD := ⟨("LongRun", some "__init__"), "__init__", "LongRun.__init__", defArgs (meth 39 0), defBody (meth 39 0), defScope (meth 39 0), [], []⟩
def d36 : He.DefD := ⟨("Idle", some "__init__"), "__init__", "Idle.__init__", defArgs (meth 40 0), defBody (meth 40 0), defScope (meth 40 0), [], []⟩
def d37 : He.DefD := ⟨("NoDeed", some "__init__"), "__init__", "NoDeed.__init__", defArgs (meth 41 0), defBody (meth 41 0), defScope (meth 41 0), [], []⟩
def d38 : He.DefD := ⟨("Unlearnt", some "__init__"), "__init__", "Unlearnt.__init__", defArgs (meth 43 0), defBody (meth 43 0), defScope (meth 43 0), [], []⟩
def d39 : He.DefD := ⟨("Optimum", some "__init__"), "__init__", "Optimum.__init__", defArgs (meth 45 0), defBody (meth 45 0), defScope (meth 45 0), [], []⟩
def d40 : He.DefD := ⟨("Infeasible", some "__init__"), "__init__", "Infeasible.__init__", defArgs (meth 46 0), defBody (meth 46 0), defScope (meth 46 0), [], []⟩
def d41 : He.DefD := ⟨("Unbounded", some "__init__"), "__init__", "Unbounded.__init__", defArgs (meth 47 0), defBody (meth 47 0), defScope (meth 47 0), [], []⟩
def d42 : He.DefD := ⟨("Keeper", some "__init__"), "__init__", "Keeper.__init__", defArgs (meth 49 0), defBody (meth 49 0), defScope (meth 49 0), [], []⟩
def d43 : He.DefD := ⟨("Never", some "__init__"), "__init__", "Never.__init__", defArgs (meth 51 0), defBody (meth 51 0), defScope (meth 51 0), [], []⟩
def d44 : He.DefD := ⟨("Stretch", some "__init__"), "__init__", "Stretch.__init__", defArgs (meth 53 0), defBody (meth 53 0), defScope (meth 53 0), [], []⟩
def d45 : He.DefD := ⟨("Escape", some "__init__"), "__init__", "Escape.__init__", defArgs (meth 55 0), defBody (meth 55 0), defScope (meth 55 0), [], []⟩
def d46 : He.DefD := ⟨("Prior", some "__init__"), "__init__", "Prior.__init__", defArgs (meth 57 0), defBody (meth 57 0), defScope (meth 57 0), [], []⟩
def d47 : He.DefD := ⟨("End", some "__init__"), "__init__", "End.__init__", defArgs (meth 58 0), defBody (meth 58 0), defScope (meth 58 0), [], []⟩
def d48 : He.DefD := ⟨("Ends", some "__init__"), "__init__", "Ends.__init__", defArgs (meth 59 0), defBody (meth 59 0), defScope (meth 59 0), [], []⟩
def d49 : He.DefD := ⟨("Blow", some "__init__"), "__init__", "Blow.__init__", defArgs (meth 61 0), defBody (meth 61 0), defScope (meth 61 0), [], []⟩
def d50 : He.DefD := ⟨("Stop", some "__init__"), "__init__", "Stop.__init__", defArgs (meth 62 0), defBody (meth 62 0), defScope (meth 62 0), [], []⟩
def d51 : He.DefD := ⟨("Lost", some "__init__"), "__init__", "Lost.__init__", defArgs (meth 63 0), defBody (meth 63 0), defScope (meth 63 0), [], []⟩
def d52 : He.DefD := ⟨("Learning", some "__init__"), "__init__", "Learning.__init__", defArgs (meth 65 0), defBody (meth 65 0), defScope (meth 65 0), [], []⟩
def d53 : He.DefD := ⟨("OneLaw", some "__init__"), "__init__", "OneLaw.__init__", defArgs (meth 67 0), defBody (meth 67 0), defScope (meth 67 0), [], []⟩
def d54 : He.DefD := ⟨("Silent", some "__init__"), "__init__", "Silent.__init__", defArgs (meth 68 0), defBody (meth 68 0), defScope (meth 68 0), [], []⟩
def d55 : He.DefD := ⟨("Shadow", some "__init__"), "__init__", "Shadow.__init__", defArgs (meth 69 0), defBody (meth 69 0), defScope (meth 69 0), [], []⟩
def d56 : He.DefD := ⟨("Sizes", some "__init__"), "__init__", "Sizes.__init__", defArgs (meth 71 0), defBody (meth 71 0), defScope (meth 71 0), [], []⟩
def d57 : He.DefD := ⟨("Story", some "__init__"), "__init__", "Story.__init__", defArgs (meth 73 0), defBody (meth 73 0), defScope (meth 73 0), [], []⟩
def d58 : He.DefD := ⟨("Disguise", some "__init__"), "__init__", "Disguise.__init__", defArgs (meth 75 0), defBody (meth 75 0), defScope (meth 75 0), [], []⟩
def d59 : He.DefD := ⟨("Unlearnt", some "__eq__"), "__eq__", "Unlearnt.__eq__", defArgs (meth 43 1), defBody (meth 43 1), defScope (meth 43 1), [], []⟩
def d60 : He.DefD := ⟨("Optimum", some "__eq__"), "__eq__", "Optimum.__eq__", defArgs (meth 45 1), defBody (meth 45 1), defScope (meth 45 1), [], []⟩
def d61 : He.DefD := ⟨("Infeasible", some "__eq__"), "__eq__", "Infeasible.__eq__", defArgs (meth 46 1), defBody (meth 46 1), defScope (meth 46 1), [], []⟩
def d62 : He.DefD := ⟨("Unbounded", some "__eq__"), "__eq__", "Unbounded.__eq__", defArgs (meth 47 1), defBody (meth 47 1), defScope (meth 47 1), [], []⟩
def d63 : He.DefD := ⟨("Keeper", some "__eq__"), "__eq__", "Keeper.__eq__", defArgs (meth 49 1), defBody (meth 49 1), defScope (meth 49 1), [], []⟩
def d64 : He.DefD := ⟨("Never", some "__eq__"), "__eq__", "Never.__eq__", defArgs (meth 51 1), defBody (meth 51 1), defScope (meth 51 1), [], []⟩
def d65 : He.DefD := ⟨("Stretch", some "__eq__"), "__eq__", "Stretch.__eq__", defArgs (meth 53 1), defBody (meth 53 1), defScope (meth 53 1), [], []⟩
def d66 : He.DefD := ⟨("Escape", some "__eq__"), "__eq__", "Escape.__eq__", defArgs (meth 55 1), defBody (meth 55 1), defScope (meth 55 1), [], []⟩
def d67 : He.DefD := ⟨("Prior", some "__eq__"), "__eq__", "Prior.__eq__", defArgs (meth 57 1), defBody (meth 57 1), defScope (meth 57 1), [], []⟩
def d68 : He.DefD := ⟨("End", some "__eq__"), "__eq__", "End.__eq__", defArgs (meth 58 1), defBody (meth 58 1), defScope (meth 58 1), [], []⟩
def d69 : He.DefD := ⟨("Ends", some "__eq__"), "__eq__", "Ends.__eq__", defArgs (meth 59 1), defBody (meth 59 1), defScope (meth 59 1), [], []⟩
def d70 : He.DefD := ⟨("Blow", some "__eq__"), "__eq__", "Blow.__eq__", defArgs (meth 61 1), defBody (meth 61 1), defScope (meth 61 1), [], []⟩
def d71 : He.DefD := ⟨("Stop", some "__eq__"), "__eq__", "Stop.__eq__", defArgs (meth 62 1), defBody (meth 62 1), defScope (meth 62 1), [], []⟩
def d72 : He.DefD := ⟨("Lost", some "__eq__"), "__eq__", "Lost.__eq__", defArgs (meth 63 1), defBody (meth 63 1), defScope (meth 63 1), [], []⟩
def d73 : He.DefD := ⟨("Learning", some "__eq__"), "__eq__", "Learning.__eq__", defArgs (meth 65 1), defBody (meth 65 1), defScope (meth 65 1), [], []⟩
def d74 : He.DefD := ⟨("OneLaw", some "__eq__"), "__eq__", "OneLaw.__eq__", defArgs (meth 67 1), defBody (meth 67 1), defScope (meth 67 1), [], []⟩
def d75 : He.DefD := ⟨("Silent", some "__eq__"), "__eq__", "Silent.__eq__", defArgs (meth 68 1), defBody (meth 68 1), defScope (meth 68 1), [], []⟩
def d76 : He.DefD := ⟨("Shadow", some "__eq__"), "__eq__", "Shadow.__eq__", defArgs (meth 69 1), defBody (meth 69 1), defScope (meth 69 1), [], []⟩
def d77 : He.DefD := ⟨("Sizes", some "__eq__"), "__eq__", "Sizes.__eq__", defArgs (meth 71 1), defBody (meth 71 1), defScope (meth 71 1), [], []⟩
def d78 : He.DefD := ⟨("Story", some "__eq__"), "__eq__", "Story.__eq__", defArgs (meth 73 1), defBody (meth 73 1), defScope (meth 73 1), [], []⟩
def d79 : He.DefD := ⟨("Disguise", some "__eq__"), "__eq__", "Disguise.__eq__", defArgs (meth 75 1), defBody (meth 75 1), defScope (meth 75 1), [], []⟩
def d80 : He.DefD := ⟨("_law_draw", none), "_law_draw", "_law_draw", defArgs (top 77), defBody (top 77), defScope (top 77), [], []⟩
def d81 : He.DefD := ⟨("_law_mix", none), "_law_mix", "_law_mix", defArgs (top 78), defBody (top 78), defScope (top 78), [], []⟩
def d82 : He.DefD := ⟨("_law_hand", none), "_law_hand", "_law_hand", defArgs (top 79), defBody (top 79), defScope (top 79), [], []⟩
def d83 : He.DefD := ⟨("_law_errors", none), "_law_errors", "_law_errors", defArgs (top 80), defBody (top 80), defScope (top 80), [], []⟩
def d84 : He.DefD := ⟨("_law_named_errors", none), "_law_named_errors", "_law_named_errors", defArgs (top 81), defBody (top 81), defScope (top 81), [], []⟩
def d85 : He.DefD := ⟨("_law_due_fields", none), "_law_due_fields", "_law_due_fields", defArgs (top 82), defBody (top 82), defScope (top 82), [], []⟩
def d86 : He.DefD := ⟨("_law_fields", none), "_law_fields", "_law_fields", defArgs (top 83), defBody (top 83), defScope (top 83), [], []⟩
def d87 : He.DefD := ⟨("_law_kinds", none), "_law_kinds", "_law_kinds", defArgs (top 84), defBody (top 84), defScope (top 84), [], []⟩
def d88 : He.DefD := ⟨("_law_results", none), "_law_results", "_law_results", defArgs (top 85), defBody (top 85), defScope (top 85), [], []⟩
def d89 : He.DefD := ⟨("_law_named_results", none), "_law_named_results", "_law_named_results", defArgs (top 86), defBody (top 86), defScope (top 86), [], []⟩
def d90 : He.DefD := ⟨("_law_things", none), "_law_things", "_law_things", defArgs (top 87), defBody (top 87), defScope (top 87), [], []⟩
def d91 : He.DefD := ⟨("_law_drawn", none), "_law_drawn", "_law_drawn", defArgs (top 88), defBody (top 88), defScope (top 88), [], []⟩
def d92 : He.DefD := ⟨("_law_word", none), "_law_word", "_law_word", defArgs (top 89), defBody (top 89), defScope (top 89), [], []⟩
def d93 : He.DefD := ⟨("_law_errors_right", none), "_law_errors_right", "_law_errors_right", defArgs (top 90), defBody (top 90), defScope (top 90), [], []⟩
def d94 : He.DefD := ⟨("_law_results_right", none), "_law_results_right", "_law_results_right", defArgs (top 91), defBody (top 91), defScope (top 91), [], []⟩
def d95 : He.DefD := ⟨("law", none), "law", "law", defArgs (top 92), defBody (top 92), defScope (top 92), [], []⟩
def fnA : List He.DefD := ([d0, d1, d2, d3, d4, d5, d6, d7, d8, d9, d10, d11, d12, d13, d14, d15, d16, d17, d18, d19, d20, d21, d22, d23, d24, d25, d26, d27, d28, d29] : List He.DefD) ++ ([d30, d31, d32, d33, d34, d35, d36, d37, d38, d39, d40, d41, d42, d43, d44, d45, d46, d47] : List He.DefD)
def fnB : List He.DefD := ([d48, d49, d50, d51, d52, d53, d54, d55, d56, d57, d58, d59, d60, d61, d62, d63, d64, d65, d66, d67, d68, d69, d70, d71, d72, d73, d74, d75, d76, d77] : List He.DefD) ++ ([d78, d79, d80, d81, d82, d83, d84, d85, d86, d87, d88, d89, d90, d91, d92, d93, d94, d95] : List He.DefD)
def fn : List He.DefD := fnA ++ fnB
def asF (g : Addr → Option Obj) : List Addr :=
  let K0 := frG g [mainGlobals]
  let cs := clsN.map (ga K0)
  let nss := cs.flatMap fun C => match g C with
    | some ⟨_, _, .cls cd, _⟩ => [cd.ns]
    | _ => []
  let fs := (nss.flatMap fun n => match g n with
    | some o => refsO o
    | none => []) ++ defN.map (ga K0)
  let cd := fs.flatMap fun f => match g f with
    | some ⟨_, _, .func fd, _⟩ => refV fd.code
    | _ => []
  mainGlobals :: cStatics :: (cs ++ nss ++ fs ++ cd)
abbrev AlF : Type := Bool × List FnW
def obsF (K : PySem.W.Frag) : AlF := (fcts K && fn.all fun d => d.ok K, fn.map fun d => fnW K d.at_)
def valF : AlF := (true, fn.map DefD.val)
def Says (K : PySem.W.Frag) : Prop := obsF K = valF
def obsG (g : Addr → Option Obj) : AlF := obsF (frG g (asF g))
def hook : PySem.W.Hook where
  α := AlF
  obs := fun s => obsG s.heap.get?
  val := fun _ => valF
  says := fun _ h => ∃ K : PySem.W.Frag, K.In h ∧ Says K
  of := fun _ _ e => ⟨_, frG_in, e⟩
  keeps := fun _ _ _ ⟨K, hK, c⟩ k => ⟨K, PySem.W.Frag.In.keeps hK k, c⟩
def ob (s : PySem.W.SharedT) : AlF := obsG (HandSHeadRun.getT s)
theorem ob_eq (s : PySem.W.SharedT) : ob s = hook.obs s.abs := by
  have e : HandSHeadRun.getT s = s.abs.heap.get? := funext (HandSHeadRun.getT_eq s)
  unfold ob
  rw [e] <;> rfl
end Wk
noncomputable section
namespace Hd
open PySem PySem.W PySem.Calls PyProof.Rows
abbrev R : OpenRow := OpenLaw.row PySem.Challenge.rw_untaughthelm_k54_whole_errors_and_result
abbrev qv : Program := view R.prog [92]
def names0 : List PySem.Str := ["_wall", "HelmError", "BadField", "BadNumber", "MixedFields", "BadText", "BadTable", "BadRow", "BadPlant", "BadTicks", "BadRecord", "BadCut", "BadLot", "NoFit", "BadWrong", "BadAsker", "Quarrel", "NotShown", "BadAhead", "BadLine", "BadSamples", "BadReacher", "NothingPut", "BadFoe", "TooSmall", "BadProgram", "BadFit", "NoState", "BadBox", "BadBounds"]
def names1 : List PySem.Str := ["Outside", "BadSchedule", "BadChanger", "BadDesk", "BadDeed", "NoPlant", "NoRun", "NoDuty", "LongRun", "Idle", "NoDeed", "Unlearnt", "Optimum", "Infeasible", "Unbounded", "Keeper", "Never", "Stretch", "Escape", "Prior", "End", "Ends", "Blow", "Stop", "Lost", "Learning", "OneLaw", "Silent", "Shadow", "Sizes"]
def names2 : List PySem.Str := ["Story", "Disguise", "_law_draw", "_law_mix", "_law_hand", "_law_errors", "_law_named_errors", "_law_due_fields", "_law_fields", "_law_kinds", "_law_results", "_law_named_results", "_law_things", "_law_drawn", "_law_word", "_law_errors_right", "_law_results_right"]
def names : List PySem.Str := names0 ++ names1 ++ names2
abbrev E (w : World) (os : OsState) := (HandSHeadRun.endF (HandSHeadRun.stepQ (HandSHeadRun.denQ HandSHeadRun.tabQ) R.prog w) 20000 R.prog w os)
abbrev KK (s : SharedT) : Frag := He.frG (HandSHeadRun.getT s) (Wk.asF (HandSHeadRun.getT s))
theorem t1 (w : World) (os : OsState) : (E w os).map (fun s => (HandSHeadRun.looksF R.prog (boot_heap w.params) s.abs, HandSHeadRun.seenQ qv names (importedModules R.prog.main.body) (fun s => xlAt qv [] s && recOk R.toRowW.records s) s.abs)) = some (true, openGood qv names) := by kernel_rfl
theorem t2 (w : World) (os : OsState) : (E w os).map (fun s => Wk.fcA (KK s)) = some true := by kernel_rfl
theorem t3 (w : World) (os : OsState) : (E w os).map (fun s => Wk.fcKit (KK s)) = some true := by kernel_rfl
theorem t4 (w : World) (os : OsState) : (E w os).map (fun s => Wk.fcC (KK s)) = some true := by kernel_rfl
theorem t5 (w : World) (os : OsState) : (E w os).map (fun s => Wk.fnA.all fun d => d.ok (KK s)) = some true := by kernel_rfl
theorem t6 (w : World) (os : OsState) : (E w os).map (fun s => Wk.fnB.all fun d => d.ok (KK s)) = some true := by kernel_rfl
theorem t7 (w : World) (os : OsState) : (E w os).map (fun s => Wk.fn.map fun d => He.fnW (KK s) d.at_) = some (Wk.fn.map He.DefD.val) := by kernel_rfl
theorem comb {β γ : Type} {x : Option SharedT} {a c1 c2 c3 d d1 d2 : SharedT → Bool} {b : SharedT → β} {e : SharedT → γ} {g : β} {v : γ} (hd : ∀ s, d s = (d1 s && d2 s)) (h1 : x.map (fun s => (a s, b s)) = some (true, g)) (h2 : x.map (fun s => c1 s) = some true) (h3 : x.map (fun s => c2 s) = some true) (h4 : x.map (fun s => c3 s) = some true)
    (h5 : x.map (fun s => d1 s) = some true) (h6 : x.map (fun s => d2 s) = some true) (h7 : x.map (fun s => e s) = some v) : x.map (fun s => (a s, b s, ((c1 s && (c2 s && c3 s)) && d s, e s))) = some (true, g, (true, v)) := by
  cases x with
  | none => cases h1
  | some s =>
    have h1' : (a s, b s) = (true, g) := Option.some.inj h1
    have q2 : c1 s = true := Option.some.inj h2
    have q3 : c2 s = true := Option.some.inj h3
    have q4 : c3 s = true := Option.some.inj h4
    have q5 : d1 s = true := Option.some.inj h5
    have q6 : d2 s = true := Option.some.inj h6
    have q7 : e s = v := Option.some.inj h7
    obtain ⟨p1, p2⟩ := Prod.mk.inj h1'
    show some (a s, b s, ((c1 s && (c2 s && c3 s)) && d s, e s)) = _
    rw [p1, p2, q2, q3, q4, hd, q5, q6, q7]
    rfl
theorem run (w : World) : HandSHeadRun.RunEq R qv Wk.hook Wk.ob 20000 names w := by
  intro os
  exact comb (fun s => List.all_append) (t1 w os) (t2 w os) (t3 w os) (t4 w os) (t5 w os) (t6 w os) (t7 w os)
end Hd
end
/-! Vm2: what an expression does, as a function over plain data. -/
namespace Vm
open PySem PySem.Spec PyProof.Rows L2

abbrev Er := Nat × List D
abbrev M (α : Type) := Sto → Option (Except Er α × Sto)
def mret {α : Type} (a : α) : M α := fun st => some (.ok a, st)
def mbind {α β : Type} (x : M α) (k : α → M β) : M β := fun st => match x st with
  | none => none
  | some (.error e, st') => some (.error e, st')
  | some (.ok a, st') => k a st'
theorem mbind_some {α β : Type} {x : M α} {k : α → M β} {st : Sto} {r : Except Er β} {st' : Sto} (h : mbind x k st = some (r, st')) :
    (∃ a st1, x st = some (.ok a, st1) ∧ k a st1 = some (r, st')) ∨ ∃ e, x st = some (.error e, st') ∧ r = .error e := by
  unfold mbind at h
  cases e : x st with
  | none =>
    rw [e] at h
    cases h
  | some p =>
    obtain ⟨q, st1⟩ := p
    rw [e] at h
    cases q with
    | error er =>
      have h' : some ((Except.error er : Except Er β), st1) = some (r, st') := h
      cases h'
      exact .inr ⟨er, rfl, rfl⟩
    | ok a => exact .inl ⟨a, st1, rfl, h⟩

abbrev Env := List (Option D)
abbrev EF := Env → M D
abbrev TF := Env → M Bool
abbrev AF := Env → M (List D)

/-- the local names -/
structure REnv (T : Tab) (K : PySem.W.Frag) (ρ : Rho) (H : Hp) (σ : L2.St) (e : Env) : Prop where
  len : σ.length = e.length
  at_ : ∀ (i : Nat) d, e[i]? = some (some d) → ∃ v, σ[i]? = some (some v) ∧ RpS T K ρ H v d
/-- an error on its way -/
def EW (T : Tab) (K : PySem.W.Frag) (ρ : Rho) (H : Hp) (er : Er) (cls : Value) (dx : Option Addr) : Prop :=
  cls = .ref (T.adr er.1) ∧ ∃ vs, vs.length = (T.names er.1).length ∧ RpL T K ρ H vs er.2 ∧ (T.names er.1 = [] ∨
    ∃ d fs, dx = some d ∧ H d = some (.xd fs) ∧ ∀ (j : Nat) n v, (T.names er.1)[j]? = some n → vs[j]? = some v → fs.lookup n = some v)
/-- what is wanted behind -/
def Pst {α β : Type} (T : Tab) (K : PySem.W.Frag) (W : WX) (σ : L2.St) (ρ : Rho) (H : Hp) (R : Rho → Hp → β → α → Prop) (r : Except Er α) (st' : Sto) (Q : β → Hp → Prop) : Prop :=
  match r with
  | .ok d => ∀ v H' ρ', Evo ρ H ρ' H' → RS T K ρ' H' st' → R ρ' H' v d → Q v H'
  | .error er => ∀ cls dx H' ρ', Evo ρ H ρ' H' → RS T K ρ' H' st' → EW T K ρ' H' er cls dx → W cls dx σ H'
/-- a reading and its function -/
def Sem {α β : Type} (T : Tab) (K : PySem.W.Frag) (W : WX) (R : Rho → Hp → β → α → Prop) (t : L2.St → Hp → (β → Hp → Prop) → Prop) (f : Env → M α) : Prop :=
  ∀ (ρ : Rho) (σ : L2.St) (H : Hp) (Q : β → Hp → Prop) (e : Env) (st : Sto) (r : Except Er α) (st' : Sto), RS T K ρ H st → REnv T K ρ H σ e → f e st = some (r, st') → Pst T K W σ ρ H R r st' Q → t σ H Q

def RB : Rho → Hp → Bool → Bool → Prop := fun _ _ a b => a = b
def RO : Rho → Hp → Option Int → Option Int → Prop := fun _ _ a b => a = b

section
variable {T : Tab} {K : PySem.W.Frag} {W : WX} {ρ ρ' ρ1 : Rho} {H H' H1 : Hp} {st st' st1 : Sto} {σ : L2.St} {e : Env} {α β γ δ : Type}
theorem REnv.mono (h : REnv T K ρ H σ e) (w : Wf ρ H) (ev : Evo ρ H ρ' H') : REnv T K ρ' H' σ e :=
  ⟨h.len, fun i d q => let ⟨v, h1, h2⟩ := h.at_ i d q; ⟨v, h1, h2.mono w ev⟩⟩
theorem Pst.from_ {R : Rho → Hp → β → α → Prop} {r : Except Er α} {Q : β → Hp → Prop} (h : Pst T K W σ ρ H R r st' Q) (ev : Evo ρ H ρ1 H1) : Pst T K W σ ρ1 H1 R r st' Q := by
  cases r with
  | ok d => exact fun v H' ρ' e s q => h v H' ρ' (ev.trans e) s q
  | error er => exact fun cls dx H' ρ' e s q => h cls dx H' ρ' (ev.trans e) s q
theorem Pst.err {R : Rho → Hp → β → α → Prop} {R2 : Rho → Hp → δ → γ → Prop} {er : Er} {Q : β → Hp → Prop} {Q2 : δ → Hp → Prop} (h : Pst T K W σ ρ H R (.error er) st' Q) : Pst T K W σ ρ H R2 (.error er) st' Q2 := h

/-- one reading behind another -/
theorem Sem.bind {R : Rho → Hp → β → α → Prop} {R2 : Rho → Hp → δ → γ → Prop} {t : L2.St → Hp → (β → Hp → Prop) → Prop} {f : Env → M α} {k : α → M γ} {Q : δ → Hp → Prop} {r : Except Er γ} (ht : Sem T K W R t f)
    (s : RS T K ρ H st) (en : REnv T K ρ H σ e) (h : mbind (f e) k st = some (r, st')) (hp : Pst T K W σ ρ H R2 r st' Q) {Qm : β → Hp → Prop}
    (hk : ∀ (v : β) (d : α) (ρ1 : Rho) (H1 : Hp) (st1 : Sto), Evo ρ H ρ1 H1 → RS T K ρ1 H1 st1 → REnv T K ρ1 H1 σ e → R ρ1 H1 v d → k d st1 = some (r, st') → Pst T K W σ ρ1 H1 R2 r st' Q → Qm v H1) : t σ H Qm := by
  rcases mbind_some h with ⟨d, st1, h1, h2⟩ | ⟨er, h1, rfl⟩
  · exact ht ρ σ H Qm e st _ st1 s en h1 fun v H1 ρ1 ev s1 q => hk v d ρ1 H1 st1 ev s1 (en.mono s.wf ev) q h2 (hp.from_ ev)
  · exact ht ρ σ H Qm e st _ st' s en h1 hp.err

/-! ### names, constants -/
def fVar (i : Nat) : EF := fun e st => match e[i]? with
  | some (some .self) => none
  | some (some d) => some (.ok d, st)
  | _ => none
theorem fVar_some {i : Nat} {r : Except Er D} (h : fVar i e st = some (r, st')) : ∃ d, e[i]? = some (some d) ∧ d ≠ .self ∧ r = .ok d ∧ st' = st := by
  unfold fVar at h
  cases e1 : e[i]? with
  | none =>
    rw [e1] at h
    cases h
  | some o =>
    rw [e1] at h
    cases o with
    | none => cases h
    | some d => cases d <;> first | (cases h; done) | (cases h; exact ⟨_, rfl, (fun z => nomatch z), rfl, rfl⟩)
theorem RpS.val {v : V} {d : D} (h : RpS T K ρ H v d) (n : d ≠ .self) : Rp T K ρ H v d := by
  rcases h with h | ⟨z, _⟩
  · exact h
  · exact absurd z n
theorem sem_var (i : Nat) : Sem T K W (Rp T K) (tVar i) (fVar i) := by
  intro ρ σ H Q e st r st' s en h hp
  obtain ⟨d, e1, n, rfl, rfl⟩ := fVar_some h
  obtain ⟨v, h1, h2⟩ := en.at_ i d e1
  exact ⟨v, h1, hp v H ρ Evo.refl s (h2.val n)⟩
def fC (d : D) : EF := fun _ st => some (.ok d, st)
theorem sem_c {v : V} {d : D} (h : ∀ ρ H, Rp T K ρ H v d) : Sem T K W (Rp T K) (tC v) (fC d) := by
  intro ρ σ H Q e st r st' s en hf hp
  cases hf
  exact hp v H ρ Evo.refl s (h ρ H)
theorem sem_int (i : Int) : Sem T K W (Rp T K) (tC (.int i)) (fC (.int i)) := sem_c fun _ _ => .int i
theorem sem_str (x : Str) : Sem T K W (Rp T K) (tC (.str x)) (fC (.str x)) := sem_c fun _ _ => .str x
theorem sem_bl (b : Bool) : Sem T K W (Rp T K) (tC (.bl b)) (fC (.bl b)) := sem_c fun _ _ => .bl b
theorem sem_non : Sem T K W (Rp T K) (tC .non) (fC .non) := sem_c fun _ _ => .non

/-! ### arguments, displays -/
def fNil : AF := fun _ => mret []
def fCons (f : EF) (g : AF) : AF := fun e => mbind (f e) fun d => mbind (g e) fun ds => mret (d :: ds)
theorem sem_nil : Sem T K W (RpL T K) tNil fNil := by
  intro ρ σ H Q e st r st' s en h hp
  cases h
  exact hp [] H ρ Evo.refl s .nil
theorem sem_cons {ta : TE} {tr : TA} {f : EF} {g : AF} (h1 : Sem T K W (Rp T K) ta f) (h2 : Sem T K W (RpL T K) tr g) : Sem T K W (RpL T K) (tCons ta tr) (fCons f g) := by
  intro ρ σ H Q e st r st' s en h hp
  refine h1.bind s en h hp fun v d ρ1 H1 st1 ev s1 en1 q1 h' hp1 => ?_
  refine h2.bind s1 en1 h' hp1 fun vs ds ρ2 H2 st2 ev2 s2 en2 q2 h'' hp2 => ?_
  cases h''
  exact hp2 _ H2 ρ2 Evo.refl s2 (.cons (q1.mono s1.wf ev2) q2)
def bnd : Nat := 1000000
theorem bnd_line {n : Nat} (h : n ≤ bnd) : n ≤ sizeLine := Nat.le_trans h (by decide)
def fTup (g : AF) : EF := fun e => mbind (g e) fun ds st => if ds.length ≤ bnd then some (.ok (.tup ds), st) else none
theorem sem_tup {ta : TA} {g : AF} (h1 : Sem T K W (RpL T K) ta g) : Sem T K W (Rp T K) (tTup ta) (fTup g) := by
  intro ρ σ H Q e st r st' s en h hp
  refine h1.bind s en h hp fun vs ds ρ1 H1 st1 ev s1 en1 q1 h' hp1 => ?_
  have h2 : (if ds.length ≤ bnd then some ((.ok (.tup ds) : Except Er D), st1) else none) = some (r, st') := h'
  split at h2
  · rename_i hl
    cases h2
    refine ⟨bnd_line (by rw [q1.length]; exact hl), fun p hpn => ?_⟩
    exact hp1 (.ref p) (upd H1 p (.tup vs)) ρ1 (Evo.new hpn) (s1.evo0 hpn) (.tup (SqT.of upd_same) (q1.mono s1.wf (Evo.new hpn)))
  · cases h2
/-- a new list -/
def alloc (ds : List D) : M D := fun st => some (.ok (.ptr st.l.length), { st with l := st.l ++ [ds] })
theorem alloc_ok {ds : List D} {vs : List V} {Q : VK} {r : Except Er D} (s : RS T K ρ H st) (q : RpL T K ρ H vs ds) (h : alloc ds st = some (r, st')) (hp : Pst T K W σ ρ H (Rp T K) r st' Q) : ∀ p, H p = none → Q (.ref p) (upd H p (.lst vs)) := by
  intro p hpn
  cases h
  refine hp (.ref p) _ _ (Evo.newL hpn) (s.push hpn q) (.ptr ?_)
  show (ρ.l ++ [p])[st.l.length]? = some p
  rw [← s.len, List.getElem?_append_right (Nat.le_refl _)]
  simp
def fLst (g : AF) : EF := fun e => mbind (g e) fun ds st => if ds.length ≤ bnd then alloc ds st else none
theorem sem_lst {ta : TA} {g : AF} (h1 : Sem T K W (RpL T K) ta g) : Sem T K W (Rp T K) (tLst ta) (fLst g) := by
  intro ρ σ H Q e st r st' s en h hp
  refine h1.bind s en h hp fun vs ds ρ1 H1 st1 ev s1 en1 q1 h' hp1 => ?_
  have h2 : (if ds.length ≤ bnd then alloc ds st1 else none) = some (r, st') := h'
  split at h2
  · rename_i hl
    exact ⟨bnd_line (by rw [q1.length]; exact hl), alloc_ok s1 q1 h2 hp1⟩
  · cases h2

/-! ### operators by values -/
abbrev G2 := D → D → M D
/-- a two-place operation on values -/
def OpS (T : Tab) (K : PySem.W.Frag) (W : WX) (r : R2) (g : G2) : Prop :=
  ∀ (ρ : Rho) (σ : L2.St) (H : Hp) (Q : VK) (x y : V) (dx dy : D) (st : Sto) (res : Except Er D) (st' : Sto), RS T K ρ H st → Rp T K ρ H x dx → Rp T K ρ H y dy → g dx dy st = some (res, st') → Pst T K W σ ρ H (Rp T K) res st' Q → r x y H Q
def fOp (g : G2) (f1 f2 : EF) : EF := fun e => mbind (f1 e) fun x => mbind (f2 e) fun y => g x y
theorem sem_op {r : R2} {g : G2} {ta tb : TE} {f1 f2 : EF} (hr : OpS T K W r g) (h1 : Sem T K W (Rp T K) ta f1) (h2 : Sem T K W (Rp T K) tb f2) : Sem T K W (Rp T K) (tOp r ta tb) (fOp g f1 f2) := by
  intro ρ σ H Q e st res st' s en h hp
  refine h1.bind s en h hp fun v d ρ1 H1 st1 ev s1 en1 q1 h' hp1 => ?_
  refine h2.bind s1 en1 h' hp1 fun v2 d2 ρ2 H2 st2 ev2 s2 en2 q2 h'' hp2 => ?_
  exact hr ρ2 σ H2 Q v v2 d d2 st2 res st' s2 (q1.mono s1.wf ev2) q2 h'' hp2
/-- either of two readings -/
theorem OpS.orL {r r' : R2} {g : G2} (h : OpS T K W r g) : OpS T K W (fun x y H Q => r x y H Q ∨ r' x y H Q) g := fun ρ σ H Q x y dx dy st res st' s a b c d => .inl (h ρ σ H Q x y dx dy st res st' s a b c d)
theorem OpS.orR {r r' : R2} {g : G2} (h : OpS T K W r' g) : OpS T K W (fun x y H Q => r x y H Q ∨ r' x y H Q) g := fun ρ σ H Q x y dx dy st res st' s a b c d => .inr (h ρ σ H Q x y dx dy st res st' s a b c d)
/-- ints -/
def gI (g : Int → Int → Option D) : G2 := fun x y st => match x, y with
  | .int i, .int j => (g i j).map fun d => (.ok d, st)
  | _, _ => none
theorem ops_I {C : Int → Int → Prop} {f : Int → Int → V} {g : Int → Int → Option D} (hg : ∀ i j d, g i j = some d → C i j ∧ ∀ ρ H, Rp T K ρ H (f i j) d) : OpS T K W (rI C f) (gI g) := by
  intro ρ σ H Q x y dx dy st res st' s rx ry h hp
  cases rx <;> try cases h
  cases ry <;> try cases h
  rename_i i j
  have h' : (g i j).map (fun d => ((.ok d : Except Er D), st)) = some (res, st') := h
  cases e : g i j with
  | none =>
    rw [e] at h'
    cases h'
  | some d =>
    rw [e] at h'
    cases h'
    obtain ⟨h1, h2⟩ := hg i j d e
    exact ⟨i, j, rfl, rfl, h1, hp (f i j) H ρ Evo.refl s (h2 ρ H)⟩
theorem ops_I0 {f : Int → Int → V} {g : Int → Int → Option D} (hg : ∀ i j d, g i j = some d → ∀ ρ H, Rp T K ρ H (f i j) d) : OpS T K W (rI0 f) (gI g) := by
  intro ρ σ H Q x y dx dy st res st' s rx ry h hp
  cases rx <;> try cases h
  cases ry <;> try cases h
  rename_i i j
  have h' : (g i j).map (fun d => ((.ok d : Except Er D), st)) = some (res, st') := h
  cases e : g i j with
  | none =>
    rw [e] at h'
    cases h'
  | some d =>
    rw [e] at h'
    cases h'
    exact ⟨i, j, rfl, rfl, hp (f i j) H ρ Evo.refl s (hg i j d e ρ H)⟩
def gMinus : G2 := gI fun i j => some (.int (i - j))
theorem ops_sub : OpS T K W (rI0 fun i j => .int (i - j)) gMinus := ops_I0 fun i j d h ρ H => by
  cases h
  exact .int _
def mulOk (i j : Int) : Bool := decide (i.natAbs.log2 + j.natAbs.log2 < 1000000) || (decide (-(2 ^ 64) < i ∧ i < 2 ^ 64) || decide (-(2 ^ 64) < j ∧ j < 2 ^ 64))
def CMulA (i j : Int) : Prop := CMulW i j ∨ CMul i j
theorem op_mulA {X : Cx} : OpR X (binaryOp .Mult) (rI CMulA fun i j => .int (i * j)) := opI fun _ _ _ _ _ _ _ hc q => mul_int q (hc.elim CMulW.ok CMul.ok)
def gMul : G2 := gI fun i j => if mulOk i j then some (.int (i * j)) else none
theorem ops_mul : OpS T K W (rI CMulA fun i j => .int (i * j)) gMul := ops_I fun i j d h => by
  split at h
  · rename_i hm
    cases h
    refine ⟨?_, fun ρ H => .int _⟩
    unfold mulOk at hm
    simp only [Bool.or_eq_true, decide_eq_true_eq] at hm
    exact hm
  · cases h
def divOk (j : Int) : Bool := decide (0 < j) && decide (j.natAbs.log2 < 9000)
def gDiv : G2 := gI fun i j => if divOk j then some (.int (i / j)) else none
theorem ops_div : OpS T K W (rI CDivW fun i j => .int (i / j)) gDiv := ops_I fun i j d h => by
  split at h
  · rename_i hm
    cases h
    obtain ⟨h1, h2⟩ := Bool.and_eq_true_iff.mp hm
    exact ⟨⟨of_decide_eq_true h1, of_decide_eq_true h2⟩, fun ρ H => .int _⟩
  · cases h
def gMod : G2 := gI fun i j => if 0 < j then some (.int (i % j)) else none
theorem ops_mod : OpS T K W (rI (fun _ j => 0 < j) fun i j => .int (i % j)) gMod := ops_I fun i j d h => by
  split at h
  · rename_i hm
    cases h
    exact ⟨hm, fun ρ H => .int _⟩
  · cases h
def powOk (i j : Int) : Bool := decide (0 ≤ j) && (decide (j ≤ 1000000) && decide (i.natAbs < 2 ^ 64))
def gPow : G2 := gI fun i j => if powOk i j then some (.int (i ^ j.toNat)) else none
theorem ops_pow : OpS T K W (rI CPow fun i j => .int (i ^ j.toNat)) gPow := ops_I fun i j d h => by
  split at h
  · rename_i hm
    cases h
    obtain ⟨h1, h2⟩ := Bool.and_eq_true_iff.mp hm
    obtain ⟨h2, h3⟩ := Bool.and_eq_true_iff.mp h2
    exact ⟨⟨of_decide_eq_true h1, of_decide_eq_true h2, of_decide_eq_true h3⟩, fun ρ H => .int _⟩
  · cases h
def gCmp (p : Int → Int → Bool) : G2 := gI fun i j => some (.bl (p i j))
theorem ops_cmp {p : Int → Int → Bool} : OpS T K W (rI0 fun i j => .bl (p i j)) (gCmp p) := ops_I0 fun i j d h ρ H => by
  cases h
  exact .bl _
/-- + -/
def gAdd : G2 := fun x y st => match x, y with
  | .int i, .int j => some (.ok (.int (i + j)), st)
  | .str a, .str b => if a.length + b.length ≤ bnd then some (.ok (.str (a ++ b)), st) else none
  | .ptr n, .ptr m => match st.l[n]?, st.l[m]? with
    | some a, some b => if a.length + b.length ≤ bnd then alloc (a ++ b) st else none
    | _, _ => none
  | _, _ => none
def rAddA : R2 := fun x y H Q => (∃ i j, x = .int i ∧ y = .int j ∧ Q (.int (i + j)) H) ∨ ((∃ i j, x = .str i ∧ y = .str j ∧ i.length + j.length ≤ sizeLine ∧ Q (.str (i ++ j)) H) ∨ rCat x y H Q)
theorem op_addA {X : Cx} : OpR X (binaryOp .Add) rAddA := OpR.or op_add (OpR.or op_add_str op_cat)
theorem ops_add : OpS T K W rAddA gAdd := by
  intro ρ σ H Q x y dx dy st res st' s rx ry h hp
  unfold gAdd at h
  split at h
  · cases rx
    cases ry
    cases h
    exact .inl ⟨_, _, rfl, rfl, hp _ H ρ Evo.refl s (.int _)⟩
  · cases rx
    cases ry
    split at h
    · rename_i hl
      cases h
      exact .inr (.inl ⟨_, _, rfl, rfl, bnd_line hl, hp _ H ρ Evo.refl s (.str _)⟩)
    · cases h
  · cases rx with
    | ptr h1 =>
      cases ry with
      | ptr h2 =>
        split at h
        · rename_i n m a b e1 e2
          split at h
          · rename_i hl
            obtain ⟨vs, g1, g2⟩ := s.ent _ _ _ h1 e1
            obtain ⟨ws, g3, g4⟩ := s.ent _ _ _ h2 e2
            exact .inr (.inr ⟨_, _, _, _, rfl, rfl, g1, g3, bnd_line (by rw [g2.length, g4.length]; exact hl), alloc_ok s (g2.app g4) h hp⟩)
          · cases h
        · cases h
  · cases h
end
end Vm
/-! Vm3: comparisons of data and of instances; the types of values. -/
namespace PySem.W
open PySem PySem.Spec PySem.Calls PyProof.Rows
section
variable {prog : Program} {w : World} {A : Around} {E : Value → Shared → Prop} {s : Shared} {K : Frag} {x C L f : Addr} {h₀ : Heap} {m : Str → Option Value} {ox : Obj} {od : Option Obj} {name : Str} {b tb : Value}
/-- as ifBound_K, for a built-in's slot -/
theorem ifBound_KB {M : Model} {id : String} {args : List Value} {Q : Option Value → Shared → Prop} (X : K.In s.heap) (I : InstAt s.heap x ox C od) (hs : findIn K (.ref C) name = some (some (.builtin id))) (hb : bindSpecial (.builtin id) (.ref x) = pure (.builtin id, [.ref x]))
    (h : wpAny M A (call (.builtin id) (.ref x :: args)) (fun v => Q (some v)) E s) : wpAny M A (callSpecialIfBound? (.ref x) name args) Q E s := by
  simp only [callSpecialIfBound?, bindSpecialIfBound?]
  refine wpAny_holding (wpAny_bind (wpAny_bind (wpAny_bind (I.type.here ((looks_findIn X hs).here ?_)))))
  refine wpAny_bind (wpAny_askSetting (wpAny_ite ?_))
  have fin : wpAny M A (call (.builtin id) ([.ref x] ++ args) >>= fun v => pure (some v)) Q E s := wpAny_bind (wpAny_mono h (fun v s' h' => wpAny_pure h') fun _ _ h' => h')
  rw [hb]
  split
  · exact wpAny_bind (wpAny_pure (wpAny_pure (by exact fin)))
  · exact wpAny_tryCatch (wpAny_bind (wpAny_pure (wpAny_pure (by exact fin))))
/-- x != b, x an instance with an own __eq__ and the __ne__ of object -/
theorem ne_K {Q : Value → Shared → Prop} (hu : A.units + 1 < cLine) (F : Fr h₀ L s.heap m) (X₀ : K.In h₀) (I : InstAt s.heap x ox C od) (hb : Looks (model prog w) s.heap (typeOf b) tb) (hn : notFirst K C tb = true)
    (hs : findIn K (.ref C) "__ne__" = some (some (.builtin "object.__ne__"))) (he : findIn K (.ref C) "__eq__" = some (some (.ref f))) (hf : isFn K (.ref f) = true) (hm : mroIn K C (.type "object") = some true)
    (h : wpAny (model prog w) A.in1 (call (.ref f) [.ref x, b]) (fun v s' => ∃ c, v = .bool c ∧ Q (.bool (!c)) s') E s) : wpAny (model prog w) A (richCompare .NotEq (.ref x) b) Q E s := by
  have X := X₀.keeps F.keep
  have sub : Looks (model prog w) s.heap (isInstance (.ref x) (.type "object")) true := I.type.andThen (looks_mroIn X hm)
  have one : wpAny (model prog w) A (tryCompare (.ref x) (cmpInfo .NotEq).2.1 b) (fun r s' => ∃ v, r = some v ∧ Q v s') E s := by
    unfold tryCompare
    refine wpAny_bind (ifBound_KB X I hs (PySem.F.cmp_object.ne.bind _) (wpAny_call (codeAny_call_builtin PySem.F.cmp_object.ne.plain PySem.F.cmpEntry_ne ?_)))
    refine @check_slot (model prog w) _ _ s "object.__ne__" "object" "__ne__" (.ref x) [b] [] _ PySem.F.cmpKind_ne PySem.F.cmpSplit_ne sub (PySem.F.cmpArgs_ne _ _) ?_
    unfold Builtin.«object.__ne__»
    obtain ⟨hp, g, d, t, os⟩ := s
    repeat (first
      | with_reducible refine wpAny_cRoomFor (Nat.lt_of_succ_lt hu) ?_
      | with_reducible refine wpAny_cRoomFor (show (A.in1).units < cLine from hu) ?_
      | (refine wpAny_bind (m := callSpecialIfBound? (.ref x) (Str.ofString "__eq__") [b])
          (ifBound_K X I he hf (wpAny_mono h (fun r s' hr => by
            obtain ⟨c, rfl, hq⟩ := hr
            repeat (first | exact ⟨_, rfl, hq⟩ | exact hq | exact wpAny_pure hq | exact wpAny_pure ⟨_, rfl, hq⟩ | exact wpAny_truthy_bool hq | (refine wpAny_bind (m := truthy (.bool _)) (wpAny_truthy_bool ?_)) | wp_step)) fun _ _ e => e)))
      | wp_step)
  unfold richCompare
  simp only [oneThing_ref]
  refine wpAny_holding (wpAny_bind (wpAny_cRoomFor (Nat.lt_of_succ_lt hu) ?_))
  refine wpAny_bind (I.type.here (wpAny_bind (hb.here ?_)))
  split
  · rename_i q
    have e : subIn K tb (.ref C) = some false := by
      rcases Bool.or_eq_true_iff.mp hn with e | e
      · rw [beq_iff_eq.mp e] at q; simp at q
      · exact beq_iff_eq.mp e
    refine wpAny_bind ((looks_subIn X e).here ?_)
    simp only [Bool.false_eq_true, if_false]
    refine wpAny_bind (wpAny_mono one (fun r s' z => ?_) fun _ _ e => e)
    obtain ⟨v, rfl, hq⟩ := z
    exact wpAny_pure hq
  · refine wpAny_bind (wpAny_pure ?_)
    simp only [Bool.false_eq_true, if_false]
    refine wpAny_bind (wpAny_mono one (fun r s' z => ?_) fun _ _ e => e)
    obtain ⟨v, rfl, hq⟩ := z
    exact wpAny_pure hq
end
section
variable {prog : Program} {w : World} {A : Around} {E : Value → Shared → Prop} {s : Shared} {K : Frag} {x D : Addr} {ox od : Obj}
/-- e.__class__ of an error that has its own dict (or none as yet) -/
theorem kin_classD {oo : Option Obj} {Q : Option Value → Shared → Prop} (hga : findIn K (.ref D) "__getattribute__" = some (some (.builtin "BaseException.__getattribute__"))) (hgt : findIn K (.ref D) "__getattr__" = some none) (hsub : subIn K (.ref D) (.type "BaseException") = some true)
    (hf : findObj K D oo "__class__" = some (.bind (.builtin "getset_descriptor.__get__") (.builtin "object.__class__"))) (hm : mroIn K D (.type "object") = some true)
    (X : K.In s.heap) (I : InstAt s.heap x ox D oo) (h : Q (some (.ref D)) { s with toks := s.toks + 1 }) : wpAny (model prog w) A (getAttr? (.ref x) "__class__") Q E s := by
  obtain ⟨hp, g, d, t, os⟩ := s
  have L0 := I.type (M := model prog w)
  have L1 := looks_findIn (M := model prog w) X hga
  have L2 := looks_findIn (M := model prog w) X hgt
  have L3 := looks_find (M := model prog w) X I hf
  have sub : Looks (model prog w) hp (isInstance (.ref x) (.type "BaseException")) true := L0.andThen (looks_subIn X hsub)
  have hx0 : (false && onTheHeap (Value.builtin "BaseException.__getattribute__")) = false := rfl
  have hx2 : (Value.builtin "BaseException.__getattribute__" == Value.builtin "object.__getattribute__") = false := by decide +kernel
  have hx1 : (onTheHeap (Value.ref D) && Value.builtin "BaseException.__getattribute__" == Value.builtin "object.__getattribute__") = false := by rw [hx2]; rfl
  unfold getAttr? getAttrBy? getAttrBy
  refine wpAny_bind (wpAny_mkText (wpAny_bind (wpAny_attempt (wpAny_holding (wpAny_bind (L0.at (wpAny_bind (L1.at ?_))))))))
  show wpAny _ _ (if (onTheHeap (Value.ref D) && Value.builtin "BaseException.__getattribute__" == Value.builtin "object.__getattribute__") = true then _ else _) _ _ _
  rw [hx1, if_neg Bool.false_ne_true]
  unfold getAttrByItsOwn hookBefore
  refine wpAny_bind ?_
  rw [if_pos (show onTheHeap (Value.ref D) = true from rfl)]
  refine L2.at ?_
  refine wpAny_bind (wpAny_attempt (wpAny_holding ?_))
  unfold callGetattribute
  rw [hx0, if_neg Bool.false_ne_true]
  unfold boundAndCalled
  rw [PySem.F.excAttr_ValueError.ga.bind (.ref x)]
  refine wpAny_bind (wpAny_pure ?_)
  show wpAny _ _ (call (.builtin "BaseException.__getattribute__") [.ref x, .str "__class__" t]) _ _ _
  refine wpAny_call (codeAny_call_builtin PySem.F.excAttr_ValueError.ga.plain PySem.F.entry_bexc_ga ?_)
  refine @check_slot (model prog w) _ _ ⟨hp, g, d, t + 1, os⟩ "BaseException.__getattribute__" "BaseException" "__getattribute__" (.ref x) [.str "__class__" t] [] _ (by decide +kernel) (by decide +kernel) sub (PySem.F.args_bexc_ga (.ref x) (.str "__class__" t)) ?_
  unfold Builtin.«object.__getattribute__»
  refine wpAny_bind (wpAny_of_eq (a := ((Value.ref x : Value), [Value.str "__class__" t])) (by first | rfl | (simp only [slotArgs]; rfl)) ?_)
  refine wpAny_bind (wpAny_pure (wpAny_bind (L0.at (wpAny_bind (L3.at ?_)))))
  show wpAny _ _ (holding [Value.builtin "object.__class__"] (call (.builtin "getset_descriptor.__get__") [.builtin "object.__class__", .ref x, .ref D]) >>= ret) _ _ _
  refine wpAny_bind (wpAny_holding (wpAny_call (class_get (s := ⟨hp, g, d, t + 1, os⟩) (ox := ox) (od := oo) X I hm ?_)))
  refine wpAny_pure ?_
  show wpAny _ _ (handedOut (.ref D)) _ _ _
  rw [handedOut_of (v := .ref D) rfl]
  first
    | exact wpAny_pure (wpAny_pure h)
    | exact wpAny_pure h
    | exact wpAny_pure (wpAny_bind (wpAny_pure (wpAny_pure h)))
theorem kitx_excD {oo : Option Obj} (hga : findIn K (.ref D) "__getattribute__" = some (some (.builtin "BaseException.__getattribute__"))) (hgt : findIn K (.ref D) "__getattr__" = some none) (hsub : subIn K (.ref D) (.type "BaseException") = some true) (hdct : hasDictIn K D = true)
    (hf : findObj K D oo "__class__" = some (.bind (.builtin "getset_descriptor.__get__") (.builtin "object.__class__"))) (hm : mroIn K D (.type "object") = some true) :
    KitX K (.ref x) (.ref D) (fun h => InstAt h x ox D oo) where
  ty := fun _ _ _ I => I.type
  it := fun _ _ X _ => by
    obtain ⟨cdD, hcD, _⟩ := any_some hdct
    unfold clsIn at hcD
    split at hcD
    · rename_i c' d' cd' sl' ho
      intro A' Q' E' s' k q
      unfold isType loadHead
      exact wpAny_bind (wpAny_loadPart (k _ _ (X _ _ ho)) (wpAny_pure q))
    · cases hcD
  ne := fun h tp dd its n sl X htp => by
    obtain ⟨cdD, hcD, _⟩ := any_some hdct
    refine Bool.eq_false_iff.mpr fun q => ?_
    have e : D = tp := Value.ref.inj (beq_iff_eq.mp q)
    subst e
    unfold clsIn at hcD
    split at hcD
    · rename_i c' d' cd' sl' ho
      have z := (X _ _ ho).symm.trans htp
      cases z
    · cases hcD
  ca := fun X I k => kin_classD hga hgt hsub hf hm X I k
end
end PySem.W

namespace Vm
open PySem PySem.Spec PyProof.Rows L2
/-- what the written part says of a plain class -/
structure InsC (K : PySem.W.Frag) (C : Addr) : Prop where
  cl : Cls K C
  ha : PySem.W.findIn K (.ref C) "__class__" = some (some (.builtin "object.__class__"))
  hn : PySem.W.specialIn K (.builtin "object.__class__") "__get__" = some (some (.builtin "getset_descriptor.__get__"))
  ht : PySem.W.takesIn K (.builtin "object.__class__") = some true
  hm : PySem.W.mroIn K C (.type "object") = some true
def Ty.v (T : Tab) : Ty → Value
  | .non => .type "NoneType"
  | .bl => .type "bool"
  | .int => .type "int"
  | .str => .type "str"
  | .tup => .type "tuple"
  | .lst => .type "list"
  | .ins c => .ref (T.adr c)
  | .err c => .ref (T.adr c)
def Cl.v (T : Tab) : Cl → Value
  | .own c => .ref (T.adr c)
  | .ty x => .type x
def D.ty : D → Option Ty
  | .non => some .non
  | .bl _ => some .bl
  | .int _ => some .int
  | .str _ => some .str
  | .tup _ => some .tup
  | .ptr _ => some .lst
  | .fro _ => some .lst
  | .ins c _ => some (.ins c)
  | .err c _ => some (.err c)
  | .self => none
structure TabOk (T : Tab) (K : PySem.W.Frag) : Prop where
  ins : ∀ c, T.isIns c = true → InsC K (T.adr c)
  err : ∀ c, T.isErr c = true → ExcC K (T.adr c) ∧ OexC K (T.adr c)
  isi : ∀ t c b, T.isi t c = some b → PySem.W.kitOne K (t.v T) (c.v T) = some b
section
variable {X : Cx} {pins : List (Addr × Obj)} {σ : L2.St} {H : Hp} {s : Shared} {T : Tab} {ρ : Rho} {st : Sto}
theorem kitD (TK : TabOk T X.K) (I : Inv X pins σ H s) (rs : RS T X.K ρ H st) {v : V} {u : Value} {d : D} {t : Ty} (rp : Rp T X.K ρ H v d) (r : RelV v u) (ht : d.ty = some t) :
    ∃ P, PySem.W.KitX X.K u (t.v T) P ∧ P s.heap ∧ u ≠ .builtin "__main__.__loader__#opaque" := by
  cases rp with
  | non => cases ht; cases r; exact ⟨_, PySem.W.kitx_none, True.intro, fun z => nomatch z⟩
  | bl b => cases ht; cases r; exact ⟨_, PySem.W.kitx_bool, True.intro, fun z => nomatch z⟩
  | int i => cases ht; obtain ⟨t, rfl⟩ := r; exact ⟨_, PySem.W.kitx_int, True.intro, fun z => nomatch z⟩
  | str x => cases ht; obtain ⟨t, rfl⟩ := r; exact ⟨_, PySem.W.kitx_str, True.intro, fun z => nomatch z⟩
  | tup h q =>
    cases ht
    cases r
    obtain ⟨its, _, ⟨o, h1, h2, _⟩, _⟩ := I.tuple h
    exact ⟨_, PySem.W.kitx_tuple, ⟨o, h1, h2⟩, fun z => nomatch z⟩
  | @ptr a n h =>
    cases ht
    cases r
    obtain ⟨xs, hx⟩ := rs.wf.l a (List.mem_of_getElem? h)
    obtain ⟨its, _, ⟨o, m, h1, h2, _⟩, _⟩ := I.list (SqL.of hx)
    exact ⟨_, PySem.W.kitx_list, ⟨o, h1, h2⟩, fun z => nomatch z⟩
  | fro h q =>
    cases ht
    cases r
    obtain ⟨its, _, ⟨o, m, h1, h2, _⟩, _⟩ := I.list h.sql
    exact ⟨_, PySem.W.kitx_list, ⟨o, h1, h2⟩, fun z => nomatch z⟩
  | ins i h n l q =>
    cases ht
    cases r
    have c := TK.ins _ i
    obtain ⟨mA, O, _⟩ := ins_get I.hok h
    obtain ⟨od, J, _⟩ := O.look
    exact ⟨_, PySem.W.kitx_own (c.cl.get _) c.cl.hd c.ha c.hn c.ht c.hm, J, fun z => nomatch z⟩
  | @err a cc vs ds i h q =>
    cases ht
    cases r
    obtain ⟨c, _⟩ := TK.err _ i
    have hc : (PySem.W.clsIn X.K (T.adr cc)).isSome = true := by
      obtain ⟨cd, hc, _⟩ := PySem.W.any_some c.hd
      rw [hc]
      rfl
    obtain ⟨_, h⟩ := h
    rcases h with ⟨_, h⟩ | ⟨dx, fs, h, h2, _⟩
    · obtain ⟨t1, ho⟩ := exo_at I.hok h
      exact ⟨_, PySem.W.kitx_excD (oo := none) c.hg c.hk c.hs c.hd (PySem.W.findObj_dataN hc c.ha c.hn c.ht) c.hm, ⟨ho, rfl, rfl, trivial⟩, fun z => nomatch z⟩
    · obtain ⟨t1, ho⟩ := exo_at I.hok h
      obtain ⟨mA, hns, _⟩ := exd_at I.hok h2
      obtain ⟨od, hod, _⟩ := lookIn_ns hns
      exact ⟨_, PySem.W.kitx_excD (oo := some od) c.hg c.hk c.hs c.hd (PySem.W.findObj_data hc c.ha c.hn c.ht) c.hm, ⟨ho, rfl, rfl, hod⟩, fun z => nomatch z⟩
/-! ### defs by values -/
abbrev FnF := List D → M D
inductive RpSL (T : Tab) (K : PySem.W.Frag) (ρ : Rho) (H : Hp) : List V → List D → Prop
  | nil : RpSL T K ρ H [] []
  | cons {v : V} {vs : List V} {d : D} {ds : List D} : RpS T K ρ H v d → RpSL T K ρ H vs ds → RpSL T K ρ H (v :: vs) (d :: ds)
theorem RpL.toS {K : PySem.W.Frag} : ∀ {vs : List V} {ds : List D}, RpL T K ρ H vs ds → RpSL T K ρ H vs ds
  | _, _, .nil => .nil
  | _, _, .cons h r => .cons (.inl h) (RpL.toS r)
theorem RpSL.length {K : PySem.W.Frag} : ∀ {vs : List V} {ds : List D}, RpSL T K ρ H vs ds → vs.length = ds.length
  | _, _, .nil => rfl
  | _, _, .cons _ r => by rw [List.length_cons, List.length_cons, RpSL.length r]
theorem RpSL.get {K : PySem.W.Frag} : ∀ {vs : List V} {ds : List D}, RpSL T K ρ H vs ds → ∀ (i : Nat) d, ds[i]? = some d → ∃ v, vs[i]? = some v ∧ RpS T K ρ H v d
  | _, _, .nil, i, d, h => by simp at h
  | _, _, .cons h r, 0, d, e => by
    simp at e
    subst e
    exact ⟨_, rfl, h⟩
  | _, _, .cons h r, i + 1, d, e => by
    simp at e
    obtain ⟨v, h1, h2⟩ := RpSL.get r i d e
    exact ⟨v, by simpa using h1, h2⟩
/-- the promise of a def that does what F does on data -/
def spM (T : Tab) (K : PySem.W.Frag) (F : FnF) (n : Nat) : Sp := fun vs H Q E => ∃ (ρ : Rho) (ds : List D) (st : Sto) (r : Except Er D) (st' : Sto), ds.length = n ∧ RS T K ρ H st ∧ RpSL T K ρ H vs ds ∧ F ds st = some (r, st') ∧
  Pst T K (fun c d _ H => E c d H) [] ρ H (Rp T K) r st' Q
/-- a def of the text at f -/
structure FnM (P : Program) (w : World) (K : PySem.W.Frag) (mg : Str → Option Value) (base : Heap) (T : Tab) (k : Nat) (f : Addr) (F : FnF) (n : Nat) : Prop where
  ex : ∃ fd ps, ps.length = n ∧ FnOk P w K mg base (L2.CX P w) k f fd ps (spM T K F n) ∧ Binds K fd ps []
/-- around a body -/
structure Ctx (X : Cx) (W : WX) (k : Nat) : Prop where
  tk : Takes X W
  hp : PassesOwn (model X.prog X.w) X.A X.env X.xe
  calm : X.calm = true
  nd : X.N.Nodup
  room : Room k X.A
theorem Ctx.units {W : WX} {k : Nat} (C : Ctx X W k) : X.A.units + 64 < cLine := C.room.units
theorem Ctx.units65 {W : WX} {k : Nat} (C : Ctx X W k) : X.A.units + 65 < cLine := by
  have := C.room.un
  omega
/-- the def at f is called somewhere below, on these -/
theorem run_M {W : WX} {k n : Nat} {f : Addr} {F : FnF} {A : Around} {Q : VK} {us : List Value} {vs : List V} {ds : List D} {r : Except Er D} {st' : Sto} (tk : Takes X W) (FM : FnM X.prog X.w X.K X.mg X.base T k f F n) (hr : Room k A) (hA : A.frames = X.A.frames)
    (I : Inv X pins σ H s) (rv : Vals vs us) (hl : ds.length = n) (rs : RS T X.K ρ H st) (rp : RpSL T X.K ρ H vs ds) (hF : F ds st = some (r, st')) (hp : Pst T X.K W σ ρ H (Rp T X.K) r st' Q) :
    wpAny (model X.prog X.w) A (call (.ref f) us) (EP X pins σ Q) X.xe s := by
  obtain ⟨fd, ps, hps, FK, hb⟩ := FM.ex
  have hsp : spM T X.K F n vs H Q (WE W σ) := ⟨ρ, ds, st, r, st', hl, rs, rp, hF, hp⟩
  have e0 : Env0 X.prog X.w X.K X.mg X.base A X.stack s H := by
    have e := I.env0
    exact ⟨by rw [hA]; exact e.frames, e.mod, e.bs, e.bsz, e.funs, e.frf, e.hok, e.bare⟩
  have hlen : (us ++ []).length = ps.length := by
    rw [List.append_nil, ← rv.length, rp.length, hl, hps]
  have bt := hb s us I.kIn hlen
  rw [List.append_nil] at bt
  refine wpAny_call (codeAny_mono (FK.run A X.stack s H ⟨us, []⟩ us vs Q (WE W σ) hr e0 bt rv hsp) fun r s' hq => ?_)
  cases r with
  | error e => exact (passAt tk σ) pins H s e s' I hq
  | ok fl =>
    cases fl with
    | ret u => exact I.after hq
    | next => exact False.elim hq
    | brk => exact False.elim hq
    | cont => exact False.elim hq

/-! ### == and != -/
/-- data as the library's own -/
def allO {α β : Type} (f : α → Option β) : List α → Option (List β)
  | [] => some []
  | a :: r => match f a, allO f r with
    | some b, some bs => some (b :: bs)
    | _, _ => none
def toPD (st : Sto) : Nat → D → Option PyData
  | 0, _ => none
  | _ + 1, .non => some .none
  | _ + 1, .bl b => some (.bool b)
  | _ + 1, .int i => some (.int i)
  | _ + 1, .str x => some (.str x)
  | k + 1, .tup ds => (allO (toPD st k) ds).map .tuple
  | k + 1, .fro ds => (allO (toPD st k) ds).map .list
  | k + 1, .ptr n => match st.l[n]? with
    | some ds => (allO (toPD st k) ds).map .list
    | none => none
  | _ + 1, _ => none
theorem allO_dp {K : PySem.W.Frag} {f : D → Option PyData} (hf : ∀ v d p, Rp T K ρ H v d → f d = some p → Dp K H v p) : ∀ {vs : List V} {ds : List D} {ps : List PyData}, RpL T K ρ H vs ds → allO f ds = some ps → DpAll K H vs ps
  | _, _, ps, .nil, h => by
    cases h
    exact .nil
  | _, _, ps, .cons (d := d) (ds := ds) a r, h => by
    unfold allO at h
    cases e1 : f d with
    | none =>
      rw [e1] at h
      cases h
    | some b =>
      rw [e1] at h
      cases e2 : allO f ds with
      | none =>
        rw [e2] at h
        cases h
      | some bs =>
        rw [e2] at h
        cases h
        exact .cons (hf _ _ _ a e1) (allO_dp hf r e2)
theorem toPD_dp {K : PySem.W.Frag} (rs : RS T K ρ H st) : ∀ (k : Nat) (v : V) (d : D) (p : PyData), Rp T K ρ H v d → toPD st k d = some p → Dp K H v p := by
  intro k
  induction k with
  | zero =>
    intro v d p _ h
    cases h
  | succ k ih =>
    intro v d p rp h
    cases rp with
    | non => cases h; exact .non
    | bl b => cases h; exact .bl b
    | int i => cases h; exact .int i
    | str x => cases h; exact .str x
    | @tup a vs ds q r =>
      obtain ⟨ps, e, rfl⟩ := Option.map_eq_some_iff.mp (show (allO (toPD st k) ds).map PyData.tuple = some p from h)
      exact .tup q (allO_dp ih r e)
    | @fro a vs ds q r =>
      obtain ⟨ps, e, rfl⟩ := Option.map_eq_some_iff.mp (show (allO (toPD st k) ds).map PyData.list = some p from h)
      exact .lst q.sql (allO_dp ih r e)
    | @ptr a n q =>
      have h' : (match st.l[n]? with
        | some ds => (allO (toPD st k) ds).map PyData.list
        | none => none) = some p := h
      cases e1 : st.l[n]? with
      | none =>
        rw [e1] at h'
        cases h'
      | some ds =>
        rw [e1] at h'
        obtain ⟨ps, e, rfl⟩ := Option.map_eq_some_iff.mp h'
        obtain ⟨vs, g1, g2⟩ := rs.ent n a ds q e1
        exact .lst (SqL.of g1) (allO_dp ih g2 e)
    | ins i q1 q2 q3 q4 => cases h
    | err i q1 q2 => cases h
def depthPD : Nat := 20
def eqPD (neg : Bool) (st : Sto) (x y : D) : Option Bool := match toPD st depthPD x, toPD st depthPD y with
  | some p, some q => if SeqAt.shaped p && SeqAt.shaped q then some (if neg then !PyData.eqv p q else PyData.eqv p q) else none
  | _, _ => none
theorem eqPD_ok {K : PySem.W.Frag} {neg b : Bool} {x y : V} {dx dy : D} (rs : RS T K ρ H st) (rx : Rp T K ρ H x dx) (ry : Rp T K ρ H y dy) (h : eqPD neg st dx dy = some b) :
    ∃ p q, Dp K H x p ∧ Dp K H y q ∧ SeqAt.shaped p = true ∧ SeqAt.shaped q = true ∧ b = if neg then !PyData.eqv p q else PyData.eqv p q := by
  unfold eqPD at h
  cases e1 : toPD st depthPD dx with
  | none =>
    rw [e1] at h
    cases h
  | some p =>
    rw [e1] at h
    cases e2 : toPD st depthPD dy with
    | none =>
      rw [e2] at h
      cases h
    | some q =>
      rw [e2] at h
      dsimp only at h
      split at h
      · rename_i hs
        obtain ⟨h1, h2⟩ := Bool.and_eq_true_iff.mp hs
        cases h
        exact ⟨p, q, toPD_dp rs _ _ _ _ rx e1, toPD_dp rs _ _ _ _ ry e2, h1, h2, rfl⟩
      · cases h
/-- the own == of classes -/
abbrev EqT := Nat → Option FnF
def gEq (T : Tab) (et : EqT) (neg : Bool) : G2 := fun x y st => match x with
  | .ins c _ => match et c, y.ty with
    | some F, some t => if t = .ins c ∨ T.isi t (.own c) = some false then (match F [x, y] st with
        | some (.ok (.bl b), st') => some (.ok (.bl (if neg then !b else b)), st')
        | _ => none) else none
    | _, _ => none
  | _ => (eqPD neg st x y).map fun b => (.ok (.bl b), st)
/-- what the written part says of a class with an own == -/
structure EqC (K : PySem.W.Frag) (C f : Addr) : Prop where
  eq : PySem.W.findIn K (.ref C) "__eq__" = some (some (.ref f))
  fn : PySem.W.isFn K (.ref f) = true
  ne : PySem.W.findIn K (.ref C) "__ne__" = some (some (.builtin "object.__ne__"))
def EqOk (P : Program) (w : World) (K : PySem.W.Frag) (mg : Str → Option Value) (base : Heap) (T : Tab) (k : Nat) (et : EqT) : Prop :=
  ∀ c F, et c = some F → ∃ f, EqC K (T.adr c) f ∧ FnM P w K mg base T k f F 2
theorem notFirst_of {K : PySem.W.Frag} (TK : TabOk T K) {c : Nat} {t : Ty} (h : t = .ins c ∨ T.isi t (.own c) = some false) : PySem.W.notFirst K (T.adr c) (t.v T) = true := by
  unfold PySem.W.notFirst
  rcases h with rfl | h
  · simp [Ty.v]
  · have q := TK.isi t (.own c) false h
    have q' : (if (t.v T == Value.ref (T.adr c)) = true then some true else PySem.W.kitCls K (t.v T) (.ref (T.adr c))) = some false := q
    split at q'
    · cases q'
    · have q2 : (if ((PySem.W.clsIn K (T.adr c)).isSome && PySem.W.typeIn K (.ref (T.adr c)) == some (.type "type")) = true then PySem.W.subIn K (t.v T) (.ref (T.adr c)) else none) = some false := q'
      split at q2
      · rw [q2]
        simp
      · cases q2
/-- the reading -/
def rEqA (X : Cx) (T : Tab) (k : Nat) (W : WX) (neg : Bool) : R2 := fun x y H Q => (∃ p q, Dp X.K H x p ∧ Dp X.K H y q ∧ SeqAt.shaped p = true ∧ SeqAt.shaped q = true ∧ Q (.bl (if neg then !PyData.eqv p q else PyData.eqv p q)) H) ∨
  ∃ (ρ : Rho) (c : Nat) (ds : List D) (dy : D) (st : Sto) (t : Ty) (f : Addr) (F : FnF) (r : Except Er D) (st' : Sto), RS T X.K ρ H st ∧ Rp T X.K ρ H x (.ins c ds) ∧ Rp T X.K ρ H y dy ∧ dy.ty = some t ∧ PySem.W.notFirst X.K (T.adr c) (t.v T) = true ∧
    EqC X.K (T.adr c) f ∧ FnM X.prog X.w X.K X.mg X.base T k f F 2 ∧ F [.ins c ds, dy] st = some (r, st') ∧ ∀ σ : L2.St, Pst T X.K W σ ρ H (Rp T X.K) r st' (fun v H' => ∃ b, v = .bl b ∧ Q (.bl (if neg then !b else b)) H')
theorem op_eqA {W : WX} {k : Nat} (C : Ctx X W (k + 1)) (TK : TabOk T X.K) : OpR X (compareOp .Eq) (rEqA X T k W false) := by
  intro pins s σ H x y v u Q I rx ry h
  rcases h with ⟨p, q, h1, h2, h3, h4, h5⟩ | ⟨ρ, c, ds, dy, st, t, f, F, r, st', rs, px, py, hty, hnf, EC, FM, hF, hp⟩
  · exact op_eqD C.units pins s σ H x y v u Q I rx ry ⟨p, q, h1, h2, h3, h4, h5⟩
  · cases px with
    | ins i h n l q =>
      cases rx
      obtain ⟨mA, O, _⟩ := ins_get I.hok h
      obtain ⟨od, J, _⟩ := O.look
      obtain ⟨P, Z, hP, _⟩ := kitD TK I rs py ry hty
      obtain ⟨m, hF'⟩ := I.fr
      show wpAny _ _ (richCompare .Eq (Value.ref _) u) _ _ _
      refine PySem.W.cmp_K (op := .Eq) (tb := t.v T) C.room.units0 hF' I.ok.mod.kin J (Z.ty _ _ I.kIn hP) hnf EC.eq EC.fn ?_
      have px' : Rp T X.K ρ H (.ref _) (.ins c ds) := .ins i h n l q
      refine thn (run_M (vs := [.ref _, y]) (ds := [.ins c ds, dy]) C.tk FM (C.room.mono (Nat.le_succ _)) rfl I (.cons rfl (.cons ry .nil)) rfl rs (.cons (.inl px') (.cons (.inl py) .nil)) hF (hp σ)) fun z s' hz => ?_
      obtain ⟨v', H', I', rv, b, rfl, hb⟩ := hz
      cases rv
      show EP X pins σ Q (Value.bool b) s'
      exact ⟨.bl b, H', I', rfl, hb⟩
theorem op_neA {W : WX} {k : Nat} (C : Ctx X W (k + 1)) (TK : TabOk T X.K) : OpR X (compareOp .NotEq) (rEqA X T k W true) := by
  intro pins s σ H x y v u Q I rx ry h
  rcases h with ⟨p, q, h1, h2, h3, h4, h5⟩ | ⟨ρ, c, ds, dy, st, t, f, F, r, st', rs, px, py, hty, hnf, EC, FM, hF, hp⟩
  · exact op_neD C.units pins s σ H x y v u Q I rx ry ⟨p, q, h1, h2, h3, h4, h5⟩
  · cases px with
    | ins i h n l q =>
      cases rx
      obtain ⟨mA, O, _⟩ := ins_get I.hok h
      obtain ⟨od, J, _⟩ := O.look
      obtain ⟨P, Z, hP, _⟩ := kitD TK I rs py ry hty
      obtain ⟨m, hF'⟩ := I.fr
      show wpAny _ _ (richCompare .NotEq (Value.ref _) u) _ _ _
      refine PySem.W.ne_K (tb := t.v T) (by have := C.units; omega) hF' I.ok.mod.kin J (Z.ty _ _ I.kIn hP) hnf EC.ne EC.eq EC.fn (TK.ins _ i).hm ?_
      have px' : Rp T X.K ρ H (.ref _) (.ins c ds) := .ins i h n l q
      refine thn (run_M (vs := [.ref _, y]) (ds := [.ins c ds, dy]) C.tk FM C.room.in1 rfl I (.cons rfl (.cons ry .nil)) rfl rs (.cons (.inl px') (.cons (.inl py) .nil)) hF (hp σ)) fun z s' hz => ?_
      obtain ⟨v', H', I', rv, b, rfl, hb⟩ := hz
      cases rv
      exact ⟨b, rfl, .bl (!b), H', I', rfl, hb⟩
end
end Vm
/-! Vm4: the rest of the expressions. -/
namespace Vm
open PySem PySem.Spec PyProof.Rows L2
section
variable {X : Cx} {T : Tab} {K : PySem.W.Frag} {W : WX} {ρ ρ' ρ1 : Rho} {H H' H1 : Hp} {st st' st1 : Sto} {σ : L2.St} {e : Env} {α β γ δ : Type} {k : Nat}
theorem ops_eqA {et : EqT} {neg : Bool} (TK : TabOk T X.K) (EO : EqOk X.prog X.w X.K X.mg X.base T k et) : OpS T X.K W (rEqA X T k W neg) (gEq T et neg) := by
  intro ρ σ H Q x y dx dy st res st' s rx ry h hp
  have data : (eqPD neg st dx dy).map (fun b => ((.ok (.bl b) : Except Er D), st)) = some (res, st') → rEqA X T k W neg x y H Q := fun h => by
    obtain ⟨b, e, q⟩ := Option.map_eq_some_iff.mp h
    cases q
    obtain ⟨p, q, h1, h2, h3, h4, h5⟩ := eqPD_ok s rx ry e
    subst h5
    exact .inl ⟨p, q, h1, h2, h3, h4, hp _ H ρ Evo.refl s (.bl _)⟩
  cases dx with
  | ins c ds =>
    have h1 : (match et c, dy.ty with
      | some F, some t => if t = .ins c ∨ T.isi t (.own c) = some false then (match F [.ins c ds, dy] st with
        | some (.ok (.bl b), st') => some ((.ok (.bl (if neg then !b else b)) : Except Er D), st')
        | _ => none) else none
      | _, _ => none) = some (res, st') := h
    cases e1 : et c with
    | none =>
      rw [e1] at h1
      cases h1
    | some F =>
      cases e2 : dy.ty with
      | none =>
        rw [e1, e2] at h1
        cases h1
      | some t =>
        rw [e1, e2] at h1
        dsimp only at h1
        split at h1
        · rename_i hc
          obtain ⟨f, EC, FM⟩ := EO c F e1
          cases e3 : F [.ins c ds, dy] st with
          | none =>
            rw [e3] at h1
            cases h1
          | some r =>
            obtain ⟨r, st2⟩ := r
            rw [e3] at h1
            cases r with
            | error er => cases h1
            | ok d =>
              cases d with
              | bl b =>
                cases h1
                refine .inr ⟨ρ, c, ds, dy, st, t, f, F, _, st', s, rx, ry, e2, notFirst_of TK hc, EC, FM, e3, fun σ' v H' ρ' ev s' q => ?_⟩
                cases q
                exact ⟨b, rfl, hp _ H' ρ' ev s' (.bl _)⟩
              | _ => cases h1
        · cases h1
  | _ => exact data h

/-! ### isinstance(x, C) -/
def rIsD (T : Tab) (K : PySem.W.Frag) (w : V) : List V → Hp → VK → Prop := fun xs H Q => ∃ (ρ : Rho) (st : Sto) (x : V) (d : D) (t : Ty) (c : Cl) (b : Bool), RS T K ρ H st ∧ xs = [x, w] ∧ (∀ u, RelV w u → u = c.v T) ∧ Rp T K ρ H x d ∧ d.ty = some t ∧ T.isi t c = some b ∧ Q (.bl b) H
theorem call_isD {w : V} (TK : TabOk T X.K) : CallR X (.builtin "isinstance") (rIsD T X.K w) := by
  intro pins s σ H xs us Q I r h
  obtain ⟨ρ, st, x, d, t, c, b, rs, rfl, hw, rp, ht, hb, q⟩ := h
  obtain ⟨u1, u2, rfl, r1, r2⟩ := vals2 r
  have e := hw _ r2
  subst e
  obtain ⟨P, Z, hP, hx⟩ := kitD TK I rs rp r1 ht
  exact PySem.W.kia_one Z I.kIn hP (TK.isi t c b hb) hx fun tk => ⟨.bl b, H, I.tok tk, rfl, q⟩
/-- f1: the thing; c: the class, that stands as the second argument -/
def fIsD (T : Tab) (c : Cl) (f1 : EF) : EF := fun e => mbind (f1 e) fun d st => match d.ty with
  | some t => (T.isi t c).map fun b => (.ok (.bl b), st)
  | none => none
theorem sem_isD {ta tb : TE} {f1 : EF} {c : Cl} {w : V} (h1 : Sem T K W (Rp T K) ta f1) (htb : tb = tC w) (hw : ∀ u, RelV w u → u = c.v T) : Sem T K W (Rp T K) (tCB (rIsD T K w) (tCons ta (tCons tb tNil))) (fIsD T c f1) := by
  subst htb
  intro ρ σ H Q e st res st' s en h hp
  refine h1.bind s en h hp fun v d ρ1 H1 st1 ev s1 en1 q1 h' hp1 => ?_
  cases e1 : d.ty with
  | none =>
    rw [e1] at h'
    cases h'
  | some t =>
    rw [e1] at h'
    obtain ⟨b, e2, e3⟩ := Option.map_eq_some_iff.mp h'
    cases e3
    exact ⟨ρ1, _, v, d, t, c, b, s1, rfl, hw, q1, e1, e2, hp1 _ H1 ρ1 Evo.refl s1 (.bl b)⟩

/-! ### in, not in -/
def inPD (neg : Bool) (st : Sto) (x y : D) : Option Bool := match toPD st depthPD x, toPD st depthPD y with
  | some p, some (.list qs) => if SeqAt.shaped p && SeqAt.shaped (.list qs) then some (if neg then !qs.any fun z => PyData.eqv z p else qs.any fun z => PyData.eqv z p) else none
  | _, _ => none
def gIn (neg : Bool) : G2 := fun x y st => (inPD neg st x y).map fun b => (.ok (.bl b), st)
theorem ops_in {neg : Bool} : OpS T K W (fun x y H Q => ∃ d ds, Dp K H x d ∧ Dp K H y (.list ds) ∧ SeqAt.shaped d = true ∧ SeqAt.shaped (.list ds) = true ∧ Q (.bl (if neg then !ds.any fun z => PyData.eqv z d else ds.any fun z => PyData.eqv z d)) H) (gIn neg) := by
  intro ρ σ H Q x y dx dy st res st' s rx ry h hp
  obtain ⟨b, e, q⟩ := Option.map_eq_some_iff.mp h
  cases q
  unfold inPD at e
  cases e1 : toPD st depthPD dx with
  | none =>
    rw [e1] at e
    cases e
  | some p =>
    cases e2 : toPD st depthPD dy with
    | none =>
      rw [e1, e2] at e
      cases e
    | some q =>
      rw [e1, e2] at e
      cases q with
      | list qs =>
        dsimp only at e
        split at e
        · rename_i hs
          obtain ⟨h1, h2⟩ := Bool.and_eq_true_iff.mp hs
          cases e
          exact ⟨p, qs, toPD_dp s _ _ _ _ rx e1, toPD_dp s _ _ _ _ ry e2, h1, h2, hp _ H ρ Evo.refl s (.bl _)⟩
        · cases e
      | _ => cases e
theorem op_inA {k : Nat} (C : Ctx X W k) : OpR X (compareOp .In) (fun x y H Q => ∃ d ds, Dp X.K H x d ∧ Dp X.K H y (.list ds) ∧ SeqAt.shaped d = true ∧ SeqAt.shaped (.list ds) = true ∧ Q (.bl (if false then !ds.any fun z => PyData.eqv z d else ds.any fun z => PyData.eqv z d)) H) := op_inD C.units65
theorem op_ninA {k : Nat} (C : Ctx X W k) : OpR X (compareOp .NotIn) (fun x y H Q => ∃ d ds, Dp X.K H x d ∧ Dp X.K H y (.list ds) ∧ SeqAt.shaped d = true ∧ SeqAt.shaped (.list ds) = true ∧ Q (.bl (if true then !ds.any fun z => PyData.eqv z d else ds.any fun z => PyData.eqv z d)) H) := op_notInD C.units65

/-! ### is None -/
def fIsN (neg : Bool) (f : EF) : EF := fun e => mbind (f e) fun d => match d with
  | .non => mret (.bl (!neg))
  | _ => mret (.bl neg)
theorem sem_isN {ta : TE} {f : EF} (h1 : Sem T K W (Rp T K) ta f) : Sem T K W (Rp T K) (tIsN ta) (fIsN false f) := by
  intro ρ σ H Q e st res st' s en h hp
  refine h1.bind s en h hp fun v d ρ1 H1 st1 ev s1 en1 q1 h' hp1 => ?_
  cases q1 <;> (cases h'; exact hp1 _ H1 ρ1 Evo.refl s1 (.bl _))
theorem sem_notN {ta : TE} {f : EF} (h1 : Sem T K W (Rp T K) ta f) : Sem T K W (Rp T K) (tNotN ta) (fIsN true f) := by
  intro ρ σ H Q e st res st' s en h hp
  refine h1.bind s en h hp fun v d ρ1 H1 st1 ev s1 en1 q1 h' hp1 => ?_
  cases q1 <;> (cases h'; exact hp1 _ H1 ρ1 Evo.refl s1 (.bl _))

/-! ### tests -/
/-- an expression that gives a truth value, as a test -/
def fB (f : EF) : TF := fun e => mbind (f e) fun d => match d with
  | .bl b => mret b
  | _ => fun _ => none
theorem sem_test {ta : TE} {f : EF} (h1 : Sem T K W (Rp T K) ta f) : Sem T K W RB (tTest ta) (fB f) := by
  intro ρ σ H Q e st res st' s en h hp
  refine h1.bind s en h hp fun v d ρ1 H1 st1 ev s1 en1 q1 h' hp1 => ?_
  cases d with
  | bl b =>
    cases q1
    cases h'
    exact ⟨b, rfl, hp1 _ H1 ρ1 Evo.refl s1 rfl⟩
  | _ => cases h'
theorem sem_tB {ta : TE} {f : EF} (h1 : Sem T K W (Rp T K) ta f) : Sem T K W RB (tB ta) (fB f) := by
  intro ρ σ H Q e st res st' s en h hp
  refine h1.bind s en h hp fun v d ρ1 H1 st1 ev s1 en1 q1 h' hp1 => ?_
  cases d with
  | bl b =>
    cases q1
    cases h'
    exact ⟨b, rfl, hp1 _ H1 ρ1 Evo.refl s1 rfl⟩
  | _ => cases h'
def fAnd (f g : TF) : TF := fun e => mbind (f e) fun b => if b then g e else mret false
def fOr (f g : TF) : TF := fun e => mbind (f e) fun b => if b then mret true else g e
def fNot (f : TF) : TF := fun e => mbind (f e) fun b => mret (!b)
theorem sem_and {ta tb : TT} {f g : TF} (h1 : Sem T K W RB ta f) (h2 : Sem T K W RB tb g) : Sem T K W RB (tAnd ta tb) (fAnd f g) := by
  intro ρ σ H Q e st res st' s en h hp
  refine h1.bind s en h hp fun v d ρ1 H1 st1 ev s1 en1 q1 h' hp1 => ?_
  cases (q1 : v = d)
  cases v with
  | true => exact iteT (h2 ρ1 σ H1 Q e st1 res st' s1 en1 h' hp1)
  | false =>
    cases h'
    exact iteF (hp1 _ H1 ρ1 Evo.refl s1 rfl)
theorem sem_or {ta tb : TT} {f g : TF} (h1 : Sem T K W RB ta f) (h2 : Sem T K W RB tb g) : Sem T K W RB (tOr ta tb) (fOr f g) := by
  intro ρ σ H Q e st res st' s en h hp
  refine h1.bind s en h hp fun v d ρ1 H1 st1 ev s1 en1 q1 h' hp1 => ?_
  cases (q1 : v = d)
  cases v with
  | false => exact iteF (h2 ρ1 σ H1 Q e st1 res st' s1 en1 h' hp1)
  | true =>
    cases h'
    exact iteT (hp1 _ H1 ρ1 Evo.refl s1 rfl)
theorem sem_not {ta : TT} {f : TF} (h1 : Sem T K W RB ta f) : Sem T K W RB (tNot ta) (fNot f) := by
  intro ρ σ H Q e st res st' s en h hp
  refine h1.bind s en h hp fun v d ρ1 H1 st1 ev s1 en1 q1 h' hp1 => ?_
  cases (q1 : v = d)
  cases h'
  exact hp1 _ H1 ρ1 Evo.refl s1 rfl
/-- as values -/
def fAndV (f g : EF) : EF := fun e => mbind (f e) fun d => match d with
  | .bl true => g e
  | .bl false => mret (.bl false)
  | _ => fun _ => none
def fOrV (f g : EF) : EF := fun e => mbind (f e) fun d => match d with
  | .bl true => mret (.bl true)
  | .bl false => g e
  | _ => fun _ => none
def fNotV (f : EF) : EF := fun e => mbind (f e) fun d => match d with
  | .bl b => mret (.bl (!b))
  | _ => fun _ => none
theorem sem_andV {ta tb : TE} {f g : EF} (h1 : Sem T K W (Rp T K) ta f) (h2 : Sem T K W (Rp T K) tb g) : Sem T K W (Rp T K) (tAndV ta tb) (fAndV f g) := by
  intro ρ σ H Q e st res st' s en h hp
  refine h1.bind s en h hp fun v d ρ1 H1 st1 ev s1 en1 q1 h' hp1 => ?_
  cases d with
  | bl b =>
    cases q1
    cases b with
    | true => exact ⟨true, rfl, iteT (h2 ρ1 σ H1 Q e st1 res st' s1 en1 h' hp1)⟩
    | false =>
      cases h'
      exact ⟨false, rfl, iteF (hp1 _ H1 ρ1 Evo.refl s1 (.bl false))⟩
  | _ => cases h'
theorem sem_orV {ta tb : TE} {f g : EF} (h1 : Sem T K W (Rp T K) ta f) (h2 : Sem T K W (Rp T K) tb g) : Sem T K W (Rp T K) (tOrV ta tb) (fOrV f g) := by
  intro ρ σ H Q e st res st' s en h hp
  refine h1.bind s en h hp fun v d ρ1 H1 st1 ev s1 en1 q1 h' hp1 => ?_
  cases d with
  | bl b =>
    cases q1
    cases b with
    | false => exact ⟨false, rfl, iteF (h2 ρ1 σ H1 Q e st1 res st' s1 en1 h' hp1)⟩
    | true =>
      cases h'
      exact ⟨true, rfl, iteT (hp1 _ H1 ρ1 Evo.refl s1 (.bl true))⟩
  | _ => cases h'
theorem sem_notV {ta : TE} {f : EF} (h1 : Sem T K W (Rp T K) ta f) : Sem T K W (Rp T K) (tNotV ta) (fNotV f) := by
  intro ρ σ H Q e st res st' s en h hp
  refine h1.bind s en h hp fun v d ρ1 H1 st1 ev s1 en1 q1 h' hp1 => ?_
  cases d with
  | bl b =>
    cases q1
    cases h'
    exact ⟨b, rfl, hp1 _ H1 ρ1 Evo.refl s1 (.bl _)⟩
  | _ => cases h'
def fIf (c : TF) (f g : EF) : EF := fun e => mbind (c e) fun b => if b then f e else g e
theorem sem_ifE {tc : TT} {ta tb : TE} {c : TF} {f g : EF} (h0 : Sem T K W RB tc c) (h1 : Sem T K W (Rp T K) ta f) (h2 : Sem T K W (Rp T K) tb g) : Sem T K W (Rp T K) (tIf tc ta tb) (fIf c f g) := by
  intro ρ σ H Q e st res st' s en h hp
  refine h0.bind s en h hp fun v d ρ1 H1 st1 ev s1 en1 q1 h' hp1 => ?_
  cases (q1 : v = d)
  cases v with
  | true => exact iteT (h1 ρ1 σ H1 Q e st1 res st' s1 en1 h' hp1)
  | false => exact iteF (h2 ρ1 σ H1 Q e st1 res st' s1 en1 h' hp1)

/-! ### subscripts -/
def rIxA (K : PySem.W.Frag) : R2 := fun x y H Q => rIxL K x y H Q ∨ (rIxT K x y H Q ∨ rIxS x y H Q)
def gIx : G2 := fun x y st => match y with
  | .int i => match x with
    | .ptr n => match st.l[n]? with
      | some ds => (atI ds i).map fun d => (.ok d, st)
      | none => none
    | .tup ds => (atI ds i).map fun d => (.ok d, st)
    | .fro ds => (atI ds i).map fun d => (.ok d, st)
    | .str z => if z.length ≤ bnd then (atI z.cps.toList i).map fun c => (.ok (.str ⟨#[c]⟩), st) else none
    | _ => none
  | _ => none
theorem RpL.atI {vs : List V} {ds : List D} (h : RpL T K ρ H vs ds) {i : Int} {d : D} (e : L2.atI ds i = some d) : ∃ v, L2.atI vs i = some v ∧ Rp T K ρ H v d := by
  unfold L2.atI at e ⊢
  rw [h.length]
  cases q : ixN ds.length i with
  | none =>
    rw [q] at e
    cases e
  | some j =>
    rw [q] at e
    obtain ⟨v, h1, h2⟩ := h.get j d e
    exact ⟨v, h1, h2⟩
theorem ops_ix : OpS T K W (rIxA K) gIx := by
  intro ρ σ H Q x y dx dy st res st' s rx ry h hp
  unfold gIx at h
  cases ry <;> try (cases h; done)
  rename_i i
  dsimp only at h
  cases rx with
  | @ptr a n q =>
    dsimp only at h
    cases e1 : st.l[n]? with
    | none =>
      rw [e1] at h
      cases h
    | some ds =>
      rw [e1] at h
      obtain ⟨d, e2, e3⟩ := Option.map_eq_some_iff.mp h
      cases e3
      obtain ⟨vs, g1, g2⟩ := s.ent n a ds q e1
      obtain ⟨v, g3, g4⟩ := g2.atI e2
      exact .inl ⟨a, vs, i, v, rfl, rfl, SqL.of g1, g3, hp _ H ρ Evo.refl s g4⟩
  | tup q r =>
    obtain ⟨d, e2, e3⟩ := Option.map_eq_some_iff.mp h
    cases e3
    obtain ⟨v, g3, g4⟩ := r.atI e2
    exact .inr (.inl ⟨_, _, i, v, rfl, rfl, q, g3, hp _ H ρ Evo.refl s g4⟩)
  | fro q r =>
    obtain ⟨d, e2, e3⟩ := Option.map_eq_some_iff.mp h
    cases e3
    obtain ⟨v, g3, g4⟩ := r.atI e2
    exact .inl ⟨_, _, i, v, rfl, rfl, q.sql, g3, hp _ H ρ Evo.refl s g4⟩
  | str z =>
    dsimp only at h
    split at h
    · rename_i hl
      obtain ⟨c, e2, e3⟩ := Option.map_eq_some_iff.mp h
      cases e3
      exact .inr (.inr ⟨z, i, c, rfl, rfl, bnd_line hl, e2, hp _ H ρ Evo.refl s (.str _)⟩)
    · cases h
  | _ => cases h
theorem ix_A : IxR X (rIxA X.K) := ix_seq
/-- an optional part of a slice -/
abbrev OF := Env → M (Option Int)
def fNoP : OF := fun _ => mret none
def fPart (f : EF) : OF := fun e => mbind (f e) fun d => match d with
  | .int i => mret (some i)
  | _ => fun _ => none
theorem sem_noP : Sem T K W RO tNoPart fNoP := by
  intro ρ σ H Q e st res st' s en h hp
  cases h
  exact hp none H ρ Evo.refl s rfl
theorem sem_part {ta : TE} {f : EF} (h1 : Sem T K W (Rp T K) ta f) : Sem T K W RO (tPart ta) (fPart f) := by
  intro ρ σ H Q e st res st' s en h hp
  refine h1.bind s en h hp fun v d ρ1 H1 st1 ev s1 en1 q1 h' hp1 => ?_
  cases d with
  | int i =>
    cases q1
    cases h'
    exact ⟨i, rfl, hp1 _ H1 ρ1 Evo.refl s1 rfl⟩
  | _ => cases h'
/-- what a slice takes -/
def cutD {α : Type} (xs : List α) (lo hi : Option Int) : List α := (xs.drop (HT.sIx xs.length 0 lo)).take (HT.sIx xs.length xs.length hi - HT.sIx xs.length 0 lo)
theorem RpL.cut {vs : List V} {ds : List D} (h : RpL T K ρ H vs ds) (lo hi : Option Int) : RpL T K ρ H (cutV vs lo hi) (cutD ds lo hi) := by
  unfold cutV cutD
  rw [h.length]
  exact (h.drop _).take _
/-- the reading of a slice: a list (tracked, locked, written) or a text -/
def rSlA (K : PySem.W.Frag) : V → Option Int → Option Int → Hp → VK → Prop := fun x lo hi H Q => rSlL K x lo hi H Q ∨ rSlS x lo hi H Q
theorem sl_A : SlR X (rSlA X.K) := SlR.or sl_list sl_str
def gSl : D → Option Int → Option Int → M D := fun x lo hi st => match x with
  | .ptr n => match st.l[n]? with
    | some ds => alloc (cutD ds lo hi) st
    | none => none
  | .fro ds => alloc (cutD ds lo hi) st
  | .str z => if z.length ≤ bnd then some (.ok (.str (cutS z lo hi)), st) else none
  | _ => none
def fSl (f : EF) (l h : OF) : EF := fun e => mbind (f e) fun x => mbind (l e) fun lo => mbind (h e) fun hi => gSl x lo hi
theorem sem_sl {te : TE} {tl th : TO} {f : EF} {l h : OF} (h1 : Sem T K W (Rp T K) te f) (h2 : Sem T K W RO tl l) (h3 : Sem T K W RO th h) : Sem T K W (Rp T K) (tSl (rSlA K) te tl th) (fSl f l h) := by
  intro ρ σ H Q e st res st' s en hf hp
  refine h1.bind s en hf hp fun v d ρ1 H1 st1 ev s1 en1 q1 h' hp1 => ?_
  refine h2.bind s1 en1 h' hp1 fun lo lo' ρ2 H2 st2 ev2 s2 en2 q2 h'' hp2 => ?_
  refine h3.bind s2 en2 h'' hp2 fun hi hi' ρ3 H3 st3 ev3 s3 en3 q3 h4 hp3 => ?_
  cases (q2 : lo = lo')
  cases (q3 : hi = hi')
  have q := (q1.mono s1.wf ev2).mono s2.wf ev3
  unfold gSl at h4
  cases q with
  | @ptr a n q =>
    dsimp only at h4
    cases e1 : st3.l[n]? with
    | none =>
      rw [e1] at h4
      cases h4
    | some ds =>
      rw [e1] at h4
      obtain ⟨vs, g1, g2⟩ := s3.ent n a ds q e1
      exact .inl ⟨a, vs, rfl, SqL.of g1, alloc_ok s3 (g2.cut lo hi) h4 hp3⟩
  | fro q r => exact .inl ⟨_, _, rfl, q.sql, alloc_ok s3 (r.cut lo hi) h4 hp3⟩
  | str z =>
    dsimp only at h4
    split at h4
    · rename_i hl
      cases h4
      exact .inr ⟨z, rfl, bnd_line hl, hp3 _ H3 ρ3 Evo.refl s3 (.str _)⟩
    · cases h4
  | _ => cases h4

/-! ### attributes -/
/-- the place of a name in a class's names -/
def nmIx : List Str → Str → Option Nat
  | [], _ => none
  | n :: r, x => if n = x then some 0 else (nmIx r x).map (· + 1)
theorem nmIx_get : ∀ {l : List Str} {x : Str} {j : Nat}, nmIx l x = some j → l[j]? = some x
  | [], _, _, h => by cases h
  | n :: r, x, j, h => by
    unfold nmIx at h
    split at h
    · rename_i e
      cases h
      rw [e]
      rfl
    · obtain ⟨i, e1, e2⟩ := Option.map_eq_some_iff.mp h
      subst e2
      show r[i]? = some x
      exact nmIx_get e1
theorem nmIx_zip : ∀ {l : List Str} {x : Str} {j : Nat} {vs : List V} {v : V}, nmIx l x = some j → vs[j]? = some v → (l.zip vs).lookup x = some v
  | [], _, _, _, _, h, _ => by cases h
  | n :: r, x, j, [], v, h, hv => by simp at hv
  | n :: r, x, j, w :: vs, v, h, hv => by
    unfold nmIx at h
    split at h
    · rename_i e
      cases h
      subst e
      simp at hv
      subst hv
      simp [List.zip_cons_cons, List.lookup]
    · rename_i ne
      obtain ⟨i, e1, e2⟩ := Option.map_eq_some_iff.mp h
      subst e2
      have ih := nmIx_zip (vs := vs) (v := v) e1 (by simpa using hv)
      have b : (x == n) = false := by
        have ne' : ¬ x = n := fun z => ne z.symm
        simpa using ne'
      simp [List.zip_cons_cons, List.lookup, b, ih]
/-- o.f -/
def gFld (T : Tab) (f : Str) : D → M D := fun x st => match x with
  | .ins c ds => match nmIx (T.names c) f with
    | some j => match ds[j]? with
      | some d => some (.ok d, st)
      | none => none
    | none => none
  | .err c ds => match nmIx (T.names c) f with
    | some j => match ds[j]? with
      | some d => some (.ok d, st)
      | none => none
    | none => none
  | _ => none
def fFld (T : Tab) (f : Str) (g : EF) : EF := fun e => mbind (g e) (gFld T f)
/-- the reading: of an instance or of an error -/
def tFldA (K : PySem.W.Frag) (ta : TE) (f : Str) : TE := fun σ H Q => ta σ H fun x H1 => (∃ a C dx fs v, x = .ref a ∧ H1 a = some (.ins C dx fs) ∧ Cls K C ∧ NoAttr K C f ∧ fs.lookup f = some v ∧ Q v H1) ∨
  ∃ a C dx fs v, x = .ref a ∧ H1 a = some (exo a C (some dx)) ∧ H1 dx = some (exd dx fs) ∧ ExcC K C ∧ NoAttr K C f ∧ fs.lookup f = some v ∧ Q v H1
theorem pe_fldA {ex : Expr} {ta : TE} {f : Str} {pos : Pos} (he : PE X ex ta) (hb : attributeBase ex f X.env (eval ex X.env) = eval ex X.env := by rfl) : PE X (.Attribute ex f pos) (tFldA X.K ta f) := by
  refine ⟨fun pins s σ H Q I h => ?_⟩
  refine attr_of hb (thn (he.run pins s σ H _ I h) fun u s1 hh => ?_)
  obtain ⟨x, H1, I1, rx, hh⟩ := hh
  rcases hh with ⟨a, C, dx, fs, v, ex', e1, c, n, l, q⟩ | ⟨a, C, dx, fs, v, ex', e1, e2, c, n, l, q⟩
  · subst ex'
    obtain rfl : u = Value.ref a := rx
    exact getattr_ok I1 e1 c n l (fun w s' I' rw' => ⟨v, H1, I', rw', q⟩)
  · subst ex'
    obtain rfl : u = Value.ref a := rx
    obtain ⟨t1, ho⟩ := exo_at I1.hok e1
    obtain ⟨mA, hns, hr⟩ := exd_at I1.hok e2
    obtain ⟨od, hod, hl⟩ := lookIn_ns hns
    obtain ⟨w, hu, ru⟩ := RelO.some_of (v := v) (o := mA f) (by rw [← l]; exact hr f)
    have J : PySem.W.InstAt s1.heap a _ C (some od) := ⟨ho, rfl, rfl, hod⟩
    exact HandSPX.exc_get I1.kIn J c.hg c.hk c.hs (PySem.W.findObj_own c.hd n rfl (by rw [hl, hu])) (handed_of ru) ⟨v, H1, I1.tok _, ru, q⟩
/-- no attribute of that name at the class itself -/
def FldOk (T : Tab) (K : PySem.W.Frag) (f : Str) : Prop := ∀ c j, nmIx (T.names c) f = some j → T.isIns c = true ∨ T.isErr c = true → NoAttr K (T.adr c) f
theorem sem_fld {ta : TE} {f : Str} {g : EF} (TK : TabOk T K) (FO : FldOk T K f) (h1 : Sem T K W (Rp T K) ta g) : Sem T K W (Rp T K) (tFldA K ta f) (fFld T f g) := by
  intro ρ σ H Q e st res st' s en h hp
  refine h1.bind s en h hp fun v d ρ1 H1 st1 ev s1 en1 q1 h' hp1 => ?_
  unfold gFld at h'
  cases q1 with
  | @ins a dx c vs ds i hi n l r =>
    dsimp only at h'
    cases e1 : nmIx (T.names c) f with
    | none =>
      rw [e1] at h'
      cases h'
    | some j =>
      rw [e1] at h'
      dsimp only at h'
      cases e2 : ds[j]? with
      | none =>
        rw [e2] at h'
        cases h'
      | some d =>
        rw [e2] at h'
        cases h'
        obtain ⟨w, g1, g2⟩ := r.get j d e2
        exact .inl ⟨a, _, dx, _, w, rfl, hi, (TK.ins c i).cl, FO c j e1 (.inl i), nmIx_zip e1 g1, hp1 _ H1 ρ1 Evo.refl s1 g2⟩
  | @err a c vs ds i hi r =>
    dsimp only at h'
    cases e1 : nmIx (T.names c) f with
    | none =>
      rw [e1] at h'
      cases h'
    | some j =>
      rw [e1] at h'
      dsimp only at h'
      cases e2 : ds[j]? with
      | none =>
        rw [e2] at h'
        cases h'
      | some d =>
        rw [e2] at h'
        cases h'
        obtain ⟨w, g1, g2⟩ := r.get j d e2
        obtain ⟨_, hi⟩ := hi
        rcases hi with ⟨hn, _⟩ | ⟨dx, fs, hi1, hi2, hi3⟩
        · rw [hn] at e1
          cases e1
        · exact .inr ⟨a, _, dx, fs, w, rfl, hi1, hi2, (TK.err c i).1, FO c j e1 (.inr i), hi3 j f w (nmIx_get e1) g1, hp1 _ H1 ρ1 Evo.refl s1 g2⟩
  | _ => cases h'
end
end Vm
/-! Vm5: calls of built-ins, what is walked, comprehensions. -/
namespace Vm
open PySem PySem.Spec PyProof.Rows L2
section
variable {X : Cx} {T : Tab} {K : PySem.W.Frag} {W : WX} {ρ ρ' ρ1 : Rho} {H H' H1 : Hp} {st st' st1 : Sto} {σ : L2.St} {e : Env} {α β γ δ : Type} {k : Nat}
/-! ### built-ins by values -/
abbrev GA := List D → M D
def CallS (T : Tab) (K : PySem.W.Frag) (W : WX) (r : List V → Hp → VK → Prop) (g : GA) : Prop :=
  ∀ (ρ : Rho) (σ : L2.St) (H : Hp) (Q : VK) (xs : List V) (ds : List D) (st : Sto) (res : Except Er D) (st' : Sto), RS T K ρ H st → RpL T K ρ H xs ds → g ds st = some (res, st') → Pst T K W σ ρ H (Rp T K) res st' Q → r xs H Q
def fCB (g : GA) (fa : AF) : EF := fun e => mbind (fa e) g
theorem sem_cb {r : List V → Hp → VK → Prop} {g : GA} {ta : TA} {fa : AF} (hr : CallS T K W r g) (h1 : Sem T K W (RpL T K) ta fa) : Sem T K W (Rp T K) (tCB r ta) (fCB g fa) := by
  intro ρ σ H Q e st res st' s en h hp
  refine h1.bind s en h hp fun vs ds ρ1 H1 st1 ev s1 en1 q1 h' hp1 => ?_
  exact hr ρ1 σ H1 Q vs ds st1 res st' s1 q1 h' hp1
def gLen : GA := fun ds st => match ds with
  | [.ptr n] => match st.l[n]? with
    | some l => some (.ok (.int l.length), st)
    | none => none
  | [.tup l] => some (.ok (.int l.length), st)
  | [.fro l] => some (.ok (.int l.length), st)
  | [.str x] => if x.length ≤ bnd then some (.ok (.int x.length), st) else none
  | _ => none
theorem RpL.one_inv {vs : List V} {d : D} (h : RpL T K ρ H vs [d]) : ∃ v, vs = [v] ∧ Rp T K ρ H v d := by
  cases h with
  | cons a r =>
    cases r
    exact ⟨_, rfl, a⟩
theorem RpL.two_inv {vs : List V} {d d2 : D} (h : RpL T K ρ H vs [d, d2]) : ∃ v v2, vs = [v, v2] ∧ Rp T K ρ H v d ∧ Rp T K ρ H v2 d2 := by
  cases h with
  | cons a r =>
    cases r with
    | cons b r2 =>
      cases r2
      exact ⟨_, _, rfl, a, b⟩
theorem cs_len : CallS T K W (fun xs H Q => ∃ x n, xs = [x] ∧ LenV K x H n ∧ Q (.int n) H) gLen := by
  intro ρ σ H Q xs ds st res st' s r h hp
  unfold gLen at h
  split at h
  · rename_i n
    obtain ⟨v, rfl, q⟩ := r.one_inv
    cases q with
    | @ptr a n q =>
      cases e1 : st.l[n]? with
      | none =>
        rw [e1] at h
        cases h
      | some l =>
        rw [e1] at h
        cases h
        obtain ⟨vs, g1, g2⟩ := s.ent n a l q e1
        exact ⟨_, _, rfl, .inl ⟨vs, SqL.of g1, g2.length.symm⟩, hp _ H ρ Evo.refl s (.int _)⟩
  · obtain ⟨v, rfl, q⟩ := r.one_inv
    cases q with
    | tup q1 q2 =>
      cases h
      exact ⟨_, _, rfl, .inr ⟨_, q1, q2.length.symm⟩, hp _ H ρ Evo.refl s (.int _)⟩
  · obtain ⟨v, rfl, q⟩ := r.one_inv
    cases q with
    | fro q1 q2 =>
      cases h
      exact ⟨_, _, rfl, .inl ⟨_, q1.sql, q2.length.symm⟩, hp _ H ρ Evo.refl s (.int _)⟩
  · obtain ⟨v, rfl, q⟩ := r.one_inv
    cases q
    split at h
    · rename_i hl
      cases h
      exact ⟨_, _, rfl, ⟨bnd_line hl, rfl⟩, hp _ H ρ Evo.refl s (.int _)⟩
    · cases h
  · cases h
def gAbs : GA := fun ds st => match ds with
  | [.int i] => some (.ok (.int (if i < 0 then -i else i)), st)
  | _ => none
theorem cs_abs : CallS T K W (fun xs H Q => ∃ i, xs = [.int i] ∧ Q (.int (if i < 0 then -i else i)) H) gAbs := by
  intro ρ σ H Q xs ds st res st' s r h hp
  unfold gAbs at h
  split at h
  · obtain ⟨v, rfl, q⟩ := r.one_inv
    cases q
    cases h
    exact ⟨_, rfl, hp _ H ρ Evo.refl s (.int _)⟩
  · cases h
def gInt : GA := fun ds st => match ds with
  | [.int i] => some (.ok (.int i), st)
  | [.bl b] => some (.ok (.int (if b then 1 else 0)), st)
  | _ => none
theorem cs_int : CallS T K W (fun xs H Q => (∃ i, xs = [.int i] ∧ Q (.int i) H) ∨ ∃ k, xs = [.bl k] ∧ Q (.int (if k then 1 else 0)) H) gInt := by
  intro ρ σ H Q xs ds st res st' s r h hp
  unfold gInt at h
  split at h
  · obtain ⟨v, rfl, q⟩ := r.one_inv
    cases q
    cases h
    exact .inl ⟨_, rfl, hp _ H ρ Evo.refl s (.int _)⟩
  · obtain ⟨v, rfl, q⟩ := r.one_inv
    cases q
    cases h
    exact .inr ⟨_, rfl, hp _ H ρ Evo.refl s (.int _)⟩
  · cases h
def strOkI (i : Int) : Bool := decide (i.natAbs.log2 < 1920)
def gStr : GA := fun ds st => match ds with
  | [.int i] => if strOkI i then some (.ok (.str (toString i)), st) else none
  | _ => none
theorem cs_str : CallS T K W (fun xs H Q => ∃ i, xs = [.int i] ∧ i.natAbs.log2 < 1920 ∧ Q (.str (toString i)) H) gStr := by
  intro ρ σ H Q xs ds st res st' s r h hp
  unfold gStr at h
  split at h
  · obtain ⟨v, rfl, q⟩ := r.one_inv
    cases q
    split at h
    · rename_i hl
      cases h
      exact ⟨_, rfl, of_decide_eq_true hl, hp _ H ρ Evo.refl s (.str _)⟩
    · cases h
  · cases h
/-- the items of a list or tuple -/
def seqD (st : Sto) : D → Option (List D)
  | .ptr n => st.l[n]?
  | .tup l => some l
  | .fro l => some l
  | _ => none
theorem seqD_ok {v : V} {d : D} {l : List D} (s : RS T K ρ H st) (q : Rp T K ρ H v d) (h : seqD st d = some l) : ∃ a vs, v = .ref a ∧ (SqL K H a vs ∨ SqT K H a vs) ∧ RpL T K ρ H vs l := by
  cases q with
  | @ptr a n q =>
    obtain ⟨vs, g1, g2⟩ := s.ent n a l q h
    exact ⟨a, vs, rfl, .inl (SqL.of g1), g2⟩
  | tup q r =>
    cases h
    exact ⟨_, _, rfl, .inr q, r⟩
  | fro q r =>
    cases h
    exact ⟨_, _, rfl, .inl q.sql, r⟩
  | _ => cases h
def gList : GA := fun ds st => match ds with
  | [d] => match seqD st d with
    | some l => alloc l st
    | none => none
  | _ => none
theorem cs_list : CallS T K W (fun xs H Q => ∃ p ys, xs = [.ref p] ∧ (SqL K H p ys ∨ SqT K H p ys) ∧ ∀ l, H l = none → Q (.ref l) (upd H l (.lst ys))) gList := by
  intro ρ σ H Q xs ds st res st' s r h hp
  unfold gList at h
  split at h
  · rename_i d
    obtain ⟨v, rfl, q⟩ := r.one_inv
    cases e1 : seqD st d with
    | none =>
      rw [e1] at h
      cases h
    | some l =>
      rw [e1] at h
      obtain ⟨a, vs, rfl, g1, g2⟩ := seqD_ok s q e1
      exact ⟨a, vs, rfl, g1, alloc_ok s g2 h hp⟩
  · cases h
def gTuple : GA := fun ds st => match ds with
  | [.ptr n] => match st.l[n]? with
    | some l => some (.ok (.tup l), st)
    | none => none
  | [.tup l] => some (.ok (.tup l), st)
  | [.fro l] => some (.ok (.tup l), st)
  | _ => none
theorem cs_tuple : CallS T K W (fun xs H Q => ∃ p ys, xs = [.ref p] ∧ ((SqL K H p ys ∧ ∀ l, H l = none → Q (.ref l) (upd H l (.tup ys))) ∨ (SqT K H p ys ∧ Q (.ref p) H))) gTuple := by
  intro ρ σ H Q xs ds st res st' s r h hp
  have new : ∀ {vs : List V} {l : List D} {res : Except Er D}, RpL T K ρ H vs l → some ((.ok (.tup l) : Except Er D), st) = some (res, st') → Pst T K W σ ρ H (Rp T K) res st' Q → ∀ p, H p = none → Q (.ref p) (upd H p (.tup vs)) := fun {vs l res} g h hp p hpn => by
    cases h
    exact hp (.ref p) (upd H p (.tup vs)) ρ (Evo.new hpn) (s.evo0 hpn) (.tup (SqT.of upd_same) (g.mono s.wf (Evo.new hpn)))
  unfold gTuple at h
  split at h
  · rename_i n
    obtain ⟨v, rfl, q⟩ := r.one_inv
    cases q with
    | @ptr a n q =>
      cases e1 : st.l[n]? with
      | none =>
        rw [e1] at h
        cases h
      | some l =>
        rw [e1] at h
        obtain ⟨vs, g1, g2⟩ := s.ent n a l q e1
        exact ⟨a, vs, rfl, .inl ⟨SqL.of g1, new g2 h hp⟩⟩
  · obtain ⟨v, rfl, q⟩ := r.one_inv
    cases q with
    | tup q1 q2 =>
      cases h
      exact ⟨_, _, rfl, .inr ⟨q1, hp _ H ρ Evo.refl s (.tup q1 q2)⟩⟩
  · obtain ⟨v, rfl, q⟩ := r.one_inv
    cases q with
    | fro q1 q2 => exact ⟨_, _, rfl, .inl ⟨q1.sql, new q2 h hp⟩⟩
  · cases h

/-! ### methods of lists and texts -/
def fApp (f g : EF) : EF := fun e => mbind (f e) fun x => match x with
  | .ptr n => mbind (g e) fun y st => match st.l[n]? with
    | some l => if l.length < bnd then some (.ok .non, { st with l := st.l.set n (l ++ [y]) }) else none
    | none => none
  | _ => fun _ => none
theorem bnd_lt {n : Nat} (h : n < bnd) : n < sizeLine := Nat.lt_of_lt_of_le h (by decide)
theorem sem_app {to : TE} {tx : TE} {f g : EF} (h1 : Sem T K W (Rp T K) to f) (h2 : Sem T K W (Rp T K) tx g) : Sem T K W (Rp T K) (tBM K "list" rAppend to (tCons tx tNil)) (fApp f g) := by
  intro ρ σ H Q e st res st' s en h hp
  refine h1.bind s en h hp fun v d ρ1 H1 st1 ev s1 en1 q1 h' hp1 => ?_
  cases q1 with
  | @ptr a n q =>
    obtain ⟨xs0, hx0⟩ := s1.wf.l a (List.mem_of_getElem? q)
    refine ⟨.inl ⟨rfl, xs0, SqL.of hx0⟩, ?_⟩
    refine h2.bind s1 en1 h' hp1 fun y dy ρ2 H2 st2 ev2 s2 en2 q2 h'' hp2 => ?_
    have q' := ev2.at q
    cases e1 : st2.l[n]? with
    | none =>
      rw [e1] at h''
      cases h''
    | some l =>
      rw [e1] at h''
      dsimp only at h''
      split at h''
      · rename_i hl
        cases h''
        obtain ⟨vs, g1, g2⟩ := s2.ent n a l q' e1
        refine ⟨a, vs, y, rfl, rfl, g1, bnd_lt (by rw [g2.length]; exact hl), ?_⟩
        exact hp2 .non _ ρ2 (Evo.wr (List.mem_of_getElem? q')) (s2.wr q' (g2.app (.cons q2 .nil))) .non
      · cases h''
  | _ => cases h'
/-- sep.join(xs) -/
def strsD : List D → Option (List Str)
  | [] => some []
  | .str x :: r => (strsD r).map (x :: ·)
  | _ => none
theorem strsD_ok : ∀ {vs : List V} {ds : List D} {ys : List Str}, RpL T K ρ H vs ds → strsD ds = some ys → vs = ys.map V.str
  | _, _, ys, .nil, h => by
    cases h
    rfl
  | _, _, ys, .cons (d := d) a r, h => by
    cases d with
    | str x =>
      cases a
      obtain ⟨zs, e1, e2⟩ := Option.map_eq_some_iff.mp h
      subst e2
      rw [strsD_ok r e1]
      rfl
    | _ => cases h
def joinOk (a : Str) (ys : List Str) : Bool := decide ((ys.map (·.length)).sum + ys.length * a.length ≤ 16777216)
def fJoin (f g : EF) : EF := fun e => mbind (f e) fun x => match x with
  | .str a => mbind (g e) fun y st => match seqD st y with
    | some l => match strsD l with
      | some ys => if joinOk a ys then some (.ok (.str (Txt.join a ys)), st) else none
      | none => none
    | none => none
  | _ => fun _ => none
theorem sem_join {to tx : TE} {f g : EF} (h1 : Sem T K W (Rp T K) to f) (h2 : Sem T K W (Rp T K) tx g) : Sem T K W (Rp T K) (tM1 (fun x xs H Q => ∃ a p, ∃ ys : List Str, x = .str a ∧ xs = [.ref p] ∧ (SqL K H p (ys.map V.str) ∨ SqT K H p (ys.map V.str)) ∧
      (ys.map (·.length)).sum + ys.length * a.length ≤ 16777216 ∧ Q (.str (Txt.join a ys)) H) to tx) (fJoin f g) := by
  intro ρ σ H Q e st res st' s en h hp
  refine h1.bind s en h hp fun v d ρ1 H1 st1 ev s1 en1 q1 h' hp1 => ?_
  cases q1 with
  | str a =>
    refine ⟨⟨a, rfl⟩, ?_⟩
    refine h2.bind s1 en1 h' hp1 fun y dy ρ2 H2 st2 ev2 s2 en2 q2 h'' hp2 => ?_
    cases e1 : seqD st2 dy with
    | none =>
      rw [e1] at h''
      cases h''
    | some l =>
      rw [e1] at h''
      dsimp only at h''
      cases e2 : strsD l with
      | none =>
        rw [e2] at h''
        cases h''
      | some ys =>
        rw [e2] at h''
        dsimp only at h''
        split at h''
        · rename_i hl
          cases h''
          obtain ⟨p, vs, rfl, g1, g2⟩ := seqD_ok s2 q2 e1
          rw [strsD_ok g2 e2] at g1
          exact ⟨a, p, ys, rfl, rfl, g1, of_decide_eq_true hl, hp2 _ H2 ρ2 Evo.refl s2 (.str _)⟩
        · cases h''
  | _ => cases h'

/-! ### what is walked -/
inductive ItD where
  | rng (lo : Int) (n : Nat)
  | seq (ds : List D)
  | live (n : Nat)
  | enumS (ds : List D)
  | enumL (n : Nat)
/-- at turn i: nothing known, the end, an item -/
def itGet (it : ItD) (i : Nat) (st : Sto) : Option (Option D) := match it with
  | .rng lo n => if i < n then some (some (.int (lo + i))) else some none
  | .seq ds => some ds[i]?
  | .live n => match st.l[n]? with
    | some ds => some ds[i]?
    | none => none
  | .enumS ds => match ds[i]? with
    | some d => some (some (.tup [.int (i : Nat), d]))
    | none => some none
  | .enumL n => match st.l[n]? with
    | some ds => match ds[i]? with
      | some d => some (some (.tup [.int (i : Nat), d]))
      | none => some none
    | none => none
/-- more turns than these are not taken -/
def itLen (it : ItD) (st : Sto) : Nat := match it with
  | .rng _ n => n
  | .seq ds => ds.length
  | .live n => (st.l[n]?.getD []).length
  | .enumS ds => ds.length
  | .enumL n => (st.l[n]?.getD []).length
def RJ (T : Tab) (K : PySem.W.Frag) : Rho → Hp → It → ItD → Prop := fun ρ H J it => ∀ ρ' H' st', Evo ρ H ρ' H' → RS T K ρ' H' st' → ∀ i : Nat, (itGet it i st' = some none → J.stop i H') ∧
  ∀ d, itGet it i st' = some (some d) → J.go i H' ∧ ∀ x H2, J.yld i H' x H2 → Evo ρ' H' ρ' H2 ∧ RS T K ρ' H2 st' ∧ Rp T K ρ' H2 x d
theorem RJ.mono {J : It} {it : ItD} (h : RJ T K ρ H J it) (ev : Evo ρ H ρ' H') : RJ T K ρ' H' J it := fun ρ2 H2 st2 e s => h ρ2 H2 st2 (ev.trans e) s
abbrev IF := Env → M ItD
/-- a list or tuple that stands still -/
theorem rj_seqL {a : Addr} {vs : List V} {ds : List D} (w : Wf ρ H) (q : Fro K H a vs) (r : RpL T K ρ H vs ds) : RJ T K ρ H (Itl K a) (.seq ds) := by
  intro ρ' H' st' ev s i
  have q' : SqL K H' a vs := (w.fro ev q).sql
  have r' := r.mono w ev
  refine ⟨fun h => ?_, fun d h => ?_⟩
  · refine ⟨vs, q', ?_⟩
    have h' : ds[i]? = none := Option.some.inj h
    rw [r.length]
    exact List.getElem?_eq_none_iff.mp h'
  · have h' : ds[i]? = some d := Option.some.inj h
    obtain ⟨v, g1, g2⟩ := r'.get i d h'
    refine ⟨⟨vs, v, q', g1⟩, fun x H2 y => ?_⟩
    obtain ⟨rfl, y⟩ := y
    have z := y vs q'
    rw [g1] at z
    cases z
    exact ⟨Evo.refl, s, g2⟩
theorem rj_seqT {a : Addr} {vs : List V} {ds : List D} (w : Wf ρ H) (q : SqT K H a vs) (r : RpL T K ρ H vs ds) : RJ T K ρ H (Itt K a) (.seq ds) := by
  intro ρ' H' st' ev s i
  have q' : SqT K H' a vs := w.sqt ev q
  have r' := r.mono w ev
  refine ⟨fun h => ?_, fun d h => ?_⟩
  · refine ⟨vs, q', ?_⟩
    have h' : ds[i]? = none := Option.some.inj h
    rw [r.length]
    exact List.getElem?_eq_none_iff.mp h'
  · have h' : ds[i]? = some d := Option.some.inj h
    obtain ⟨v, g1, g2⟩ := r'.get i d h'
    refine ⟨⟨vs, v, q', g1⟩, fun x H2 y => ?_⟩
    obtain ⟨rfl, y⟩ := y
    have z := y vs q'
    rw [g1] at z
    cases z
    exact ⟨Evo.refl, s, g2⟩
theorem rj_live {a : Addr} {n : Nat} (q : ρ.l[n]? = some a) : RJ T K ρ H (Itl K a) (.live n) := by
  intro ρ' H' st' ev s i
  have q' := ev.at q
  have core : ∀ {o}, itGet (.live n) i st' = some o → ∃ ds vs, st'.l[n]? = some ds ∧ ds[i]? = o ∧ SqL K H' a vs ∧ RpL T K ρ' H' vs ds := fun {o} h => by
    simp only [itGet] at h
    cases e : st'.l[n]? with
    | none =>
      rw [e] at h
      cases h
    | some ds =>
      rw [e] at h
      obtain ⟨vs, g1, g2⟩ := s.ent n a ds q' e
      exact ⟨ds, vs, rfl, Option.some.inj h, SqL.of g1, g2⟩
  refine ⟨fun h => ?_, fun d h => ?_⟩
  · obtain ⟨ds, vs, e1, e2, g1, g2⟩ := core h
    refine ⟨vs, g1, ?_⟩
    rw [g2.length]
    exact List.getElem?_eq_none_iff.mp e2
  · obtain ⟨ds, vs, e1, e2, g1, g2⟩ := core h
    obtain ⟨v, g3, g4⟩ := g2.get i d e2
    refine ⟨⟨vs, v, g1, g3⟩, fun x H2 y => ?_⟩
    obtain ⟨rfl, y⟩ := y
    have z := y vs g1
    rw [g3] at z
    cases z
    exact ⟨Evo.refl, s, g4⟩
theorem rj_rng {lo : Int} {n : Nat} : RJ T K ρ H (Itr lo n) (.rng lo n) := by
  intro ρ' H' st' ev s i
  refine ⟨fun h => ?_, fun d h => ?_⟩
  · show n ≤ i
    simp only [itGet] at h
    split at h
    · cases h
    · rename_i hn
      exact Nat.le_of_not_lt hn
  · simp only [itGet] at h
    split at h
    · rename_i hn
      cases h
      refine ⟨hn, fun x H2 y => ?_⟩
      obtain ⟨rfl, rfl⟩ := y
      exact ⟨Evo.refl, s, .int _⟩
    · cases h
theorem rj_enumS {a : Addr} {vs : List V} {ds : List D} (w : Wf ρ H) (q : Fro K H a vs) (r : RpL T K ρ H vs ds) : RJ T K ρ H (Ite K a) (.enumS ds) := by
  intro ρ' H' st' ev s i
  have q' : SqL K H' a vs := (w.fro ev q).sql
  have r' := r.mono w ev
  refine ⟨fun h => ?_, fun d h => ?_⟩
  · refine ⟨vs, q', ?_⟩
    simp only [itGet] at h
    cases e : ds[i]? with
    | none =>
      rw [r.length]
      exact List.getElem?_eq_none_iff.mp e
    | some d =>
      rw [e] at h
      cases h
  · simp only [itGet] at h
    cases e : ds[i]? with
    | none =>
      rw [e] at h
      cases h
    | some d' =>
      rw [e] at h
      cases h
      obtain ⟨v, g1, g2⟩ := r'.get i d' e
      refine ⟨⟨vs, v, q', g1⟩, fun x H2 y => ?_⟩
      obtain ⟨Tt, x', rfl, hn, rfl, y⟩ := y
      have z := y vs q'
      rw [g1] at z
      cases z
      exact ⟨Evo.new hn, s.evo0 hn, .tup (SqT.of upd_same) (.cons (.int _) (.cons (g2.mono s.wf (Evo.new hn)) .nil))⟩
theorem rj_enumL {a : Addr} {n : Nat} (q : ρ.l[n]? = some a) : RJ T K ρ H (Ite K a) (.enumL n) := by
  intro ρ' H' st' ev s i
  have q' := ev.at q
  refine ⟨fun h => ?_, fun d h => ?_⟩
  · simp only [itGet] at h
    cases e : st'.l[n]? with
    | none =>
      rw [e] at h
      cases h
    | some ds =>
      rw [e] at h
      dsimp only at h
      obtain ⟨vs, g1, g2⟩ := s.ent n a ds q' e
      refine ⟨vs, SqL.of g1, ?_⟩
      cases e2 : ds[i]? with
      | none =>
        rw [g2.length]
        exact List.getElem?_eq_none_iff.mp e2
      | some d =>
        rw [e2] at h
        cases h
  · simp only [itGet] at h
    cases e : st'.l[n]? with
    | none =>
      rw [e] at h
      cases h
    | some ds =>
      rw [e] at h
      dsimp only at h
      obtain ⟨vs, g1, g2⟩ := s.ent n a ds q' e
      cases e2 : ds[i]? with
      | none =>
        rw [e2] at h
        cases h
      | some d' =>
        rw [e2] at h
        cases h
        obtain ⟨v, g3, g4⟩ := g2.get i d' e2
        refine ⟨⟨vs, v, SqL.of g1, g3⟩, fun x H2 y => ?_⟩
        obtain ⟨Tt, x', rfl, hn, rfl, y⟩ := y
        have z := y vs (SqL.of g1)
        rw [g3] at z
        cases z
        exact ⟨Evo.new hn, s.evo0 hn, .tup (SqT.of upd_same) (.cons (.int _) (.cons (g4.mono s.wf (Evo.new hn)) .nil))⟩
/-- a list or tuple, of whichever kind -/
def iSeq (K : PySem.W.Frag) (tl : TE) : TI := fun σ H R => tl σ H fun x H1 => ∃ a, x = .ref a ∧ (((∃ xs, SqL K H1 a xs) ∧ R (Itl K a) H1) ∨ ((∃ xs, SqT K H1 a xs) ∧ R (Itt K a) H1))
theorem pi_seq {tg l : Expr} {tl : TE} (hl : PE X l tl) : PI X tg l (iSeq X.K tl) := by
  refine ⟨fun pins s σ H R I h => ?_⟩
  refine thn (hl.run pins s σ H _ I h) fun v s1 ⟨x, H1, I1, r1, q1⟩ => ?_
  obtain ⟨a, e, q1⟩ := q1
  subst e
  cases r1
  rcases q1 with ⟨⟨xs, hq⟩, q⟩ | ⟨⟨xs, hq⟩, q⟩
  · obtain ⟨its, rv, p, hz⟩ := I1.list hq
    refine wpAny_pyIter_list p.isList ?_
    refine ⟨s1.heap.objs.size, [s1.heap.objs.size], _, _, H1, rfl, I1.kept (t' := s1.toks) fun b o e => Heap.get?_push_of_some _ e, turn_list a _, ⟨_, Heap.get?_push_size _ rfl, rfl, rfl⟩, fun b hb => ?_, q⟩
    have e : b = s1.heap.objs.size := by simpa using hb
    subst e
    exact I1.fpOk (Nat.le_refl _) (I1.hok.fresh (Nat.le_refl _))
  · obtain ⟨its, rv, p, hz⟩ := I1.tuple hq
    refine wpAny_pyIter_tuple (show s1.heap.IsTuple a its.toArray from p) ?_
    refine ⟨s1.heap.objs.size, [s1.heap.objs.size], _, _, H1, rfl, I1.kept (t' := s1.toks) fun b o e => Heap.get?_push_of_some _ e, turn_tuple a _, ⟨_, Heap.get?_push_size _ rfl, rfl, rfl⟩, fun b hb => ?_, q⟩
    have e : b = s1.heap.objs.size := by simpa using hb
    subst e
    exact I1.fpOk (Nat.le_refl _) (I1.hok.fresh (Nat.le_refl _))
def fSeq (f : EF) : IF := fun e => mbind (f e) fun d => match d with
  | .ptr n => mret (.live n)
  | .tup l => mret (.seq l)
  | .fro l => mret (.seq l)
  | _ => fun _ => none
theorem sem_seq {tl : TE} {f : EF} (h1 : Sem T K W (Rp T K) tl f) : Sem T K W (RJ T K) (iSeq K tl) (fSeq f) := by
  intro ρ σ H Q e st res st' s en h hp
  refine h1.bind s en h hp fun v d ρ1 H1 st1 ev s1 en1 q1 h' hp1 => ?_
  cases q1 with
  | @ptr a n q =>
    cases h'
    obtain ⟨xs, hx⟩ := s1.wf.l a (List.mem_of_getElem? q)
    exact ⟨a, rfl, .inl ⟨⟨xs, SqL.of hx⟩, hp1 _ H1 ρ1 Evo.refl s1 (rj_live q)⟩⟩
  | tup q r =>
    cases h'
    exact ⟨_, rfl, .inr ⟨⟨_, q⟩, hp1 _ H1 ρ1 Evo.refl s1 (rj_seqT s1.wf q r)⟩⟩
  | fro q r =>
    cases h'
    exact ⟨_, rfl, .inl ⟨⟨_, q.sql⟩, hp1 _ H1 ρ1 Evo.refl s1 (rj_seqL s1.wf q r)⟩⟩
  | _ => cases h'
def rngOk (i : Int) : Bool := decide (-(2 ^ 62) ≤ i) && decide (i < 2 ^ 62)
def fRng1 (fa : AF) : IF := fun e => mbind (fa e) fun ds => match ds with
  | [.int j] => if rngOk j then mret (.rng 0 j.toNat) else fun _ => none
  | _ => fun _ => none
theorem rngOk_of {i : Int} (h : rngOk i = true) : -(2 ^ 62) ≤ i ∧ i < 2 ^ 62 := by
  obtain ⟨h1, h2⟩ := Bool.and_eq_true_iff.mp h
  exact ⟨of_decide_eq_true h1, of_decide_eq_true h2⟩
theorem sem_rng1 {ta : TA} {fa : AF} (h1 : Sem T K W (RpL T K) ta fa) : Sem T K W (RJ T K) (iRng1 ta) (fRng1 fa) := by
  intro ρ σ H Q e st res st' s en h hp
  refine h1.bind s en h hp fun vs ds ρ1 H1 st1 ev s1 en1 q1 h' hp1 => ?_
  split at h'
  · rename_i j
    obtain ⟨v, rfl, q⟩ := q1.one_inv
    cases q
    split at h'
    · rename_i hj
      cases h'
      exact ⟨j, rfl, (rngOk_of hj).1, (rngOk_of hj).2, hp1 _ H1 ρ1 Evo.refl s1 rj_rng⟩
    · cases h'
  · cases h'
def fRng2 (fa : AF) : IF := fun e => mbind (fa e) fun ds => match ds with
  | [.int i, .int j] => if rngOk i && rngOk j then mret (.rng i (j - i).toNat) else fun _ => none
  | _ => fun _ => none
theorem sem_rng2 {ta : TA} {fa : AF} (h1 : Sem T K W (RpL T K) ta fa) : Sem T K W (RJ T K) (iRng2 ta) (fRng2 fa) := by
  intro ρ σ H Q e st res st' s en h hp
  refine h1.bind s en h hp fun vs ds ρ1 H1 st1 ev s1 en1 q1 h' hp1 => ?_
  split at h'
  · rename_i i j
    obtain ⟨v, v2, rfl, q, q2⟩ := q1.two_inv
    cases q
    cases q2
    split at h'
    · rename_i hj
      cases h'
      obtain ⟨h1, h2⟩ := Bool.and_eq_true_iff.mp hj
      exact ⟨i, j, rfl, ⟨(rngOk_of h1).1, (rngOk_of h1).2, (rngOk_of h2).1, (rngOk_of h2).2⟩, hp1 _ H1 ρ1 Evo.refl s1 rj_rng⟩
    · cases h'
  · cases h'
def fEnum (fa : AF) : IF := fun e => mbind (fa e) fun ds => match ds with
  | [.ptr n] => mret (.enumL n)
  | [.fro l] => mret (.enumS l)
  | _ => fun _ => none
theorem sem_enum {ta : TA} {fa : AF} (h1 : Sem T K W (RpL T K) ta fa) : Sem T K W (RJ T K) (iEnum K ta) (fEnum fa) := by
  intro ρ σ H Q e st res st' s en h hp
  refine h1.bind s en h hp fun vs ds ρ1 H1 st1 ev s1 en1 q1 h' hp1 => ?_
  split at h'
  · obtain ⟨v, rfl, q⟩ := q1.one_inv
    cases q with
    | @ptr a n q =>
      cases h'
      obtain ⟨xs, hx⟩ := s1.wf.l a (List.mem_of_getElem? q)
      exact ⟨a, xs, rfl, SqL.of hx, hp1 _ H1 ρ1 Evo.refl s1 (rj_enumL q)⟩
  · obtain ⟨v, rfl, q⟩ := q1.one_inv
    cases q with
    | fro q r =>
      cases h'
      exact ⟨_, _, rfl, q.sql, hp1 _ H1 ρ1 Evo.refl s1 (rj_enumS s1.wf q r)⟩
  · cases h'

/-! ### targets -/
abbrev GF := D → Env → Option Env
/-- is: the slots that the target stores -/
def SemT (T : Tab) (K : PySem.W.Frag) (g : TG) (gf : GF) (is : List Nat) : Prop :=
  ∀ (ρ : Rho) (H : Hp) (v : V) (d : D) (σ : L2.St) (e e' : Env) (Q : L2.St → Hp → Prop), (∃ st, RS T K ρ H st) → Rp T K ρ H v d → REnv T K ρ H σ e → gf d e = some e' →
    (∀ σ', REnv T K ρ H σ' e' → (∀ vs, (∀ i ∈ is, i ∈ vs) → wipe σ' vs = wipe σ vs) → Q σ' H) → g v σ H Q
theorem REnv.set {v : V} {d : D} (en : REnv T K ρ H σ e) (q : Rp T K ρ H v d) (i : Nat) : REnv T K ρ H (σ.set i (some v)) (e.set i (some d)) := by
  refine ⟨by rw [List.length_set, List.length_set, en.len], fun j d' h => ?_⟩
  by_cases hj : i = j
  · subst hj
    have hl : i < e.length := by
      have := (List.getElem?_eq_some_iff.mp h).1
      rwa [List.length_set] at this
    rw [List.getElem?_set_self hl] at h
    cases h
    exact ⟨v, by rw [List.getElem?_set_self (by rw [en.len]; exact hl)], .inl q⟩
  · rw [List.getElem?_set_ne hj] at h
    rw [List.getElem?_set_ne hj]
    exact en.at_ j d' h
theorem wipe_get : ∀ (vs : List Nat) (σ : L2.St) (j : Nat), (wipe σ vs)[j]? = if j ∈ vs ∧ j < σ.length then some none else σ[j]?
  | [], σ, j => by
    unfold wipe
    simp
  | v :: vs, σ, j => by
    unfold wipe
    by_cases hv : v = j
    · subst hv
      by_cases hl : v < σ.length
      · rw [List.getElem?_set_self (by rw [wipe_length]; exact hl), if_pos ⟨List.mem_cons_self, hl⟩]
      · rw [if_neg (fun z => hl z.2), List.getElem?_eq_none (by rw [List.length_set, wipe_length]; omega), List.getElem?_eq_none (by omega)]
    · rw [List.getElem?_set_ne hv, wipe_get vs σ j]
      by_cases hj : j ∈ vs ∧ j < σ.length
      · rw [if_pos hj, if_pos ⟨List.mem_cons_of_mem _ hj.1, hj.2⟩]
      · rw [if_neg hj, if_neg]
        rintro ⟨h1, h2⟩
        rcases List.mem_cons.mp h1 with h1 | h1
        · exact hv h1.symm
        · exact hj ⟨h1, h2⟩
theorem wipe_wipe (vs : List Nat) : wipe (wipe σ vs) vs = wipe σ vs := by
  apply List.ext_getElem?
  intro j
  rw [wipe_get, wipe_length, wipe_get]
  by_cases hj : j ∈ vs ∧ j < σ.length
  · rw [if_pos hj, if_pos hj]
  · rw [if_neg hj, if_neg hj]
theorem wipe_set {i : Nat} {v : V} {vs : List Nat} (h : i ∈ vs) : wipe (σ.set i (some v)) vs = wipe σ vs := by
  apply List.ext_getElem?
  intro j
  rw [wipe_get, wipe_get, List.length_set]
  by_cases hj : j ∈ vs ∧ j < σ.length
  · rw [if_pos hj, if_pos hj]
  · rw [if_neg hj, if_neg hj]
    by_cases hi : i = j
    · subst hi
      have hl : ¬ i < σ.length := fun z => hj ⟨h, z⟩
      rw [List.getElem?_eq_none (by rw [List.length_set]; omega), List.getElem?_eq_none (by omega)]
    · rw [List.getElem?_set_ne hi]
def gN (i : Nat) : GF := fun d e => some (e.set i (some d))
theorem st_name (i : Nat) : SemT T K (gName i) (gN i) [i] := by
  intro ρ H v d σ e e' Q s q en h hq
  cases h
  exact hq _ (en.set q i) fun vs hv => wipe_set (hv i (List.mem_singleton.mpr rfl))
abbrev GsF := List D → Env → Option Env
def SemTs (T : Tab) (K : PySem.W.Frag) (g : TGs) (gf : GsF) (is : List Nat) : Prop :=
  ∀ (ρ : Rho) (H : Hp) (vs : List V) (ds : List D) (σ : L2.St) (e e' : Env) (Q : L2.St → Hp → Prop), (∃ st, RS T K ρ H st) → RpL T K ρ H vs ds → REnv T K ρ H σ e → gf ds e = some e' →
    (∀ σ', REnv T K ρ H σ' e' → (∀ vs, (∀ i ∈ is, i ∈ vs) → wipe σ' vs = wipe σ vs) → Q σ' H) → g vs σ H Q
def gsN : GsF := fun ds e => match ds with
  | [] => some e
  | _ => none
def gsC (g : GF) (r : GsF) : GsF := fun ds e => match ds with
  | d :: ds => match g d e with
    | some e' => r ds e'
    | none => none
  | [] => none
theorem sts_nil : SemTs T K gNil gsN [] := by
  intro ρ H vs ds σ e e' Q s q en h hq
  cases q with
  | nil =>
    cases h
    exact ⟨rfl, hq σ en fun _ _ => rfl⟩
  | cons a b => cases h
theorem sts_cons {g : TG} {gs : TGs} {gf : GF} {gr : GsF} {is js : List Nat} (h1 : SemT T K g gf is) (h2 : SemTs T K gs gr js) : SemTs T K (gCons g gs) (gsC gf gr) (is ++ js) := by
  intro ρ H vs ds σ e e' Q s q en h hq
  cases q with
  | nil => cases h
  | @cons v vs d ds a b =>
    unfold gsC at h
    dsimp only at h
    cases e1 : gf d e with
    | none =>
      rw [e1] at h
      cases h
    | some e2 =>
      rw [e1] at h
      refine ⟨v, vs, rfl, h1 ρ H v d σ e e2 _ s a en e1 fun σ' en' hw => ?_⟩
      refine h2 ρ H vs ds σ' e2 e' _ s b en' h fun σ2 en2 hw2 => ?_
      refine hq σ2 en2 fun ws hws => ?_
      rw [hw2 ws fun i hi => hws i (List.mem_append_right _ hi), hw ws fun i hi => hws i (List.mem_append_left _ hi)]
def gT (r : GsF) (n : Nat) : GF := fun d e => match d with
  | .tup ds => if ds.length = n then r ds e else none
  | _ => none
theorem st_tup {gs : TGs} {gr : GsF} {is : List Nat} {n : Nat} (h : SemTs T K gs gr is) : SemT T K (gTup K n gs) (gT gr n) is := by
  intro ρ H v d σ e e' Q s q en h' hq
  cases q with
  | @tup a vs ds q r =>
    have h2 : (if ds.length = n then gr ds e else none) = some e' := h'
    split at h2
    · rename_i hn
      exact ⟨a, vs, rfl, q, by rw [r.length, hn], h ρ H vs ds σ e e' Q s r en h2 hq⟩
    · cases h2
  | _ => cases h'

/-! ### comprehensions -/
def wipeE (e : Env) : List Nat → Env
  | [] => e
  | v :: vs => (wipeE e vs).set v none
theorem REnv.wiped (en : REnv T K ρ H σ e) : ∀ vs, REnv T K ρ H (wipe σ vs) (wipeE e vs)
  | [] => en
  | v :: vs => by
    have ih := REnv.wiped en vs
    unfold wipe wipeE
    refine ⟨by rw [List.length_set, List.length_set, ih.len], fun j d h => ?_⟩
    by_cases hj : v = j
    · subst hj
      have hl : v < (wipeE e vs).length := by
        have := (List.getElem?_eq_some_iff.mp h).1
        rwa [List.length_set] at this
      rw [List.getElem?_set_self hl] at h
      cases h
    · rw [List.getElem?_set_ne hj] at h
      rw [List.getElem?_set_ne hj]
      exact ih.at_ j d h
/-- the turns of a comprehension -/
def cLoop (it : ItD) (gf : GF) (t : TF) (el : EF) (e0 : Env) : Nat → Nat → List D → Sto → Option (List D × Sto)
  | 0, i, acc, st => match itGet it i st with
    | some none => some (acc, st)
    | _ => none
  | m + 1, i, acc, st => match itGet it i st with
    | some none => some (acc, st)
    | some (some d) => match gf d e0 with
      | none => none
      | some e1 => match t e1 st with
        | some (.ok true, st1) => match el e1 st1 with
          | some (.ok y, st2) => if acc.length < bnd then cLoop it gf t el e0 m (i + 1) (acc ++ [y]) st2 else none
          | _ => none
        | some (.ok false, st1) => cLoop it gf t el e0 m (i + 1) acc st1
        | _ => none
    | none => none
def fLc (fi : IF) (gf : GF) (t : TF) (el : EF) (vs : List Nat) : EF := fun e => mbind (fi e) fun it st => match cLoop it gf t el (wipeE e vs) (itLen it st) 0 [] st with
  | some (acc, st') => alloc acc st'
  | none => none
def W0 : WX := fun _ _ _ _ => False
theorem MeOk.map (f : ∀ {vs : List V} {ds : List D}, RpL T K ρ H vs ds → RpL T K ρ' H' vs ds) (g : ∀ a C dx fs, H a = some (.ins C dx fs) → H' a = some (.ins C dx fs)) : ∀ {a : Option Addr} {sm : Option (Nat × List D)}, MeOk T K ρ H a sm → MeOk T K ρ' H' a sm
  | none, none, _ => True.intro
  | some a, some (c, ds), m => by
    obtain ⟨dx, vs, m1, m2, m3⟩ := m
    exact ⟨dx, vs, g _ _ _ _ m1, m2, f m3⟩
  | none, some _, m => m.elim
  | some _, none, m => m.elim
/-- a list that is not of the store is written -/
theorem outW (w : Wf ρ H) {p : Addr} {vs vs' : List V} (h : H p = some (.lst vs)) (hn : p ∉ ρ.l) : Evo ρ (fun b => if b = p then none else H b) ρ (upd H p (.lst vs')) := by
  refine ⟨⟨[], by simp, fun _ z => nomatch z⟩, rfl, fun a o q n1 n2 => ?_, fun a q => ?_⟩
  · have q' : (if a = p then none else H a) = some o := q
    by_cases ha : a = p
    · rw [if_pos ha] at q'
      cases q'
    · rw [if_neg ha] at q'
      rw [upd_ne ha]
      exact q'
  · show (if a = p then none else H a) = none
    by_cases ha : a = p
    · rw [if_pos ha]
    · rw [upd_ne ha] at q
      rw [if_neg ha]
      exact q
theorem keepL {p : Addr} {vs vs' : List V} (h : H p = some (.lst vs)) {a : Addr} {o : HO} (q : H a = some o) (n : ∀ xs, o ≠ .lst xs) : upd H p (.lst vs') a = some o := by
  rw [upd_ne]
  · exact q
  · intro z
    rw [z, h] at q
    exact n _ (Option.some.inj q).symm
mutual
theorem Rp.outL (w : Wf ρ H) {p : Addr} {xs xs' : List V} (h : H p = some (.lst xs)) (hn : p ∉ ρ.l) : ∀ {v : V} {d : D}, Rp T K ρ H v d → Rp T K ρ (upd H p (.lst xs')) v d
  | _, _, .non => .non
  | _, _, .bl b => .bl b
  | _, _, .int i => .int i
  | _, _, .str x => .str x
  | _, _, .tup (a := a) q r => .tup (by
      rcases q with (q | ⟨o, q⟩) | q
      · exact .inl (.inl (keepL h q fun _ z => nomatch z))
      · exact .inl (.inr ⟨o, keepL h q fun _ z => nomatch z⟩)
      · exact .inr q) (RpL.outL w h hn r)
  | _, _, .ptr q => .ptr q
  | _, _, .fro q r => .fro (by
      rcases q with ⟨o, q⟩ | q
      · exact .inl ⟨o, keepL h q fun _ z => nomatch z⟩
      · exact .inr q) (RpL.outL w h hn r)
  | _, _, .ins i q n l r => .ins i (keepL h q fun _ z => nomatch z) n l (RpL.outL w h hn r)
  | _, _, .err i q r => .err i (by
      obtain ⟨l, q⟩ := q
      refine ⟨l, ?_⟩
      rcases q with ⟨n, q⟩ | ⟨dx, fs, q1, q2, q3⟩
      · exact .inl ⟨n, keepL h q exo_lst⟩
      · exact .inr ⟨dx, fs, keepL h q1 exo_lst, keepL h q2 exd_lst, q3⟩) (RpL.outL w h hn r)
theorem RpL.outL (w : Wf ρ H) {p : Addr} {xs xs' : List V} (h : H p = some (.lst xs)) (hn : p ∉ ρ.l) : ∀ {vs : List V} {ds : List D}, RpL T K ρ H vs ds → RpL T K ρ (upd H p (.lst xs')) vs ds
  | _, _, .nil => .nil
  | _, _, .cons a r => .cons (Rp.outL w h hn a) (RpL.outL w h hn r)
end
theorem RS.out (s : RS T K ρ H st) {p : Addr} {vs vs' : List V} (h : H p = some (.lst vs)) (hn : p ∉ ρ.l) : RS T K ρ (upd H p (.lst vs')) st := by
  have w := s.wf
  refine ⟨s.len, s.nd, fun n a ds h1 h2 => ?_, ?_, fun a ha hz => s.old a ha ((outW w h hn).dm a hz |> fun q => (by
      have q' : (if a = p then none else H a) = none := q
      by_cases hq : a = p
      · rw [hq, upd_same] at hz
        cases hz
      · rw [if_neg hq] at q'
        exact q'))⟩
  · obtain ⟨ws, h3, h4⟩ := s.ent n a ds h1 h2
    refine ⟨ws, ?_, h4.outL w h hn⟩
    rw [upd_ne (fun z => hn (by rw [← z]; exact List.mem_of_getElem? h1))]
    exact h3
  · exact s.me.map (fun r => r.outL w h hn) fun a C dx fs q => keepL h q fun _ z => nomatch z
/-- the made list is taken into the store -/
theorem RS.adopt (s : RS T K ρ H st) {p : Addr} {vs : List V} {ds : List D} (h : H p = some (.lst vs)) (hn : p ∉ ρ.l) (r : RpL T K ρ H vs ds) : RS T K { ρ with l := ρ.l ++ [p] } H { st with l := st.l ++ [ds] } := by
  have hl : ∀ (n : Nat) a, ρ.l[n]? = some a → (ρ.l ++ [p])[n]? = some a := fun n a q => by
    rw [List.getElem?_append_left (List.getElem?_eq_some_iff.mp q).1]
    exact q
  have ex : ∀ {vs : List V} {ds : List D}, RpL T K ρ H vs ds → RpL T K { ρ with l := ρ.l ++ [p] } H vs ds := fun r => RpL.ext (ρ' := { ρ with l := ρ.l ++ [p] }) hl rfl r
  refine ⟨by simp [s.len], ?_, fun n a es h1 h2 => ?_, ?_, s.old⟩
  · show (ρ.l ++ [p]).Nodup
    rw [List.nodup_append]
    exact ⟨s.nd, by simp, fun a ha b hb z => by
      rw [List.mem_singleton.mp hb] at z
      exact hn (by rw [← z]; exact ha)⟩
  · have h1' : (ρ.l ++ [p])[n]? = some a := h1
    have h2' : (st.l ++ [ds])[n]? = some es := h2
    by_cases hq : n < ρ.l.length
    · rw [List.getElem?_append_left hq] at h1'
      rw [List.getElem?_append_left (by rw [← s.len]; exact hq)] at h2'
      obtain ⟨ws, h3, h4⟩ := s.ent n a es h1' h2'
      exact ⟨ws, h3, ex h4⟩
    · have hn2 : n = ρ.l.length := by
        have := (List.getElem?_eq_some_iff.mp h1').1
        rw [List.length_append, List.length_singleton] at this
        omega
      subst hn2
      rw [List.getElem?_append_right (Nat.le_refl _)] at h1'
      rw [s.len, List.getElem?_append_right (Nat.le_refl _)] at h2'
      simp at h1' h2'
      subst h1' h2'
      exact ⟨vs, h, ex r⟩
  · exact MeOk.map (ρ' := { ρ with l := ρ.l ++ [p] }) ex (fun _ _ _ _ q => q) s.me
theorem sem_lc {wi : TI} {g : TG} {tt : TT} {te : TE} {fi : IF} {gf : GF} {t : TF} {el : EF} {vs is : List Nat} (hi : Sem T K W (RJ T K) wi fi) (hg : SemT T K g gf is) (hv : ∀ i ∈ is, i ∈ vs) (ht : Sem T K W0 RB tt t) (he : Sem T K W0 (Rp T K) te el) :
    Sem T K W (Rp T K) (tLc wi g tt te vs) (fLc fi gf t el vs) := by
  intro ρ σ H Q e st r st' s en h hp
  refine hi.bind s en h hp fun J it ρ1 H1 st1 ev s1 en1 q1 h' hp1 => ?_
  intro D hD
  cases e1 : cLoop it gf t el (wipeE e vs) (itLen it st1) 0 [] st1 with
  | none =>
    rw [e1] at h'
    cases h'
  | some p =>
    obtain ⟨acc, st2⟩ := p
    rw [e1] at h'
    -- the invariant: the list under way stands at D, outside the store
    refine ⟨fun i m H2 => ∃ ρ2 st3 acc3 vs3, Evo ρ1 H1 ρ2 H2 ∧ RS T K ρ2 H2 st3 ∧ H2 D = some (.lst vs3) ∧ D ∉ ρ2.l ∧ RpL T K ρ2 H2 vs3 acc3 ∧ cLoop it gf t el (wipeE e vs) m i acc3 st3 = some (acc, st2),
      ⟨_, ρ1, st1, [], [], Evo.new hD, s1.evo0 hD, upd_same, fun z => ?_, .nil, e1⟩, ?_⟩
    · obtain ⟨xs, q⟩ := s1.wf.l D z
      rw [hD] at q
      cases q
    · rintro i m H2 ⟨ρ2, st3, acc3, vs3, ev2, s3, hD3, nD, r3, hL⟩
      have fin : itGet it i st3 = some none → acc = acc3 ∧ st2 = st3 → J.stop i H2 ∧ Q (.ref D) H2 := fun hg' he' => by
        obtain ⟨rfl, rfl⟩ := he'
        refine ⟨(q1 ρ2 H2 st2 ev2 s3 i).1 hg', ?_⟩
        cases h'
        refine hp1 (.ref D) H2 { ρ2 with l := ρ2.l ++ [D] } ?_ (s3.adopt hD3 nD r3) (.ptr ?_)
        · obtain ⟨⟨u, e2, f2⟩, m2, o2, d2⟩ := ev2
          refine ⟨⟨u ++ [D], by show ρ2.l ++ [D] = _; rw [e2, List.append_assoc], fun a ha => ?_⟩, m2, o2, d2⟩
          rcases List.mem_append.mp ha with ha | ha
          · exact f2 a ha
          · rw [List.mem_singleton.mp ha]
            exact hD
        · show (ρ2.l ++ [D])[st2.l.length]? = some D
          rw [← s3.len, List.getElem?_append_right (Nat.le_refl _)]
          simp
      have stay : ∀ {ρ4 H4}, Evo ρ2 H2 ρ4 H4 → H4 D = some (.lst vs3) ∧ D ∉ ρ4.l := fun {ρ4 H4} ev4 => by
        refine ⟨ev4.ob D _ hD3 nD fun z => ?_, fun z => ?_⟩
        · obtain ⟨C, dx, fs, q⟩ := s3.wf.me D z
          rw [hD3] at q
          cases q
        · obtain ⟨⟨u, e2, f2⟩, _⟩ := ev4
          rw [e2] at z
          rcases List.mem_append.mp z with z | z
          · exact nD z
          · rw [f2 D z] at hD3
            cases hD3
      cases m with
      | zero =>
        unfold cLoop at hL
        cases e2 : itGet it i st3 with
        | none =>
          rw [e2] at hL
          cases hL
        | some o =>
          rw [e2] at hL
          cases o with
          | none =>
            cases hL
            exact .inl (fin e2 ⟨rfl, rfl⟩)
          | some d => cases hL
      | succ m =>
        unfold cLoop at hL
        cases e2 : itGet it i st3 with
        | none =>
          rw [e2] at hL
          cases hL
        | some o =>
          rw [e2] at hL
          cases o with
          | none =>
            cases hL
            exact .inl (fin e2 ⟨rfl, rfl⟩)
          | some d =>
            dsimp only at hL
            obtain ⟨go, yl⟩ := (q1 ρ2 H2 st3 ev2 s3 i).2 d e2
            refine .inr ⟨go, fun H3 => ∃ ρ2 st3 acc3 vs3, Evo ρ1 H1 ρ2 H3 ∧ RS T K ρ2 H3 st3 ∧ H3 D = some (.lst vs3) ∧ D ∉ ρ2.l ∧ RpL T K ρ2 H3 vs3 acc3 ∧ cLoop it gf t el (wipeE e vs) m (i + 1) acc3 st3 = some (acc, st2), fun H3 hN => ⟨m, Nat.lt_succ_self m, hN⟩, fun x H3 y => ?_⟩
            obtain ⟨ev3, s4, q4⟩ := yl x H3 y
            cases e3 : gf d (wipeE e vs) with
            | none =>
              rw [e3] at hL
              cases hL
            | some e4 =>
              rw [e3] at hL
              dsimp only at hL
              have en3 := ((en1.mono s1.wf (ev2.trans ev3)).wiped vs)
              refine hg ρ2 H3 x d _ _ e4 _ ⟨_, s4⟩ q4 en3 e3 fun σ' en4 hw => ?_
              refine ⟨?_, ?_⟩
              · have z := hw vs hv
                rw [z]
                exact wipe_wipe vs
              cases e5 : t e4 st3 with
              | none =>
                rw [e5] at hL
                cases hL
              | some p =>
                obtain ⟨rb, st5⟩ := p
                rw [e5] at hL
                cases rb with
                | error er => cases hL
                | ok b =>
                  refine ht ρ2 σ' H3 _ e4 st3 (.ok b) st5 s4 en4 e5 ?_
                  intro b' H5 ρ5 ev5 s5 hb
                  have hb' : b' = b := hb
                  subst hb'
                  have st5' := stay (ev3.trans ev5)
                  cases b' with
                  | false =>
                    dsimp only at hL
                    refine iteF ⟨ρ5, st5, acc3, vs3, ev2.trans (ev3.trans ev5), s5, st5'.1, st5'.2, r3.mono s3.wf (ev3.trans ev5), hL⟩
                  | true =>
                    dsimp only at hL
                    cases e6 : el e4 st5 with
                    | none =>
                      rw [e6] at hL
                      cases hL
                    | some p =>
                      obtain ⟨ry, st6⟩ := p
                      rw [e6] at hL
                      cases ry with
                      | error er => cases hL
                      | ok dy =>
                        dsimp only at hL
                        split at hL
                        · rename_i hlen
                          refine iteT (he ρ5 σ' H5 _ e4 st5 (.ok dy) st6 s5 (en4.mono s4.wf ev5) e6 ?_)
                          intro vy H6 ρ6 ev6 s6 qy
                          have evA := ev3.trans (ev5.trans ev6)
                          have stA := stay evA
                          have rA := r3.mono s3.wf evA
                          refine ⟨vs3, stA.1, bnd_lt (by rw [r3.length]; exact hlen), ρ6, st6, acc3 ++ [dy], vs3 ++ [vy], ?_, ?_, upd_same, stA.2, ?_, hL⟩
                          · have evB : Evo ρ1 H1 ρ6 H6 := ev2.trans evA
                            obtain ⟨p1, p2, p3, p4⟩ := evB
                            refine ⟨p1, p2, fun a o q n1 n2 => ?_, fun a q => ?_⟩
                            · rw [upd_ne (ne_of_none q hD)]
                              exact p3 a o q n1 n2
                            · by_cases ha : a = D
                              · rw [ha]
                                exact hD
                              · rw [upd_ne ha] at q
                                exact p4 a q
                          · exact s6.out (vs' := vs3 ++ [vy]) stA.1 stA.2
                          · exact (rA.app (.cons qy .nil)).outL s6.wf stA.1 stA.2
                        · cases hL
end
end Vm
/-! Vm6: statements, defs. -/
namespace Vm
open PySem PySem.Spec PyProof.Rows L2
inductive SR where
  | nx (e : Env)
  | rt (d : D)
  | bk (e : Env)
  | ct (e : Env)
  | er (e : Env) (x : Er)
abbrev SF := Env → Sto → Option (SR × Sto)
/-- an expression's end, then the statement's -/
def sbind {α : Type} (x : M α) (e : Env) (k : α → Sto → Option (SR × Sto)) : Sto → Option (SR × Sto) := fun st => match x st with
  | none => none
  | some (.error er, st') => some (.er e er, st')
  | some (.ok a, st') => k a st'
/-- what is wanted behind a statement -/
def PstS (T : Tab) (K : PySem.W.Frag) (W : WX) (ρ : Rho) (H : Hp) (D : Ends) (r : SR) (st' : Sto) : Prop := match r with
  | .nx e' => ∀ σ' H' ρ', Evo ρ H ρ' H' → RS T K ρ' H' st' → REnv T K ρ' H' σ' e' → D.nx σ' H'
  | .bk e' => ∀ σ' H' ρ', Evo ρ H ρ' H' → RS T K ρ' H' st' → REnv T K ρ' H' σ' e' → D.bk σ' H'
  | .ct e' => ∀ σ' H' ρ', Evo ρ H ρ' H' → RS T K ρ' H' st' → REnv T K ρ' H' σ' e' → D.ct σ' H'
  | .rt d => ∀ v H' ρ', Evo ρ H ρ' H' → RS T K ρ' H' st' → Rp T K ρ' H' v d → D.rt v H'
  | .er e' x => ∀ σ' cls dx H' ρ', Evo ρ H ρ' H' → RS T K ρ' H' st' → REnv T K ρ' H' σ' e' → EW T K ρ' H' x cls dx → W cls dx σ' H'
def SemS (T : Tab) (K : PySem.W.Frag) (W : WX) (t : TS) (f : SF) : Prop :=
  ∀ (ρ : Rho) (σ : L2.St) (H : Hp) (D : Ends) (e : Env) (st : Sto) (r : SR) (st' : Sto), RS T K ρ H st → REnv T K ρ H σ e → f e st = some (r, st') → PstS T K W ρ H D r st' → t D σ H
section
variable {X : Cx} {T : Tab} {K : PySem.W.Frag} {W : WX} {ρ ρ' ρ1 : Rho} {H H' H1 : Hp} {st st' st1 : Sto} {σ : L2.St} {e : Env} {α β γ δ : Type} {k : Nat}
theorem PstS.from_ {D : Ends} {r : SR} (h : PstS T K W ρ H D r st') (ev : Evo ρ H ρ1 H1) : PstS T K W ρ1 H1 D r st' := by
  cases r with
  | nx e' => exact fun σ' H' ρ' e s q => h σ' H' ρ' (ev.trans e) s q
  | bk e' => exact fun σ' H' ρ' e s q => h σ' H' ρ' (ev.trans e) s q
  | ct e' => exact fun σ' H' ρ' e s q => h σ' H' ρ' (ev.trans e) s q
  | rt d => exact fun v H' ρ' e s q => h v H' ρ' (ev.trans e) s q
  | er e' x => exact fun σ' cls dx H' ρ' e s q => h σ' cls dx H' ρ' (ev.trans e) s q
theorem Sem.bindS {R : Rho → Hp → β → α → Prop} {t : L2.St → Hp → (β → Hp → Prop) → Prop} {f : Env → M α} {kk : α → Sto → Option (SR × Sto)} {D : Ends} {r : SR} (ht : Sem T K W R t f)
    (s : RS T K ρ H st) (en : REnv T K ρ H σ e) (h : sbind (f e) e kk st = some (r, st')) (hp : PstS T K W ρ H D r st') {Qm : β → Hp → Prop}
    (hk : ∀ (v : β) (d : α) (ρ1 : Rho) (H1 : Hp) (st1 : Sto), Evo ρ H ρ1 H1 → RS T K ρ1 H1 st1 → REnv T K ρ1 H1 σ e → R ρ1 H1 v d → kk d st1 = some (r, st') → PstS T K W ρ1 H1 D r st' → Qm v H1) : t σ H Qm := by
  unfold sbind at h
  cases h1 : f e st with
  | none =>
    rw [h1] at h
    cases h
  | some p =>
    obtain ⟨q, st1⟩ := p
    rw [h1] at h
    cases q with
    | error er =>
      cases h
      exact ht ρ σ H Qm e st _ st' s en h1 fun cls dx H' ρ' ev s' q => hp σ cls dx H' ρ' ev s' (en.mono s.wf ev) q
    | ok d => exact ht ρ σ H Qm e st _ st1 s en h1 fun v H1 ρ1 ev s1 q => hk v d ρ1 H1 st1 ev s1 (en.mono s.wf ev) q h (hp.from_ ev)

/-! ### small statements -/
def sAsg (f : EF) (g : GF) : SF := fun e => sbind (f e) e fun d st => match g d e with
  | some e' => some (.nx e', st)
  | none => none
theorem ss_asg {te : TE} {g : TG} {f : EF} {gf : GF} {is : List Nat} (h1 : Sem T K W (Rp T K) te f) (h2 : SemT T K g gf is) : SemS T K W (tAsg te g) (sAsg f gf) := by
  intro ρ σ H D e st r st' s en h hp
  refine h1.bindS s en h hp fun v d ρ1 H1 st1 ev s1 en1 q1 h' hp1 => ?_
  cases e1 : gf d e with
  | none =>
    rw [e1] at h'
    cases h'
  | some e' =>
    rw [e1] at h'
    cases h'
    exact h2 ρ1 H1 v d σ e e' _ ⟨_, s1⟩ q1 en1 e1 fun σ' en' _ => hp1 σ' H1 ρ1 Evo.refl s1 en'
/-- o[i] = e, o a list -/
def sSet (fo fi fv : EF) : SF := fun e => sbind (fv e) e fun v => sbind (fo e) e fun o => sbind (fi e) e fun i st => match o, i with
  | .ptr n, .int j => match st.l[n]? with
    | some l => match ixN l.length j with
      | some m => some (.nx e, { st with l := st.l.set n (l.set m v) })
      | none => none
    | none => none
  | _, _ => none
theorem ss_set {te to ti : TE} {fo fi fv : EF} (h1 : Sem T K W (Rp T K) te fv) (h2 : Sem T K W (Rp T K) to fo) (h3 : Sem T K W (Rp T K) ti fi) : SemS T K W (tAsg te (gSub to ti rSetL)) (sSet fo fi fv) := by
  intro ρ σ H D e st r st' s en h hp
  refine h1.bindS s en h hp fun v d ρ1 H1 st1 ev s1 en1 q1 h' hp1 => ?_
  refine h2.bindS s1 en1 h' hp1 fun o dd ρ2 H2 st2 ev2 s2 en2 q2 h'' hp2 => ?_
  refine h3.bindS s2 en2 h'' hp2 fun i di ρ3 H3 st3 ev3 s3 en3 q3 h3' hp3 => ?_
  cases q2 with
  | @ptr a n q =>
    cases q3 with
    | int j =>
      dsimp only at h3'
      have q' := ev3.at q
      cases e1 : st3.l[n]? with
      | none =>
        rw [e1] at h3'
        cases h3'
      | some l =>
        rw [e1] at h3'
        dsimp only at h3'
        cases e2 : ixN l.length j with
        | none =>
          rw [e2] at h3'
          cases h3'
        | some m =>
          rw [e2] at h3'
          cases h3'
          obtain ⟨vs, g1, g2⟩ := s3.ent n a l q' e1
          have qv := (q1.mono s1.wf ev2).mono s2.wf ev3
          have evw : Evo ρ3 H3 ρ3 (upd H3 a (.lst (vs.set m v))) := Evo.wr (List.mem_of_getElem? q')
          refine ⟨a, vs, j, m, rfl, rfl, g1, by rw [g2.length]; exact e2, ?_⟩
          exact hp3 σ _ ρ3 evw (s3.wr q' (RpL.set qv m g2)) (en3.mono s3.wf evw)
    | _ => cases h3'
  | _ => cases h3'
def sExpr (f : EF) : SF := fun e => sbind (f e) e fun _ st => some (.nx e, st)
theorem ss_expr {te : TE} {f : EF} (h1 : Sem T K W (Rp T K) te f) : SemS T K W (tDrop te) (sExpr f) := by
  intro ρ σ H D e st r st' s en h hp
  refine h1.bindS s en h hp fun v d ρ1 H1 st1 ev s1 en1 q1 h' hp1 => ?_
  cases h'
  exact hp1 σ H1 ρ1 Evo.refl s1 en1
def sRet (f : EF) : SF := fun e => sbind (f e) e fun d st => some (.rt d, st)
theorem ss_ret {te : TE} {f : EF} (h1 : Sem T K W (Rp T K) te f) : SemS T K W (tRet te) (sRet f) := by
  intro ρ σ H D e st r st' s en h hp
  refine h1.bindS s en h hp fun v d ρ1 H1 st1 ev s1 en1 q1 h' hp1 => ?_
  cases h'
  exact hp1 v H1 ρ1 Evo.refl s1 q1
def sRetN : SF := fun _ st => some (.rt .non, st)
theorem ss_retN : SemS T K W tRetN sRetN := by
  intro ρ σ H D e st r st' s en h hp
  cases h
  exact hp .non H ρ Evo.refl s .non
def sPass : SF := fun e st => some (.nx e, st)
theorem ss_pass : SemS T K W tNext sPass := by
  intro ρ σ H D e st r st' s en h hp
  cases h
  exact hp σ H ρ Evo.refl s en
def sBreak : SF := fun e st => some (.bk e, st)
theorem ss_break : SemS T K W tBreak sBreak := by
  intro ρ σ H D e st r st' s en h hp
  cases h
  exact hp σ H ρ Evo.refl s en
def sCont : SF := fun e st => some (.ct e, st)
theorem ss_cont : SemS T K W tCont sCont := by
  intro ρ σ H D e st r st' s en h hp
  cases h
  exact hp σ H ρ Evo.refl s en
def sIf (c : TF) (a b : SF) : SF := fun e => sbind (c e) e fun x st => if x then a e st else b e st
theorem ss_if {tc : TT} {t u : TS} {c : TF} {a b : SF} (h0 : Sem T K W RB tc c) (h1 : SemS T K W t a) (h2 : SemS T K W u b) : SemS T K W (tIfS tc t u) (sIf c a b) := by
  intro ρ σ H D e st r st' s en h hp
  refine h0.bindS s en h hp fun v d ρ1 H1 st1 ev s1 en1 q1 h' hp1 => ?_
  have q1' : v = d := q1
  subst q1'
  cases v with
  | true => exact iteT (h1 ρ1 σ H1 D e st1 r st' s1 en1 h' hp1)
  | false => exact iteF (h2 ρ1 σ H1 D e st1 r st' s1 en1 h' hp1)
def sSeq (a b : SF) : SF := fun e st => match a e st with
  | some (.nx e', st') => b e' st'
  | r => r
theorem ss_seq {t u : TS} {a b : SF} (h1 : SemS T K W t a) (h2 : SemS T K W u b) : SemS T K W (tSeq t u) (sSeq a b) := by
  intro ρ σ H D e st r st' s en h hp
  unfold sSeq at h
  cases e1 : a e st with
  | none =>
    rw [e1] at h
    cases h
  | some p =>
    obtain ⟨r1, st1⟩ := p
    rw [e1] at h
    refine h1 ρ σ H _ e st r1 st1 s en e1 ?_
    cases r1 with
    | nx e' => exact fun σ' H' ρ' ev s' en' => h2 ρ' σ' H' D e' st1 r st' s' en' h (hp.from_ ev)
    | rt d =>
      cases h
      exact hp
    | bk e' =>
      cases h
      exact hp
    | ct e' =>
      cases h
      exact hp
    | er e' x =>
      cases h
      exact hp

/-! ### for -/
def fLoop (it : ItD) (gf : GF) (b : SF) : Nat → Nat → SF
  | 0, i, e, st => match itGet it i st with
    | some none => some (.nx e, st)
    | _ => none
  | m + 1, i, e, st => match itGet it i st with
    | some none => some (.nx e, st)
    | some (some d) => match gf d e with
      | none => none
      | some e1 => match b e1 st with
        | some (.nx e2, st2) => fLoop it gf b m (i + 1) e2 st2
        | some (.ct e2, st2) => fLoop it gf b m (i + 1) e2 st2
        | some (.bk e2, st2) => some (.nx e2, st2)
        | r => r
    | none => none
def sFor (fi : IF) (gf : GF) (b : SF) : SF := fun e => sbind (fi e) e fun it st => fLoop it gf b (itLen it st) 0 e st
theorem ss_for {wi : TI} {g : TG} {tb : TS} {fi : IF} {gf : GF} {b : SF} {is : List Nat} (hi : Sem T K W (RJ T K) wi fi) (hg : SemT T K g gf is) (hb : SemS T K W tb b) : SemS T K W (tFor wi g tb) (sFor fi gf b) := by
  intro ρ σ H D e st r st' s en h hp
  refine hi.bindS s en h hp fun J it ρ1 H1 st1 ev s1 en1 q1 h' hp1 => ?_
  refine ⟨fun i m σ2 H2 => ∃ ρ2 e2 st2, Evo ρ1 H1 ρ2 H2 ∧ RS T K ρ2 H2 st2 ∧ REnv T K ρ2 H2 σ2 e2 ∧ fLoop it gf b m i e2 st2 = some (r, st'), ⟨_, ρ1, e, st1, Evo.refl, s1, en1, h'⟩, ?_⟩
  rintro i m σ2 H2 ⟨ρ2, e2, st2, ev2, s2, en2, hL⟩
  have stop : itGet it i st2 = some none → some (SR.nx e2, st2) = some (r, st') → J.stop i H2 ∧ D.nx σ2 H2 := fun h1 h2 => by
    cases h2
    exact ⟨(q1 ρ2 H2 _ ev2 s2 i).1 h1, hp1 σ2 H2 ρ2 ev2 s2 en2⟩
  cases m with
  | zero =>
    unfold fLoop at hL
    cases e3 : itGet it i st2 with
    | none =>
      rw [e3] at hL
      cases hL
    | some o =>
      rw [e3] at hL
      cases o with
      | none => exact .inl (stop e3 hL)
      | some d => cases hL
  | succ m =>
    unfold fLoop at hL
    cases e3 : itGet it i st2 with
    | none =>
      rw [e3] at hL
      cases hL
    | some o =>
      rw [e3] at hL
      cases o with
      | none => exact .inl (stop e3 hL)
      | some d =>
        dsimp only at hL
        obtain ⟨go, yl⟩ := (q1 ρ2 H2 st2 ev2 s2 i).2 d e3
        refine .inr ⟨go, fun σ3 H3 => ∃ ρ2 e2 st2, Evo ρ1 H1 ρ2 H3 ∧ RS T K ρ2 H3 st2 ∧ REnv T K ρ2 H3 σ3 e2 ∧ fLoop it gf b m (i + 1) e2 st2 = some (r, st'), fun σ3 H3 hN => ⟨m, Nat.lt_succ_self m, hN⟩, fun x H3 y => ?_⟩
        obtain ⟨ev3, s4, q4⟩ := yl x H3 y
        cases e4 : gf d e2 with
        | none =>
          rw [e4] at hL
          cases hL
        | some e5 =>
          rw [e4] at hL
          dsimp only at hL
          refine hg ρ2 H3 x d σ2 e2 e5 _ ⟨_, s4⟩ q4 (en2.mono s2.wf ev3) e4 fun σ' en5 _ => ?_
          have evA := ev2.trans ev3
          cases e6 : b e5 st2 with
          | none =>
            rw [e6] at hL
            cases hL
          | some p =>
            obtain ⟨r6, st6⟩ := p
            rw [e6] at hL
            refine hb ρ2 σ' H3 _ e5 st2 r6 st6 s4 en5 e6 ?_
            cases r6 with
            | nx e7 => exact fun σ7 H7 ρ7 ev7 s7 en7 => ⟨ρ7, e7, st6, evA.trans ev7, s7, en7, hL⟩
            | ct e7 => exact fun σ7 H7 ρ7 ev7 s7 en7 => ⟨ρ7, e7, st6, evA.trans ev7, s7, en7, hL⟩
            | bk e7 =>
              cases hL
              exact fun σ7 H7 ρ7 ev7 s7 en7 => hp1 σ7 H7 ρ7 (evA.trans ev7) s7 en7
            | rt d7 =>
              cases hL
              exact fun v H7 ρ7 ev7 s7 q7 => hp1 v H7 ρ7 (evA.trans ev7) s7 q7
            | er e7 x7 =>
              cases hL
              exact fun σ7 cls dx H7 ρ7 ev7 s7 en7 q7 => hp1 σ7 cls dx H7 ρ7 (evA.trans ev7) s7 en7 q7

/-! ### while: at most m turns -/
def wLoop (c : TF) (b : SF) : Nat → SF
  | 0, _, _ => none
  | m + 1, e, st => match c e st with
    | none => none
    | some (.error er, st1) => some (.er e er, st1)
    | some (.ok false, st1) => some (.nx e, st1)
    | some (.ok true, st1) => match b e st1 with
      | some (.nx e2, st2) => wLoop c b m e2 st2
      | some (.ct e2, st2) => wLoop c b m e2 st2
      | some (.bk e2, st2) => some (.nx e2, st2)
      | r => r
theorem ss_while {tc : TT} {tb : TS} {c : TF} {b : SF} (m : Nat) (hc : Sem T K W RB tc c) (hb : SemS T K W tb b) : SemS T K W (tWhile tc tb) (wLoop c b m) := by
  intro ρ σ H D e st r st' s en h hp
  refine ⟨fun m σ2 H2 => ∃ ρ2 e2 st2, Evo ρ H ρ2 H2 ∧ RS T K ρ2 H2 st2 ∧ REnv T K ρ2 H2 σ2 e2 ∧ wLoop c b m e2 st2 = some (r, st'), ⟨m, ρ, e, st, Evo.refl, s, en, h⟩, ?_⟩
  rintro m σ2 H2 ⟨ρ2, e2, st2, ev2, s2, en2, hL⟩
  cases m with
  | zero => cases hL
  | succ m =>
    unfold wLoop at hL
    cases e3 : c e2 st2 with
    | none =>
      rw [e3] at hL
      cases hL
    | some p =>
      obtain ⟨r3, st3⟩ := p
      rw [e3] at hL
      refine hc ρ2 σ2 H2 _ e2 st2 r3 st3 s2 en2 e3 ?_
      cases r3 with
      | error er =>
        cases hL
        exact fun cls dx H' ρ' ev s' q => hp σ2 cls dx H' ρ' (ev2.trans ev) s' (en2.mono s2.wf ev) q
      | ok x =>
        intro x' H3 ρ3 ev3 s3 hx
        have hx' : x' = x := hx
        subst hx'
        have en3 := en2.mono s2.wf ev3
        have evA := ev2.trans ev3
        cases x' with
        | false =>
          dsimp only at hL
          cases hL
          exact iteF (hp σ2 H3 ρ3 evA s3 en3)
        | true =>
          dsimp only at hL
          refine iteT ⟨fun σ4 H4 => ∃ ρ2 e2 st2, Evo ρ H ρ2 H4 ∧ RS T K ρ2 H4 st2 ∧ REnv T K ρ2 H4 σ4 e2 ∧ wLoop c b m e2 st2 = some (r, st'), fun σ4 H4 hN => ⟨m, Nat.lt_succ_self m, hN⟩, ?_⟩
          cases e6 : b e2 st3 with
          | none =>
            rw [e6] at hL
            cases hL
          | some p =>
            obtain ⟨r6, st6⟩ := p
            rw [e6] at hL
            refine hb ρ3 σ2 H3 _ e2 st3 r6 st6 s3 en3 e6 ?_
            cases r6 with
            | nx e7 => exact fun σ7 H7 ρ7 ev7 s7 en7 => ⟨ρ7, e7, st6, evA.trans ev7, s7, en7, hL⟩
            | ct e7 => exact fun σ7 H7 ρ7 ev7 s7 en7 => ⟨ρ7, e7, st6, evA.trans ev7, s7, en7, hL⟩
            | bk e7 =>
              cases hL
              exact fun σ7 H7 ρ7 ev7 s7 en7 => hp σ7 H7 ρ7 (evA.trans ev7) s7 en7
            | rt d7 =>
              cases hL
              exact fun v H7 ρ7 ev7 s7 q7 => hp v H7 ρ7 (evA.trans ev7) s7 q7
            | er e7 x7 =>
              cases hL
              exact fun σ7 cls dx H7 ρ7 ev7 s7 en7 q7 => hp σ7 cls dx H7 ρ7 (evA.trans ev7) s7 en7 q7
end
end Vm
/-! Vm7: defs: what is left of the store behind a call; calls. -/
namespace Vm
open PySem PySem.Spec PyProof.Rows L2
mutual
/-- all lists named in it stand below n -/
def clo (n : Nat) : D → Bool
  | .ptr m => decide (m < n)
  | .tup ds => cloL n ds
  | .fro ds => cloL n ds
  | .ins _ ds => cloL n ds
  | .err _ ds => cloL n ds
  | _ => true
def cloL (n : Nat) : List D → Bool
  | [] => true
  | d :: ds => clo n d && cloL n ds
end
section
variable {X : Cx} {T : Tab} {K : PySem.W.Frag} {W : WX} {ρ ρ' ρ1 : Rho} {H H' H1 : Hp} {st st' st1 : Sto} {σ : L2.St} {e : Env} {α β γ δ : Type} {k : Nat}
mutual
theorem Rp.clo : ∀ {v : V} {d : D}, Rp T K ρ H v d → clo ρ.l.length d = true
  | _, _, .non => by simp only [Vm.clo]
  | _, _, .bl b => by simp only [Vm.clo]
  | _, _, .int i => by simp only [Vm.clo]
  | _, _, .str x => by simp only [Vm.clo]
  | _, _, .tup h r => by
    simp only [Vm.clo]
    exact RpL.clo r
  | _, _, .ptr h => by
    simp only [Vm.clo]
    exact decide_eq_true (List.getElem?_eq_some_iff.mp h).1
  | _, _, .fro h r => by
    simp only [Vm.clo]
    exact RpL.clo r
  | _, _, .ins i h n l r => by
    simp only [Vm.clo]
    exact RpL.clo r
  | _, _, .err i h r => by
    simp only [Vm.clo]
    exact RpL.clo r
theorem RpL.clo : ∀ {vs : List V} {ds : List D}, RpL T K ρ H vs ds → cloL ρ.l.length ds = true
  | _, _, .nil => by simp only [Vm.cloL]
  | _, _, .cons h r => by
    simp only [Vm.cloL, Bool.and_eq_true]
    exact ⟨Rp.clo h, RpL.clo r⟩
end
mutual
/-- what names the first lists alone stands over these -/
theorem Rp.low {t : List Addr} (hl : ρ'.l = ρ.l ++ t) (hm : ρ'.me = ρ.me) : ∀ {v : V} {d : D}, Rp T K ρ' H v d → clo ρ.l.length d = true → Rp T K ρ H v d
  | _, _, .non, _ => .non
  | _, _, .bl b, _ => .bl b
  | _, _, .int i, _ => .int i
  | _, _, .str x, _ => .str x
  | _, _, .tup h r, c => .tup h (RpL.low hl hm r (by simpa only [Vm.clo] using c))
  | _, _, .ptr (n := n) h, c => .ptr (by
      have c' : n < ρ.l.length := by simpa only [Vm.clo, decide_eq_true_eq] using c
      rw [hl, List.getElem?_append_left c'] at h
      exact h)
  | _, _, .fro h r, c => .fro h (RpL.low hl hm r (by simpa only [Vm.clo] using c))
  | _, _, .ins i h n l r, c => .ins i h (by rw [← hm]; exact n) l (RpL.low hl hm r (by simpa only [Vm.clo] using c))
  | _, _, .err i h r, c => .err i h (RpL.low hl hm r (by simpa only [Vm.clo] using c))
theorem RpL.low {t : List Addr} (hl : ρ'.l = ρ.l ++ t) (hm : ρ'.me = ρ.me) : ∀ {vs : List V} {ds : List D}, RpL T K ρ' H vs ds → cloL ρ.l.length ds = true → RpL T K ρ H vs ds
  | _, _, .nil, _ => .nil
  | _, _, .cons h r, c => by
    simp only [Vm.cloL, Bool.and_eq_true] at c
    exact .cons (Rp.low hl hm h c.1) (RpL.low hl hm r c.2)
end
/-- the old lists name old lists alone -/
def gcOk (st0 st' : Sto) : Prop := (∀ i, i < st0.l.length → st'.l[i]? = st0.l[i]? ∨ ∃ c, st'.l[i]? = some c ∧ cloL st0.l.length c = true) ∧ (st'.me = st0.me ∨ ∃ c ds, st'.me = some (c, ds) ∧ cloL st0.l.length ds = true)
/-- the lists made on the way are let go -/
noncomputable def gcD (st0 : Sto) (d : D) (st' : Sto) : D × Sto := open Classical in
  if gcOk st0 st' then
    if clo st0.l.length d then (d, { st' with l := st'.l.take st0.l.length })
    else match d with
      | .ptr m => match st'.l[m]? with
        | some c => if cloL st0.l.length c then (.ptr st0.l.length, { st' with l := st'.l.take st0.l.length ++ [c] }) else (d, st')
        | none => (d, st')
      | _ => (d, st')
  else (d, st')
noncomputable def gcE (st0 : Sto) (x : Er) (st' : Sto) : Sto := open Classical in
  if gcOk st0 st' ∧ cloL st0.l.length x.2 = true then { st' with l := st'.l.take st0.l.length } else st'
/-- a def: so many names, the body -/
noncomputable def fnRun (N : Nat) (b : SF) : FnF := fun ds st => match b (ds.map some ++ List.replicate (N - ds.length) none) st with
  | some (.nx _, st') => some (.ok (gcD st .non st').1, (gcD st .non st').2)
  | some (.rt d, st') => some (.ok (gcD st d st').1, (gcD st d st').2)
  | some (.er _ x, st') => some (.error x, gcE st x st')
  | _ => none

theorem RS.low (s0 : RS T K ρ H st) (s : RS T K ρ' H' st') (ev : Evo ρ H ρ' H') (g : gcOk st st') : RS T K ρ H' { st' with l := st'.l.take st.l.length } := by
  obtain ⟨⟨t, hl, ht⟩, hm, _⟩ := id ev
  have hlen : ρ.l.length ≤ st'.l.length := by
    rw [← s.len, hl, List.length_append]
    exact Nat.le_add_right _ _
  refine ⟨?_, s0.nd, fun n a ds h1 h2 => ?_, ?_, fun a ha hz => s0.old a ha (ev.dm a hz)⟩
  · show ρ.l.length = (st'.l.take st.l.length).length
    rw [List.length_take, ← s0.len]
    omega
  · have hn : n < ρ.l.length := (List.getElem?_eq_some_iff.mp h1).1
    have h2' : (st'.l.take st.l.length)[n]? = some ds := h2
    rw [List.getElem?_take_of_lt (by rw [← s0.len]; exact hn)] at h2'
    obtain ⟨vs, g1, g2⟩ := s.ent n a ds (ev.at h1) h2'
    refine ⟨vs, g1, g2.low hl hm ?_⟩
    rcases g.1 n (by rw [← s0.len]; exact hn) with q | ⟨c, q1, q2⟩
    · rw [h2'] at q
      obtain ⟨ws, _, g4⟩ := s0.ent n a ds h1 q.symm
      exact g4.clo
    · rw [h2'] at q1
      cases q1
      rw [s0.len]
      exact q2
  · have m := s.me
    rw [hm] at m
    show MeOk T K ρ H' ρ.me.cur st'.me
    cases e1 : ρ.me.cur with
    | none =>
      rw [e1] at m
      cases e2 : st'.me with
      | none => trivial
      | some q =>
        rw [e2] at m
        exact m.elim
    | some a =>
      rw [e1] at m
      cases e2 : st'.me with
      | none =>
        rw [e2] at m
        exact m.elim
      | some q =>
        rw [e2] at m
        obtain ⟨c, ds⟩ := q
        obtain ⟨dx, ws, m1, m2, m3⟩ := m
        refine ⟨dx, ws, m1, m2, m3.low hl hm ?_⟩
        rcases g.2 with q | ⟨c', ds', q1, q2⟩
        · have m0 := s0.me
          rw [e1, ← q, e2] at m0
          obtain ⟨_, _, _, _, m4⟩ := m0
          exact m4.clo
        · rw [e2] at q1
          cases q1
          rw [s0.len]
          exact q2
theorem Evo.low (ev : Evo ρ H ρ' H') : Evo ρ H ρ H' := ⟨⟨[], by simp, fun _ z => nomatch z⟩, rfl, ev.ob, ev.dm⟩
/-- behind a def: what the caller sees -/
theorem gcD_ok {d : D} {Q : VK} (s0 : RS T K ρ H st) (hp : ∀ v H' ρ', Evo ρ H ρ' H' → RS T K ρ' H' (gcD st d st').2 → Rp T K ρ' H' v (gcD st d st').1 → Q v H') :
    ∀ v H' ρ', Evo ρ H ρ' H' → RS T K ρ' H' st' → Rp T K ρ' H' v d → Q v H' := by
  intro v H' ρ' ev s q
  obtain ⟨⟨t, hl, ht⟩, hm, hob, hdm⟩ := id ev
  unfold gcD at hp
  split at hp
  · rename_i g
    have sl := s0.low s ev g
    split at hp
    · rename_i c
      exact hp v H' ρ ev.low sl (q.low hl hm (by rw [s0.len]; exact c))
    · rename_i c
      split at hp
      · rename_i m
        split at hp
        · rename_i cc e1
          split at hp
          · rename_i c2
            cases q with
            | @ptr a _ q =>
              obtain ⟨vs, g1, g2⟩ := s.ent m a cc q e1
              have hge : ρ.l.length ≤ m := by
                simp only [clo, decide_eq_true_eq] at c
                rw [s0.len]
                omega
              have ha : a ∈ t := by
                rw [hl, List.getElem?_append_right hge] at q
                exact List.mem_of_getElem? q
              have na : a ∉ ρ.l := fun z => by
                obtain ⟨xs, q'⟩ := s0.wf.l a z
                rw [ht a ha] at q'
                cases q'
              refine hp (.ref a) H' { ρ with l := ρ.l ++ [a] } ⟨⟨[a], rfl, fun b hb => by rw [List.mem_singleton.mp hb]; exact ht a ha⟩, rfl, hob, hdm⟩ (sl.adopt g1 na (g2.low hl hm (by rw [s0.len]; exact c2))) (.ptr ?_)
              show (ρ.l ++ [a])[st.l.length]? = some a
              rw [← s0.len, List.getElem?_append_right (Nat.le_refl _)]
              simp
          · exact hp v H' ρ' ev s q
        · exact hp v H' ρ' ev s q
      · exact hp v H' ρ' ev s q
  · exact hp v H' ρ' ev s q
theorem EW.low {t : List Addr} {x : Er} {cls : Value} {dx : Option Addr} (hl : ρ'.l = ρ.l ++ t) (hm : ρ'.me = ρ.me) (h : EW T K ρ' H x cls dx) (c : cloL ρ.l.length x.2 = true) : EW T K ρ H x cls dx := by
  obtain ⟨h1, vs, h2, h3, h4⟩ := h
  exact ⟨h1, vs, h2, h3.low hl hm c, h4⟩
theorem gcE_ok {x : Er} {E : XK} (s0 : RS T K ρ H st) (hp : ∀ cls dx H' ρ', Evo ρ H ρ' H' → RS T K ρ' H' (gcE st x st') → EW T K ρ' H' x cls dx → E cls dx H') :
    ∀ cls dx H' ρ', Evo ρ H ρ' H' → RS T K ρ' H' st' → EW T K ρ' H' x cls dx → E cls dx H' := by
  intro cls dx H' ρ' ev s q
  obtain ⟨⟨t, hl, ht⟩, hm, hob, hdm⟩ := id ev
  unfold gcE at hp
  split at hp
  · rename_i g
    exact hp cls dx H' ρ ev.low (s0.low s ev g.1) (q.low hl hm (by rw [s0.len]; exact g.2))
  · exact hp cls dx H' ρ' ev s q
theorem start_env {N : List Str} {vs : List V} {ds : List D} (h : RpSL T K ρ H vs ds) : REnv T K ρ H (L2.start N vs) (ds.map some ++ List.replicate (N.length - ds.length) none) := by
  have hl := h.length
  refine ⟨by unfold L2.start; simp [hl], fun i d q => ?_⟩
  by_cases hi : i < ds.length
  · rw [List.getElem?_append_left (by simpa using hi), List.getElem?_map] at q
    obtain ⟨d', e1, e2⟩ := Option.map_eq_some_iff.mp q
    cases e2
    obtain ⟨v, g1, g2⟩ := h.get i d e1
    refine ⟨v, ?_, g2⟩
    unfold L2.start
    rw [List.getElem?_append_left (by rw [List.length_map, hl]; exact hi), List.getElem?_map, g1]
    rfl
  · rw [List.getElem?_append_right (by simpa using Nat.le_of_not_lt hi), List.getElem?_replicate] at q
    split at q <;> cases q
end

/-! ### what the generator prints: each construct's rule and its function at once -/
def PEM (X : Cx) (W : WX) (T : Tab) (e : Expr) (f : EF) : Prop := ∃ t, PE X e t ∧ Sem T X.K W (Rp T X.K) t f
def PTM (X : Cx) (W : WX) (T : Tab) (e : Expr) (f : TF) : Prop := ∃ t, PT X e t ∧ Sem T X.K W RB t f
def PWM (X : Cx) (W : WX) (T : Tab) (e : Expr) (f : TF) : Prop := ∃ t, PW X e t ∧ Sem T X.K W RB t f
def PAM (X : Cx) (W : WX) (T : Tab) (es : List Expr) (f : AF) : Prop := ∃ t, PA X es t ∧ Sem T X.K W (RpL T X.K) t f
def PKM (X : Cx) (W : WX) (T : Tab) (es : List Keyword) (f : AF) : Prop := ∃ t, PK X es t ∧ Sem T X.K W (RpL T X.K) t f
def PIM (X : Cx) (W : WX) (T : Tab) (tg e : Expr) (f : IF) : Prop := ∃ t, PI X tg e t ∧ Sem T X.K W (RJ T X.K) t f
def POM (X : Cx) (W : WX) (T : Tab) (e : Option Expr) (f : OF) : Prop := ∃ t, PO X e t ∧ Sem T X.K W RO t f
def PSM (X : Cx) (W : WX) (T : Tab) (s : Stmt) (f : SF) : Prop := ∃ t, PS X s t ∧ SemS T X.K W t f
def PSsM (X : Cx) (W : WX) (T : Tab) (s : List Stmt) (f : SF) : Prop := ∃ t, PSs X s t ∧ SemS T X.K W t f
/-- a def of the text -/
structure FnMd (P : Program) (w : World) (K : PySem.W.Frag) (mg : Str → Option Value) (base : Heap) (T : Tab) (k : Nat) (f : Addr) (fd : FuncData) (ps : List Str) (F : FnF) : Prop where
  ok : FnOk P w K mg base (L2.CX P w) k f fd ps (spM T K F ps.length)
  b : Binds K fd ps []
  kp : PySem.W.keepIn K (.ref f) = true
theorem FnMd.m {P : Program} {w : World} {K : PySem.W.Frag} {mg : Str → Option Value} {base : Heap} {T : Tab} {k : Nat} {f : Addr} {fd : FuncData} {ps : List Str} {F : FnF} (h : FnMd P w K mg base T k f fd ps F) : FnM P w K mg base T k f F ps.length := ⟨fd, ps, rfl, h.ok, h.b⟩
theorem FnMd.mono {P : Program} {w : World} {K : PySem.W.Frag} {mg : Str → Option Value} {base : Heap} {T : Tab} {j k : Nat} {f : Addr} {fd : FuncData} {ps : List Str} {F : FnF} (h : FnMd P w K mg base T j f fd ps F) (hk : j ≤ k) : FnMd P w K mg base T k f fd ps F := ⟨h.ok.mono hk, h.b, h.kp⟩
abbrev WD (E : XK) : WX := fun c d _ H => E c d H
/-- THE RULE for a def -/
theorem okM {P : Program} {w : World} {K : PySem.W.Frag} {mg : Str → Option Value} {base : Heap} {T : Tab} {x qual : Str} {params : Arguments} {body : List Stmt} {scope : Scope} {dvs : List V} {kws : List (Str × V)} {f : Addr} {fd : FuncData} {N ps : List Str} {k : Nat} (b : SF)
    (F : FunD K x qual params body scope dvs kws f fd) (S : FnScope N ps scope) (hb : Binds K fd ps [])
    (hbody : ∀ (cdv : Value) (A : Around) (outer : List PySem.Env) (s : Shared) (H : Hp) (E : XK), Ctx (cxOf (L2.CX P w) P w K mg base N qual scope f cdv A outer s H E) (WD E) k →
      PSsM (cxOf (L2.CX P w) P w K mg base N qual scope f cdv A outer s H E) (WD E) T body b) : FnMd P w K mg base T (k + 1) f fd ps (fnRun N.length b) := by
  refine ⟨F.ok S (fun vs H Q E h => ?_) (fun cdv A outer s H vs Q E hr h => ?_), hb, F.kp⟩
  · obtain ⟨ρ, ds, st, r, st', hl, s, rp, _⟩ := h
    rw [rp.length, hl]
  · have C : Ctx (cxOf (L2.CX P w) P w K mg base N qual scope f cdv A outer s H E) (WD E) k := ⟨takes_of rfl rfl rfl rfl, passes_of rfl, rfl, S.nd, hr⟩
    obtain ⟨t, pt, semt⟩ := hbody cdv A outer s H E C
    obtain ⟨ρ, ds, st, r, st', hl, rs, rp, hF, hp⟩ := h
    refine ⟨t, pt, ?_⟩
    unfold fnRun at hF
    cases e1 : b (ds.map some ++ List.replicate (N.length - ds.length) none) st with
    | none =>
      rw [e1] at hF
      cases hF
    | some p =>
      obtain ⟨r1, st1⟩ := p
      rw [e1] at hF
      refine semt ρ (L2.start N vs) H _ _ st r1 st1 rs (start_env rp) e1 ?_
      cases r1 with
      | nx e' =>
        cases hF
        exact fun σ' H' ρ' ev s' _ => gcD_ok rs hp .non H' ρ' ev s' .non
      | rt d =>
        cases hF
        exact gcD_ok rs hp
      | er e' x =>
        cases hF
        exact fun σ' cls dx H' ρ' ev s' _ q => gcE_ok rs hp cls dx H' ρ' ev s' q
      | bk e' => cases hF
      | ct e' => cases hF

/-! ### calls of the text's defs -/
section
variable {X : Cx} {T : Tab} {W : WX} {ρ ρ' ρ1 : Rho} {H H' H1 : Hp} {st st' st1 : Sto} {σ : L2.St} {e : Env} {k : Nat}
/-- so many arguments -/
def gCall (n : Nat) (F : FnF) : GA := fun ds st => if ds.length = n then F ds st else none
theorem sem_call {F : FnF} {n : Nat} {K : PySem.W.Frag} {ta : TA} {fa : AF} (h1 : Sem T K W (RpL T K) ta fa) : Sem T K W (Rp T K) (tCallS (spM T K F n) (WE W) ta) (fCB (gCall n F) fa) := by
  intro ρ σ H Q e st res st' s en h hp
  refine h1.bind s en h hp fun vs ds ρ1 H1 st1 ev s1 en1 q1 h' hp1 => ?_
  unfold gCall at h'
  split at h'
  · rename_i hl
    exact ⟨ρ1, ds, st1, res, st', hl, s1, q1.toS, h', hp1⟩
  · cases h'
theorem m_call {f : Addr} {fd : FuncData} {ps : List Str} {F : FnF} {x : Str} {p pos : Pos} {ex : Expr} {es : List Expr} {fa : AF} (C : Ctx X W k) (FM : FnMd X.prog X.w X.K X.mg X.base T k f fd ps F) (hm : X.mg x = some (.ref f)) (ha : PAM X W T (ex :: es) fa) (hg : Gl X x := by rfl)
    (hdb : (x == ("__debug__" : Str)) = false := by decide) (he : starEach (ex :: es) X.env = (false, eval ex X.env) :: starEach es X.env := by rfl) (hpl : (backTo pos (starEach es X.env)).any (·.1) = false := by rfl) :
    PEM X W T (.Call (.Name x p) (ex :: es) [] pos) (fCB (gCall ps.length F) fa) := by
  obtain ⟨t, h1, h2⟩ := ha
  exact ⟨_, pe_callS FM.ok C.room hg hm FM.kp FM.b (fun σ => passAt C.tk σ) h1 hdb he hpl, sem_call h2⟩
end
end Vm
/-! Vm8: each construct's rule with its function. -/
namespace Vm
open PySem PySem.Spec PyProof.Rows L2
/-- the widest reading of a function -/
def can {α β : Type} (T : Tab) (K : PySem.W.Frag) (W : WX) (R : Rho → Hp → β → α → Prop) (f : Env → M α) : L2.St → Hp → (β → Hp → Prop) → Prop := fun σ H Q =>
  ∃ (ρ : Rho) (e : Env) (st : Sto) (r : Except Er α) (st' : Sto), RS T K ρ H st ∧ REnv T K ρ H σ e ∧ f e st = some (r, st') ∧ Pst T K W σ ρ H R r st' Q
theorem sem_can {α β : Type} {T : Tab} {K : PySem.W.Frag} {W : WX} {R : Rho → Hp → β → α → Prop} {f : Env → M α} : Sem T K W R (can T K W R f) f := fun ρ σ H Q e st r st' s en h hp => ⟨ρ, e, st, r, st', s, en, h, hp⟩
def canT (T : Tab) (K : PySem.W.Frag) (gf : GF) (is : List Nat) : TG := fun v σ H Q => ∃ (ρ : Rho) (d : D) (e e' : Env), (∃ st, RS T K ρ H st) ∧ Rp T K ρ H v d ∧ REnv T K ρ H σ e ∧ gf d e = some e' ∧
  ∀ σ', REnv T K ρ H σ' e' → (∀ vs, (∀ i ∈ is, i ∈ vs) → wipe σ' vs = wipe σ vs) → Q σ' H
theorem semT_can {T : Tab} {K : PySem.W.Frag} {gf : GF} {is : List Nat} : SemT T K (canT T K gf is) gf is := fun ρ H v d σ e e' Q s q en h hq => ⟨ρ, d, e, e', s, q, en, h, hq⟩
def PGM (X : Cx) (T : Tab) (tg : Expr) (gf : GF) (is : List Nat) : Prop := ∃ g, PG X tg g ∧ SemT T X.K g gf is
def PGsM (X : Cx) (T : Tab) (tgs : List Expr) (gf : GsF) (is : List Nat) : Prop := ∃ g, PGs X tgs g ∧ SemTs T X.K g gf is
section
variable {X : Cx} {T : Tab} {W : WX} {k : Nat} {e a b c : Expr} {f g h : EF} {pos p : Pos} {es : List Expr} {fa : AF} {tf tg : TF}
theorem PEM.can (m : PEM X W T e f) : PE X e (Vm.can T X.K W (Rp T X.K) f) := by
  obtain ⟨t, h1, h2⟩ := m
  exact ⟨fun pins s σ H Q I hh => let ⟨ρ, en, st, r, st', x1, x2, x3, x4⟩ := hh; h1.run pins s σ H Q I (h2 ρ σ H Q en st r st' x1 x2 x3 x4)⟩
theorem PTM.can (m : PTM X W T e tf) : PT X e (Vm.can T X.K W RB tf) := by
  obtain ⟨t, h1, h2⟩ := m
  exact ⟨fun pins s σ H Q I hh => let ⟨ρ, en, st, r, st', x1, x2, x3, x4⟩ := hh; h1.run pins s σ H Q I (h2 ρ σ H Q en st r st' x1 x2 x3 x4)⟩
theorem PGM.can {gf : GF} {is : List Nat} (m : PGM X T e gf is) : PG X e (canT T X.K gf is) := by
  obtain ⟨t, h1, h2⟩ := m
  exact ⟨fun pins s σ H v u Q I r hh => let ⟨ρ, d, en, en', x1, x2, x3, x4, x5⟩ := hh; h1.run pins s σ H v u Q I r (h2 ρ H v d σ en en' Q x1 x2 x3 x4 x5)⟩

/-! ### names, constants, displays -/
theorem m_var (i : Nat) {x : Str} (hN : X.N[i]? = some x := by rfl) (hv : Vis X.env.scope x := by first | exact Or.inl rfl | exact Or.inr (Or.inl rfl) | exact Or.inr (Or.inr rfl)) (hd : (x == ("__debug__" : Str)) = false := by decide)
    (hcd : (x == ("__classdict__" : Str)) = false := by decide) : PEM X W T (.Name x pos) (fVar i) := ⟨_, pe_var hN hv hd hcd, sem_var i⟩
theorem m_int {i j} : PEM X W T (.Constant (.int i) j pos) (fC (.int i)) := ⟨_, pe_int, sem_int i⟩
theorem m_str {x j} : PEM X W T (.Constant (.str x) j pos) (fC (.str x)) := ⟨_, pe_str, sem_str x⟩
theorem m_bl {x j} : PEM X W T (.Constant (.bool x) j pos) (fC (.bl x)) := ⟨_, pe_bl, sem_bl x⟩
theorem m_non {j} : PEM X W T (.Constant .none j pos) (fC .non) := ⟨_, pe_non, sem_non⟩
theorem ma_nil : PAM X W T [] fNil := ⟨_, pa_nil, sem_nil⟩
theorem ma_cons (ha : PEM X W T e f) (hr : PAM X W T es fa) (hs : starEach (e :: es) X.env = (false, eval e X.env) :: starEach es X.env := by rfl) : PAM X W T (e :: es) (fCons f fa) := by
  obtain ⟨t, h1, h2⟩ := ha
  obtain ⟨u, h3, h4⟩ := hr
  exact ⟨_, pa_cons h1 h3 hs, sem_cons h2 h4⟩
theorem mk_nil : PKM X W T [] fNil := ⟨_, pk_nil, sem_nil⟩
theorem mk_cons {nm : Option Str} {kws : List Keyword} {kp : Pos} (ha : PEM X W T e f) (hr : PKM X W T kws fa) : PKM X W T (⟨nm, e, kp⟩ :: kws) (fCons f fa) := by
  obtain ⟨t, h1, h2⟩ := ha
  obtain ⟨u, h3, h4⟩ := hr
  exact ⟨_, pk_cons h1 h3, sem_cons h2 h4⟩
theorem m_tup {x1} (ha : PAM X W T es fa) : PEM X W T (.Tuple es x1 pos) (fTup fa) := by
  obtain ⟨t, h1, h2⟩ := ha
  exact ⟨_, pe_tup h1, sem_tup h2⟩
theorem m_lst (ha : PAM X W T es fa) : PEM X W T (.List es pos) (fLst fa) := by
  obtain ⟨t, h1, h2⟩ := ha
  exact ⟨_, pe_lst h1, sem_lst h2⟩

/-! ### operators -/
theorem m_bin {op : Operator} {r : R2} {gg : G2} (ho : OpR X (binaryOp op) r) (hs : OpS T X.K W r gg) (ha : PEM X W T a f) (hb : PEM X W T b g) : PEM X W T (.BinOp a op b pos) (fOp gg f g) := by
  obtain ⟨t, h1, h2⟩ := ha
  obtain ⟨u, h3, h4⟩ := hb
  exact ⟨_, pe_op ho h1 h3, sem_op hs h2 h4⟩
theorem m_add (ha : PEM X W T a f) (hb : PEM X W T b g) : PEM X W T (.BinOp a .Add b pos) (fOp gAdd f g) := m_bin op_addA ops_add ha hb
theorem m_sub (ha : PEM X W T a f) (hb : PEM X W T b g) : PEM X W T (.BinOp a .Sub b pos) (fOp gMinus f g) := m_bin op_sub ops_sub ha hb
theorem m_mul (ha : PEM X W T a f) (hb : PEM X W T b g) : PEM X W T (.BinOp a .Mult b pos) (fOp gMul f g) := m_bin op_mulA ops_mul ha hb
theorem m_div (ha : PEM X W T a f) (hb : PEM X W T b g) : PEM X W T (.BinOp a .FloorDiv b pos) (fOp gDiv f g) := m_bin op_fdivW ops_div ha hb
theorem m_mod (ha : PEM X W T a f) (hb : PEM X W T b g) : PEM X W T (.BinOp a .Mod b pos) (fOp gMod f g) := m_bin op_mod ops_mod ha hb
theorem m_pow (ha : PEM X W T a f) (hb : PEM X W T b g) : PEM X W T (.BinOp a .Pow b pos) (fOp gPow f g) := m_bin op_pow ops_pow ha hb

/-! ### comparisons -/
structure CmpM (X : Cx) (W : WX) (T : Tab) (op : CmpOp) (gg : G2) : Prop where
  ex : ∃ r, OpR X (compareOp op) r ∧ OpS T X.K W r gg
theorem c_lt : CmpM X W T .Lt (gCmp fun i j => decide (i < j)) := ⟨_, op_lt, ops_cmp⟩
theorem c_le : CmpM X W T .LtE (gCmp fun i j => decide (i ≤ j)) := ⟨_, op_le, ops_cmp⟩
theorem c_gt : CmpM X W T .Gt (gCmp fun i j => decide (j < i)) := ⟨_, op_gt, ops_cmp⟩
theorem c_ge : CmpM X W T .GtE (gCmp fun i j => decide (j ≤ i)) := ⟨_, op_ge, ops_cmp⟩
theorem c_eq {et : EqT} (C : Ctx X W (k + 1)) (TK : TabOk T X.K) (EO : EqOk X.prog X.w X.K X.mg X.base T k et) : CmpM X W T .Eq (gEq T et false) := ⟨_, op_eqA C TK, ops_eqA TK EO⟩
theorem c_ne {et : EqT} (C : Ctx X W (k + 1)) (TK : TabOk T X.K) (EO : EqOk X.prog X.w X.K X.mg X.base T k et) : CmpM X W T .NotEq (gEq T et true) := ⟨_, op_neA C TK, ops_eqA TK EO⟩
theorem c_in (C : Ctx X W k) : CmpM X W T .In (gIn false) := ⟨_, op_inA C, ops_in⟩
theorem c_nin (C : Ctx X W k) : CmpM X W T .NotIn (gIn true) := ⟨_, op_ninA C, ops_in⟩
theorem m_cmp {op : CmpOp} {gg : G2} (cm : CmpM X W T op gg) (ha : PEM X W T a f) (hb : PEM X W T b g) (hm : behindInMarks op b = false := by first | exact nomark _ | rfl) : PEM X W T (.Compare a [op] [b] pos) (fOp gg f g) := by
  obtain ⟨t, h1, h2⟩ := ha
  obtain ⟨u, h3, h4⟩ := hb
  obtain ⟨r, h5, h6⟩ := cm.ex
  exact ⟨_, pe_cmpR h5 h1 h3 hm, sem_op h6 h2 h4⟩
theorem mt_cmp {op : CmpOp} {gg : G2} (cm : CmpM X W T op gg) (ha : PEM X W T a f) (hb : PEM X W T b g) (hm : behindInMarks op b = false := by first | exact nomark _ | rfl) : PTM X W T (.Compare a [op] [b] pos) (fB (fOp gg f g)) := by
  obtain ⟨t, h1, h2⟩ := ha
  obtain ⟨u, h3, h4⟩ := hb
  obtain ⟨r, h5, h6⟩ := cm.ex
  exact ⟨_, pt_cmpR h5 h1 h3 hm, sem_test (sem_op h6 h2 h4)⟩
theorem m_isN {j pos'} (ha : PEM X W T a f) : PEM X W T (.Compare a [.Is] [.Constant .none j pos'] pos) (fIsN false f) := by
  obtain ⟨t, h1, h2⟩ := ha
  exact ⟨_, pe_cmp (pc_isN h1), sem_isN h2⟩
theorem m_notN {j pos'} (ha : PEM X W T a f) : PEM X W T (.Compare a [.IsNot] [.Constant .none j pos'] pos) (fIsN true f) := by
  obtain ⟨t, h1, h2⟩ := ha
  exact ⟨_, pe_cmp (pc_notN h1), sem_notN h2⟩
theorem mt_isN {j pos'} (ha : PEM X W T a f) : PTM X W T (.Compare a [.Is] [.Constant .none j pos'] pos) (fB (fIsN false f)) := by
  obtain ⟨t, h1, h2⟩ := ha
  exact ⟨_, pt_cmp (pc_isN h1), sem_tB (sem_isN h2)⟩
theorem mt_notN {j pos'} (ha : PEM X W T a f) : PTM X W T (.Compare a [.IsNot] [.Constant .none j pos'] pos) (fB (fIsN true f)) := by
  obtain ⟨t, h1, h2⟩ := ha
  exact ⟨_, pt_cmp (pc_notN h1), sem_tB (sem_notN h2)⟩

/-! ### tests -/
theorem mt_val (ha : PEM X W T e f) (he : ∀ whole, isTrue e X.env whole = (do let v ← whole; standAt e.pos; holding [v] (truthy v)) := by intro _; rfl) : PTM X W T e (fB f) := by
  obtain ⟨t, h1, h2⟩ := ha
  exact ⟨_, pt_val h1 he, sem_tB h2⟩
theorem mw_and1 (ha : PTM X W T a tf) : PWM X W T (.BoolOp .And [a] pos) tf := by
  obtain ⟨t, h1, h2⟩ := ha
  exact ⟨_, pw_and1 h1, h2⟩
theorem mw_or1 (ha : PTM X W T a tf) : PWM X W T (.BoolOp .Or [a] pos) tf := by
  obtain ⟨t, h1, h2⟩ := ha
  exact ⟨_, pw_or1 h1, h2⟩
theorem mw_and (ha : PTM X W T a tf) (hb : PWM X W T (.BoolOp .And (b :: es) pos) tg) : PWM X W T (.BoolOp .And (a :: b :: es) pos) (fAnd tf tg) := by
  obtain ⟨t, h1, h2⟩ := ha
  obtain ⟨u, h3, h4⟩ := hb
  exact ⟨_, pw_and h1 h3, sem_and h2 h4⟩
theorem mw_or (ha : PTM X W T a tf) (hb : PWM X W T (.BoolOp .Or (b :: es) pos) tg) : PWM X W T (.BoolOp .Or (a :: b :: es) pos) (fOr tf tg) := by
  obtain ⟨t, h1, h2⟩ := ha
  obtain ⟨u, h3, h4⟩ := hb
  exact ⟨_, pw_or h1 h3, sem_or h2 h4⟩
theorem PWM.t (ha : PWM X W T a tf) : PTM X W T a tf := by
  obtain ⟨t, h1, h2⟩ := ha
  exact ⟨_, h1.pt, h2⟩
theorem mt_not (ha : PTM X W T a tf) : PTM X W T (.UnaryOp .Not a pos) (fNot tf) := by
  obtain ⟨t, h1, h2⟩ := ha
  exact ⟨_, pt_not h1, sem_not h2⟩
theorem m_one {op} (ha : PEM X W T a f) : PEM X W T (.BoolOp op [a] pos) f := by
  obtain ⟨t, h1, h2⟩ := ha
  exact ⟨_, pe_one h1, h2⟩
theorem m_and (ha : PEM X W T a f) (hb : PEM X W T (.BoolOp .And (b :: es) pos) g) : PEM X W T (.BoolOp .And (a :: b :: es) pos) (fAndV f g) := by
  obtain ⟨t, h1, h2⟩ := ha
  obtain ⟨u, h3, h4⟩ := hb
  exact ⟨_, pe_and h1 h3, sem_andV h2 h4⟩
theorem m_or (ha : PEM X W T a f) (hb : PEM X W T (.BoolOp .Or (b :: es) pos) g) : PEM X W T (.BoolOp .Or (a :: b :: es) pos) (fOrV f g) := by
  obtain ⟨t, h1, h2⟩ := ha
  obtain ⟨u, h3, h4⟩ := hb
  exact ⟨_, pe_or h1 h3, sem_orV h2 h4⟩
theorem m_not (ha : PEM X W T a f) : PEM X W T (.UnaryOp .Not a pos) (fNotV f) := by
  obtain ⟨t, h1, h2⟩ := ha
  exact ⟨_, pe_not h1, sem_notV h2⟩
theorem m_if (hc : PTM X W T c tf) (ha : PEM X W T a f) (hb : PEM X W T b g) : PEM X W T (.IfExp c a b pos) (fIf tf f g) := by
  obtain ⟨t, h1, h2⟩ := hc
  obtain ⟨u, h3, h4⟩ := ha
  obtain ⟨v, h5, h6⟩ := hb
  exact ⟨_, pe_ifExp h1 h3 h5, sem_ifE h2 h4 h6⟩

/-! ### subscripts, attributes -/
theorem m_ix (ha : PEM X W T a f) (hb : PEM X W T b g) (hs : PlainIx b := by exact fun _ _ => rfl) : PEM X W T (.Subscript a b pos) (fOp gIx f g) := by
  obtain ⟨t, h1, h2⟩ := ha
  obtain ⟨u, h3, h4⟩ := hb
  exact ⟨_, pe_ix ix_A h1 h3 hs, sem_op ops_ix h2 h4⟩
theorem mo_none : POM X W T none fNoP := ⟨_, po_none, sem_noP⟩
theorem mo_some (ha : PEM X W T e f) : POM X W T (some e) (fPart f) := by
  obtain ⟨t, h1, h2⟩ := ha
  exact ⟨_, po_some h1, sem_part h2⟩
theorem m_sl {lo hi : Option Expr} {p2 : Pos} {fl fh : OF} (ha : PEM X W T e f) (hl : POM X W T lo fl) (hh : POM X W T hi fh) : PEM X W T (.Subscript e (.Slice lo hi none p2) pos) (fSl f fl fh) := by
  obtain ⟨t, h1, h2⟩ := ha
  obtain ⟨u, h3, h4⟩ := hl
  obtain ⟨v, h5, h6⟩ := hh
  exact ⟨_, pe_slice sl_A h1 h3 h5, sem_sl h2 h4 h6⟩
theorem m_fld {n : Str} (TK : TabOk T X.K) (FO : FldOk T X.K n) (ha : PEM X W T e f) (hb : attributeBase e n X.env (eval e X.env) = eval e X.env := by rfl) : PEM X W T (.Attribute e n pos) (fFld T n f) := by
  obtain ⟨t, h1, h2⟩ := ha
  exact ⟨_, pe_fldA h1 hb, sem_fld TK FO h2⟩

/-! ### built-ins -/
theorem m_cb {id : String} {x : Str} {r : List V → Hp → VK → Prop} {gg : GA} (hc : CallR X (.builtin id) r) (hs : CallS T X.K W r gg) (hm : X.mg x = none) (ha : PAM X W T (e :: es) fa) (hv : bootBuiltins x = some (.builtin id)) (hg : Gl X x := by rfl) (hn : x ≠ "__name__" := by decide) (hdb : (x == ("__debug__" : Str)) = false := by decide)
    (he : starEach (e :: es) X.env = (false, eval e X.env) :: starEach es X.env := by rfl) (hpl : (backTo pos (starEach es X.env)).any (·.1) = false := by rfl) : PEM X W T (.Call (.Name x p) (e :: es) [] pos) (fCB gg fa) := by
  obtain ⟨t, h1, h2⟩ := ha
  exact ⟨_, pe_callB hc hg hm hv h1 hn hdb he hpl, sem_cb hs h2⟩
theorem m_cty {id : String} {x : Str} {r : List V → Hp → VK → Prop} {gg : GA} (hc : CallR X (.type id) r) (hs : CallS T X.K W r gg) (hm : X.mg x = none) (ha : PAM X W T (e :: es) fa) (hv : bootBuiltins x = some (.type id)) (hg : Gl X x := by rfl) (hn : x ≠ "__name__" := by decide) (hdb : (x == ("__debug__" : Str)) = false := by decide)
    (he : starEach (e :: es) X.env = (false, eval e X.env) :: starEach es X.env := by rfl) (hpl : (backTo pos (starEach es X.env)).any (·.1) = false := by rfl) : PEM X W T (.Call (.Name x p) (e :: es) [] pos) (fCB gg fa) := by
  obtain ⟨t, h1, h2⟩ := ha
  exact ⟨_, pe_callTy hc hg hm hv h1 hn hdb he hpl, sem_cb hs h2⟩
theorem m_len (hm : X.mg "len" = none) (ha : PAM X W T (e :: es) fa) (hg : Gl X "len" := by rfl) (he : starEach (e :: es) X.env = (false, eval e X.env) :: starEach es X.env := by rfl) (hpl : (backTo pos (starEach es X.env)).any (·.1) = false := by rfl) : PEM X W T (.Call (.Name "len" p) (e :: es) [] pos) (fCB gLen fa) := m_cb call_len cs_len hm ha (by decide +kernel) hg (by decide) (by decide) he hpl
theorem m_abs (hm : X.mg "abs" = none) (ha : PAM X W T (e :: es) fa) (hg : Gl X "abs" := by rfl) (he : starEach (e :: es) X.env = (false, eval e X.env) :: starEach es X.env := by rfl) (hpl : (backTo pos (starEach es X.env)).any (·.1) = false := by rfl) : PEM X W T (.Call (.Name "abs" p) (e :: es) [] pos) (fCB gAbs fa) := m_cb call_abs cs_abs hm ha (by decide +kernel) hg (by decide) (by decide) he hpl
theorem m_cint (hm : X.mg "int" = none) (ha : PAM X W T (e :: es) fa) (hg : Gl X "int" := by rfl) (he : starEach (e :: es) X.env = (false, eval e X.env) :: starEach es X.env := by rfl) (hpl : (backTo pos (starEach es X.env)).any (·.1) = false := by rfl) : PEM X W T (.Call (.Name "int" p) (e :: es) [] pos) (fCB gInt fa) := m_cty call_int1 cs_int hm ha (by decide +kernel) hg (by decide) (by decide) he hpl
theorem m_cstr (hm : X.mg "str" = none) (ha : PAM X W T (e :: es) fa) (hg : Gl X "str" := by rfl) (he : starEach (e :: es) X.env = (false, eval e X.env) :: starEach es X.env := by rfl) (hpl : (backTo pos (starEach es X.env)).any (·.1) = false := by rfl) : PEM X W T (.Call (.Name "str" p) (e :: es) [] pos) (fCB gStr fa) := m_cty call_str_int cs_str hm ha (by decide +kernel) hg (by decide) (by decide) he hpl
theorem m_clist (hm : X.mg "list" = none) (ha : PAM X W T (e :: es) fa) (hg : Gl X "list" := by rfl) (he : starEach (e :: es) X.env = (false, eval e X.env) :: starEach es X.env := by rfl) (hpl : (backTo pos (starEach es X.env)).any (·.1) = false := by rfl) : PEM X W T (.Call (.Name "list" p) (e :: es) [] pos) (fCB gList fa) := m_cty call_list_of cs_list hm ha (by decide +kernel) hg (by decide) (by decide) he hpl
theorem m_ctup (hm : X.mg "tuple" = none) (ha : PAM X W T (e :: es) fa) (hg : Gl X "tuple" := by rfl) (he : starEach (e :: es) X.env = (false, eval e X.env) :: starEach es X.env := by rfl) (hpl : (backTo pos (starEach es X.env)).any (·.1) = false := by rfl) : PEM X W T (.Call (.Name "tuple" p) (e :: es) [] pos) (fCB gTuple fa) := m_cty call_tuple_of cs_tuple hm ha (by decide +kernel) hg (by decide) (by decide) he hpl
/-- isinstance(x, C), C a class of the text -/
theorem m_isiO {x : Str} {p2 : Pos} {cc : Nat} (TK : TabOk T X.K) (hm : X.mg "isinstance" = none) (hx : X.mg x = some (.ref (T.adr cc))) (ha : PEM X W T e f) (hg : Gl X "isinstance" := by rfl) (hgx : Gl X x := by rfl) (hdx : (x == ("__debug__" : Str)) = false := by decide)
    (hs : starEach [e, .Name x p2] X.env = (false, eval e X.env) :: starEach [.Name x p2] X.env := by rfl) (hs2 : starEach [.Name x p2] X.env = (false, eval (.Name x p2) X.env) :: starEach [] X.env := by rfl)
    (hpl : (backTo pos (starEach [.Name x p2] X.env)).any (·.1) = false := by rfl) : PEM X W T (.Call (.Name "isinstance" p) [e, .Name x p2] [] pos) (fIsD T (.own cc) f) := by
  obtain ⟨t, h1, h2⟩ := ha
  have pc : PE X (.Name x p2) (tC (.ref (T.adr cc))) := ⟨fun pins s σ H Q I h => ld_glob I hgx hx ⟨.ref _, H, I, rfl, h⟩ hdx⟩
  exact ⟨_, pe_callB (call_isD TK) hg hm (by decide +kernel) (pa_cons h1 (pa_cons pc pa_nil hs2) hs) (by decide) (by decide) hs hpl, sem_isD h2 rfl fun u r => r⟩
/-- isinstance(x, T), T a built-in class -/
theorem m_isiB {x : Str} {id : String} {p2 : Pos} (TK : TabOk T X.K) (hm : X.mg "isinstance" = none) (hx : X.mg x = none) (hv : bootBuiltins x = some (.type id)) (ha : PEM X W T e f) (hg : Gl X "isinstance" := by rfl) (hgx : Gl X x := by rfl) (hn : x ≠ "__name__" := by decide) (hdx : (x == ("__debug__" : Str)) = false := by decide)
    (hs : starEach [e, .Name x p2] X.env = (false, eval e X.env) :: starEach [.Name x p2] X.env := by rfl) (hs2 : starEach [.Name x p2] X.env = (false, eval (.Name x p2) X.env) :: starEach [] X.env := by rfl)
    (hpl : (backTo pos (starEach [.Name x p2] X.env)).any (·.1) = false := by rfl) : PEM X W T (.Call (.Name "isinstance" p) [e, .Name x p2] [] pos) (fIsD T (.ty id) f) := by
  obtain ⟨t, h1, h2⟩ := ha
  have pc : PE X (.Name x p2) (tC (.ty id)) := ⟨fun pins s σ H Q I h => ld_blt I hgx hx hv ⟨.ty id, H, I, rfl, h⟩ hn hdx⟩
  exact ⟨_, pe_callB (call_isD TK) hg hm (by decide +kernel) (pa_cons h1 (pa_cons pc pa_nil hs2) hs) (by decide) (by decide) hs hpl, sem_isD h2 rfl fun u r => r⟩
theorem m_app {apos : Pos} (ha : PEM X W T a f) (hb : PEM X W T b g) (hbase : attributeBase a "append" X.env (eval a X.env) = eval a X.env := by rfl)
    (hfew : ((backTo pos (starEach [b] X.env)).all (fun x => !x.1) && (backToKw pos (keywordEach [] X.env)).all (fun x => x.1.isSome) && decide ([b].length + ([] : List Keyword).length + (if ([] : List Keyword).isEmpty then 0 else 1) < 30)) = true := by rfl)
    (hline : (apos.endLine == pos.line) = true := by rfl) (hs : starEach [b] X.env = (false, eval b X.env) :: starEach [] X.env := by rfl) (hpl : (backTo pos (starEach [] X.env)).any (·.1) = false := by rfl) :
    PEM X W T (.Call (.Attribute a "append" apos) [b] [] pos) (fApp f g) := by
  obtain ⟨t, h1, h2⟩ := ha
  obtain ⟨u, h3, h4⟩ := hb
  exact ⟨_, pe_bm PySem.F.plainAttrs_list PySem.F.slot_list_append PySem.F.type_list_append mt_append h1 (pa_cons h3 pa_nil hs) hbase hfew hline hs hpl, sem_app h2 h4⟩
theorem m_join {apos : Pos} (ha : PEM X W T a f) (hb : PEM X W T b g) (hs : starEach [b] X.env = [(false, eval b X.env)] := by rfl) (hbase : attributeBase a "join" X.env (eval a X.env) = eval a X.env := by rfl) (hline : (apos.endLine == pos.line) = true := by rfl) :
    PEM X W T (.Call (.Attribute a "join" apos) [b] [] pos) (fJoin f g) := by
  obtain ⟨t, h1, h2⟩ := ha
  obtain ⟨u, h3, h4⟩ := hb
  exact ⟨_, pe_join h1 h3 hs hbase hline, sem_join h2 h4⟩

/-! ### walks -/
theorem mi_seq {tge : Expr} (ha : PEM X W T e f) : PIM X W T tge e (fSeq f) := by
  obtain ⟨t, h1, h2⟩ := ha
  exact ⟨_, pi_seq h1, sem_seq h2⟩
theorem mi_rng1 {tge : Expr} (hm : X.mg "range" = none) (ha : PAM X W T [a] fa) (hg : Gl X "range" := by rfl) (hs : starEach [a] X.env = [(false, eval a X.env)] := by rfl) : PIM X W T tge (.Call (.Name "range" p) [a] [] pos) (fRng1 fa) := by
  obtain ⟨t, h1, h2⟩ := ha
  exact ⟨_, pi_range1 hg hm h1 hs, sem_rng1 h2⟩
theorem mi_rng2 {tge : Expr} (hm : X.mg "range" = none) (ha : PAM X W T [a, b] fa) (hg : Gl X "range" := by rfl) (hs : starEach [a, b] X.env = [(false, eval a X.env), (false, eval b X.env)] := by rfl) (hs2 : starEach [b] X.env = [(false, eval b X.env)] := by rfl) : PIM X W T tge (.Call (.Name "range" p) [a, b] [] pos) (fRng2 fa) := by
  obtain ⟨t, h1, h2⟩ := ha
  exact ⟨_, pi_range2 hg hm h1 hs hs2, sem_rng2 h2⟩
theorem mi_enum {elts : List Expr} {kk : Nat} {tpos : Pos} (hm : X.mg "enumerate" = none) (ha : PAM X W T [e] fa) (hg : Gl X "enumerate" := by rfl) (hs : starEach [e] X.env = [(false, eval e X.env)] := by rfl) : PIM X W T (.Tuple elts kk tpos) (.Call (.Name "enumerate" p) [e] [] pos) (fEnum fa) := by
  obtain ⟨t, h1, h2⟩ := ha
  exact ⟨_, pi_enum hg hm h1 hs, sem_enum h2⟩

/-! ### targets -/
theorem mg_name (i : Nat) {x : Str} (hN : X.N.Nodup) (hi : X.N[i]? = some x := by rfl) (hx : Loc X.env.scope x := by first | exact Or.inl rfl | exact Or.inr rfl) (hf : X.fn x = true ∨ X.env.scope.names.lookup x = some .local := by first | exact .inl rfl | exact .inr rfl) : PGM X T (.Name x pos) (gN i) [i] := ⟨_, pg_name hN hi hx hf, st_name i⟩
theorem mgs_nil : PGsM X T [] gsN [] := ⟨_, pgs_nil, sts_nil⟩
theorem mgs_cons {gf : GF} {gr : GsF} {is js : List Nat} (h1 : PGM X T e gf is) (h2 : PGsM X T es gr js) (hs : (assignEach (e :: es) X.env).map (·.2) = assign e X.env :: (assignEach es X.env).map (·.2) := by rfl) : PGsM X T (e :: es) (gsC gf gr) (is ++ js) := by
  obtain ⟨t, a1, a2⟩ := h1
  obtain ⟨u, b1, b2⟩ := h2
  exact ⟨_, pgs_cons a1 b1 hs, sts_cons a2 b2⟩
theorem mg_tup {gr : GsF} {is : List Nat} {kk : Nat} (n : Nat) (hc : X.calm = true) (h : PGsM X T es gr is) (hn : (assignEach es X.env).length = n := by rfl) (hst : (assignEach es X.env).findIdx? (·.1) = none := by rfl) : PGM X T (.Tuple es kk pos) (gT gr n) is := by
  obtain ⟨t, a1, a2⟩ := h
  exact ⟨_, pg_tup hc a1 hn hst, st_tup a2⟩

/-! ### comprehensions -/
theorem Ctx.blk (C : Ctx X W k) (s : Shared) (H : Hp) (scope : Scope) (cenv : PySem.Env) (fp : List Addr) : Ctx (X.blk s H scope cenv fp) W0 k := ⟨takes0, PassesOwn.never, C.calm, C.nd, C.room⟩
def PTsM (X : Cx) (W : WX) (T : Tab) (es : List Expr) (f : TF) : Prop := ∃ t, PTs X es t ∧ Sem T X.K W RB t f
def tYesF : TF := fun _ => mret true
theorem mts_nil : PTsM X W T [] tYesF := ⟨_, pts_nil, fun ρ σ H Q e st r st' s en h hp => by
  cases h
  exact hp true H ρ Evo.refl s rfl⟩
theorem mts_one (h : PTM X W T e tf) : PTsM X W T [e] tf := by
  obtain ⟨t, h1, h2⟩ := h
  exact ⟨_, pts_one h1, h2⟩
theorem PTsM.can (m : PTsM X W T es tf) : PTs X es (Vm.can T X.K W RB tf) := by
  obtain ⟨t, h1, h2⟩ := m
  exact ⟨fun pins s σ H Q I hh => let ⟨ρ, en, st, r, st', x1, x2, x3, x4⟩ := hh; h1.run pins s σ H Q I (h2 ρ σ H Q en st r st' x1 x2 x3 x4)⟩
theorem m_lc {tge iter : Expr} {ifs : List Expr} {scope : Scope} (own : List (Str × Nat)) {fi : IF} {gf : GF} {is : List Nat} (C : Ctx X W k) (hi : PIM X W T tge iter fi) (ok : blkC X.N X.env.scope scope own = true)
    (hg : ∀ (s : Shared) (H : Hp) (Ca : Addr) (cl : List (Str × Addr)) (fp : List Addr), PGM (X.blk s H scope (compEnvC scope cl Ca X.env) fp) T tge gf is) (hv : ∀ i ∈ is, i ∈ own.map (·.2))
    (ht : ∀ (s : Shared) (H : Hp) (Ca : Addr) (cl : List (Str × Addr)) (fp : List Addr), PTsM (X.blk s H scope (compEnvC scope cl Ca X.env) fp) W0 T ifs tf)
    (he : ∀ (s : Shared) (H : Hp) (Ca : Addr) (cl : List (Str × Addr)) (fp : List Addr), Ctx (X.blk s H scope (compEnvC scope cl Ca X.env) fp) W0 k → PEM (X.blk s H scope (compEnvC scope cl Ca X.env) fp) W0 T e f)
    (hs : ∀ x, foldedSetIterable iter X.env x = pure x := by intro _; rfl) :
    PEM X W T (.ListComp e [⟨tge, iter, ifs, 0⟩] scope pos) (fLc fi gf tf f (own.map (·.2))) := by
  obtain ⟨ti, i1, i2⟩ := hi
  exact ⟨_, pe_lc C.calm C.nd i1 (blkOk_by ok) (fun s H Ca cl fp => (hg s H Ca cl fp).can) (fun s H Ca cl fp => (ht s H Ca cl fp).can) (fun s H Ca cl fp => (he s H Ca cl fp (C.blk s H scope (compEnvC scope cl Ca X.env) fp)).can) hs,
    sem_lc i2 semT_can hv sem_can sem_can⟩
theorem m_setLc (i : Nat) {y : Str} {py spos : Pos} {tge iter : Expr} {ifs : List Expr} {scope : Scope} (own : List (Str × Nat)) {fi : IF} {gf : GF} {is : List Nat} (C : Ctx X W k) (hi : PIM X W T tge iter fi) (ok : blkC X.N X.env.scope scope own = true)
    (hg : ∀ (s : Shared) (H : Hp) (Ca : Addr) (cl : List (Str × Addr)) (fp : List Addr), PGM (X.blk s H scope (compEnvC scope cl Ca X.env) fp) T tge gf is) (hv : ∀ i ∈ is, i ∈ own.map (·.2))
    (ht : ∀ (s : Shared) (H : Hp) (Ca : Addr) (cl : List (Str × Addr)) (fp : List Addr), PTsM (X.blk s H scope (compEnvC scope cl Ca X.env) fp) W0 T ifs tf)
    (he : ∀ (s : Shared) (H : Hp) (Ca : Addr) (cl : List (Str × Addr)) (fp : List Addr), Ctx (X.blk s H scope (compEnvC scope cl Ca X.env) fp) W0 k → PEM (X.blk s H scope (compEnvC scope cl Ca X.env) fp) W0 T e f)
    (hsw : swapsWith (.ListComp e [⟨tge, iter, ifs, 0⟩] scope pos) (some (.Name y py)) spos.line X.env = pure true) (hy : X.N[i]? = some y := by rfl) (hyl : X.env.scope.names.lookup y = some .local := by rfl)
    (hs : ∀ x, foldedSetIterable iter X.env x = pure x := by intro _; rfl) :
    PSM X W T (.Assign [.Name y py] (.ListComp e [⟨tge, iter, ifs, 0⟩] scope pos) spos) (sAsg (fLc fi gf tf f (own.map (·.2))) (gN i)) := by
  obtain ⟨ti, i1, i2⟩ := hi
  exact ⟨_, ps_setLc C.calm C.nd hy hyl hsw i1 (blkOk_by ok) (fun s H Ca cl fp => (hg s H Ca cl fp).can) (fun s H Ca cl fp => (ht s H Ca cl fp).can) (fun s H Ca cl fp => (he s H Ca cl fp (C.blk s H scope (compEnvC scope cl Ca X.env) fp)).can) hs,
    ss_asg (sem_lc i2 semT_can hv sem_can sem_can) (st_name i)⟩

/-! ### statements -/
variable {sa sb : SF} {s1 : Stmt} {ss s2 : List Stmt}
theorem ms_asg {tge : Expr} {gf : GF} {is : List Nat} (he : PEM X W T e f) (hg : PGM X T tge gf is) (hs : swapsWithSole [tge] e pos.line X.env = pure false := by rfl) (hw : swappedStores [tge] e X.env = pure none := by rfl) (h1' : (assignEach [tge] X.env).map (·.2) = [assign tge X.env] := by rfl) : PSM X W T (.Assign [tge] e pos) (sAsg f gf) := by
  obtain ⟨t, h1, h2⟩ := he
  obtain ⟨u, h3, h4⟩ := hg
  exact ⟨_, ps_asg h1 h3 hs hw h1', ss_asg h2 h4⟩
theorem ms_set {o i : Expr} {fo fi : EF} {p2 : Pos} (he : PEM X W T e f) (ho : PEM X W T o fo) (hi : PEM X W T i fi) (hs : swapsWithSole [.Subscript o i p2] e pos.line X.env = pure false := by rfl) (hw : swappedStores [.Subscript o i p2] e X.env = pure none := by rfl) (h1' : (assignEach [.Subscript o i p2] X.env).map (·.2) = [assign (.Subscript o i p2) X.env] := by rfl) (hx : ∀ to ti, PE X o to → PE X i ti → PG X (.Subscript o i p2) (gSub to ti rSetL) := by exact fun _ _ a b => pg_sub a b set_list) : PSM X W T (.Assign [.Subscript o i p2] e pos) (sSet fo fi f) := by
  obtain ⟨t, h1, h2⟩ := he
  obtain ⟨u, h3, h4⟩ := ho
  obtain ⟨v, h5, h6⟩ := hi
  exact ⟨_, ps_asg h1 (hx u v h3 h5) hs hw h1', ss_set h2 h4 h6⟩
theorem ms_expr (he : PEM X W T e f) (hs : swapsWith e none pos.line X.env = pure false := by rfl) : PSM X W T (.Expr e pos) (sExpr f) := by
  obtain ⟨t, h1, h2⟩ := he
  exact ⟨_, ps_expr h1 hs, ss_expr h2⟩
theorem ms_ret (he : PEM X W T e f) : PSM X W T (.Return (some e) pos) (sRet f) := by
  obtain ⟨t, h1, h2⟩ := he
  exact ⟨_, ps_ret h1, ss_ret h2⟩
theorem ms_retN : PSM X W T (.Return none pos) sRetN := ⟨_, ps_retN, ss_retN⟩
theorem ms_pass : PSM X W T (.Pass pos) sPass := ⟨_, ps_pass, ss_pass⟩
theorem ms_break : PSM X W T (.Break pos) sBreak := ⟨_, ps_break, ss_break⟩
theorem ms_cont : PSM X W T (.Continue pos) sCont := ⟨_, ps_continue, ss_cont⟩
theorem mss_nil : PSsM X W T [] sPass := ⟨_, pss_nil, ss_pass⟩
theorem mss_one (h : PSM X W T s1 sa) : PSsM X W T [s1] sa := by
  obtain ⟨t, h1, h2⟩ := h
  exact ⟨_, pss_one h1, h2⟩
theorem mss_cons (h : PSM X W T s1 sa) (hr : PSsM X W T ss sb) : PSsM X W T (s1 :: ss) (sSeq sa sb) := by
  obtain ⟨t, h1, h2⟩ := h
  obtain ⟨u, h3, h4⟩ := hr
  exact ⟨_, pss_cons h1 h3, ss_seq h2 h4⟩
theorem ms_if (hc : PTM X W T c tf) (ha : PSsM X W T ss sa) (hb : PSsM X W T s2 sb) : PSM X W T (.If c ss s2 pos) (sIf tf sa sb) := by
  obtain ⟨t, h1, h2⟩ := hc
  obtain ⟨u, h3, h4⟩ := ha
  obtain ⟨v, h5, h6⟩ := hb
  exact ⟨_, ps_if h1 h3 h5, ss_if h2 h4 h6⟩
theorem ms_for {tge iter : Expr} {fi : IF} {gf : GF} {is : List Nat} (C : Ctx X W k) (hi : PIM X W T tge iter fi) (hg : PGM X T tge gf is) (hb : PSsM X W T ss sa) (hs : ∀ x, foldedSetIterable iter X.env x = pure x := by intro _; rfl) : PSM X W T (.For tge iter ss [] pos) (sFor fi gf sa) := by
  obtain ⟨t, h1, h2⟩ := hi
  obtain ⟨u, h3, h4⟩ := hg
  obtain ⟨v, h5, h6⟩ := hb
  exact ⟨_, ps_for C.hp C.calm h1 h3 h5 hs, ss_for h2 h4 h6⟩
theorem ms_while (m : Nat) (C : Ctx X W k) (hc : PTM X W T c tf) (hb : PSsM X W T ss sa) : PSM X W T (.While c ss [] pos) (wLoop tf sa m) := by
  obtain ⟨t, h1, h2⟩ := hc
  obtain ⟨v, h5, h6⟩ := hb
  exact ⟨_, ps_while C.hp h1 h5, ss_while m h2 h6⟩
end
end Vm
/-! Vm9: own errors made as values (also by keywords), instances made, attributes stored. -/
namespace PySem
namespace ErrKw
open PySem.W PySem.Calls PyProof.Rows PySem.HandSPX
open Builtin
section
variable {prog : Program} {w : World} {A : Around} {E : Value → Shared → Prop} {R : Result → Shared → Prop} {h : Heap} {g : Array GenState} {d : Drawn} {t : Nat} {os : OsState}
variable {nm q : Str} {C N : Addr} {bs bm bmB : List Value} {hdct : Bool} {sn : List Str} {sub : List Value} {ab : Bool} {col : Option Bool} {dd : Option Addr} {k0 k1 k2 k3 k5 : Option Value} {B newId initId : String}
theorem check_new_kw {M : Model} (F : ExcBaseFacts B newId initId bmB) (hT : ∀ X : String, bm.contains (.type X) = bmB.contains (.type X)) {rest : List Value} {kw : List (Str × Value)} {Q : Unit → Shared → Prop}
    (hC : h.get? C = some (excClassObj nm q C N bs bm hdct sn sub ab col dd k0 k1 k2 k3 k5 newId)) (hq : Q () ⟨h, g, d, t, os⟩) : wpAny M A (checkBuiltinCall newId ⟨.ref C :: rest, kw⟩) Q E ⟨h, g, d, t, os⟩ := by
  have hcont : (Value.ref C :: bm).contains (.type B) = true := by rw [List.contains_cons, hT, F.hasB, Bool.or_true]
  have hstar := F.noStar
  simp only [checkBuiltinCall, F.newKind, F.newSplit, F.newRow]
  repeat (first | refine wpAny_loadPart_at hC ?_ | (refine wpAny_isSubtype_exc hC ?_; rw [hcont]) | refine wpAny_staticBase_exc hC ?_ | refine wpAny_madeBy_exc hC ?_ | simp only [bne_self_eq_false, Bool.false_eq_true, if_false] | wp_step)
  exact hq
theorem new_kw (F : ExcBaseFacts B newId initId bmB) (hT : ∀ X : String, bm.contains (.type X) = bmB.contains (.type X)) {rest : List Value} {kw : List (Str × Value)}
    (hC : h.get? C = some (excClassObj nm q C N bs bm hdct sn sub ab col dd k0 k1 k2 k3 k5 newId))
    (hq : R (.ok (.ret (.ref (h.objs.size + 1)))) ⟨(h.push { cls := .type "tuple", data := .seq rest.toArray }).push
      { cls := .ref C, data := .fields #[.ref h.objs.size, .none, .none, .none, .bool false, .none] }, g, d, t, os⟩) (hrest : rest.length ≤ sizeLine) :
    codeAny (model prog w) A (.builtin newId ⟨.ref C :: rest, kw⟩) R ⟨h, g, d, t, os⟩ := by
  have hends := F.ends
  have hcB : (Value.ref C :: bm).contains (.type B) = true := by rw [List.contains_cons, hT, F.hasB, Bool.or_true]
  have hcA : (Value.ref C :: bm).contains (.type "AttributeError") = false := by rw [List.contains_cons, hT, F.noAttr]; rfl
  have hcN : (Value.ref C :: bm).contains (.type "NameError") = false := by rw [List.contains_cons, hT, F.noName]; rfl
  refine codeAny_builtinAt F.entry ?_
  unfold Builtin.«BaseException.__new__»
  refine wpAt_bind ?_
  show wpAt _ _ _ (stack >>= _) _ _ _
  refine wpAt_bind (wpAt_stack fun p below => wpAt_of_wpAny ?_)
  wp_walk
  refine wpAt_of_wpAny ?_
  rw [F.owner]
  repeat (first | with_reducible refine wpAny_madeHere_exc F.canon hC ?_ | with_reducible refine wpAny_loadPart_at hC ?_ | (with_reducible refine wpAny_isSubtype_exc hC ?_; first | rw [hcB] | rw [hcA] | rw [hcN]) | wp_step)
  show R _ _
  rw [Heap.size_push]
  exact hq
theorem type_call_kw (F : ExcBaseFacts B newId initId bmB) (hT : ∀ X : String, bm.contains (.type X) = bmB.contains (.type X)) {rest : List Value} {kw : List (Str × Value)} {fI : Value} {Q : Fin → Shared → Prop}
    (hC : h.get? C = some (excClassObj nm q C N bs bm hdct sn sub ab col dd k0 k1 k2 k3 k5 newId))
    (hi : W.Looks (model prog w) h (typeLookup (.ref C) "__init__") (some fI)) (hb : ∀ self, W.Looks (model prog w) h (bindSpecial fI self) (fI, [self])) (hrest : rest.length ≤ sizeLine)
    (hq : codeAny (model prog w) A (.call fI ⟨.ref (h.objs.size + 1) :: rest, kw⟩)
      (fun r s' => match r with | .ok (.ret v) => v = .none ∧ Q (.done (.ret (.ref (h.objs.size + 1)))) s' | .ok _ => False | .error e => E e s')
      ⟨(h.push (W.kdv_tup rest)).push (excO C h.objs.size), g, d, t, os⟩) :
    wpAny (model prog w) A (Builtin.«type.__call__» ⟨.ref C :: rest, kw⟩) Q E ⟨h, g, d, t, os⟩ := by
  repeat (first | with_reducible refine wpAny_loadPart_at hC ?_ | with_reducible refine wpAny_madeBy_exc hC ?_ | wp_step)
  refine codeAny_call_builtin_code (Code.quiet_builtin _ F.quiet) (check_new_kw F hT hC ?_)
  refine new_kw F hT hC ?_ hrest
  show wpAny _ _ _ _ _ _
  have k : ∀ b o, h.get? b = some o → ((h.push (W.kdv_tup rest)).push (excO C h.objs.size)).get? b = some o := fun b o e => Heap.get?_push_of_some _ (Heap.get?_push_of_some _ e)
  have hC₁ := k _ _ hC
  have hget : ((h.push (W.kdv_tup rest)).push (excO C h.objs.size)).get? (h.objs.size + 1) = some (excO C h.objs.size) := by heap_get
  have hcC : (Value.ref C :: bm).contains (.ref C) = true := by simp
  have i1 := hi.keeps k
  have b1 := (hb (.ref (h.objs.size + 1))).keeps k
  unfold isInstance
  repeat (first | with_reducible refine wpAny_loadPart_at hget ?_ | (with_reducible refine wpAny_isSubtype_exc hC₁ ?_; rw [hcC]) | wp_step)
  show wpAny _ _ (typeLookup (.ref C) _) _ _ _
  refine i1.at ?_
  refine wpAny_holding (wpAny_bind (b1.at ?_))
  refine wpAny_bind (wpAny_call (codeAny_mono hq fun r s' z => ?_))
  rcases r with e | (v | _ | _ | _) <;> first | exact z | exact z.elim | skip
  obtain ⟨rfl, z⟩ := z
  first
    | exact wpAny_pure (wpAny_pure z)
    | (wp_walk; exact z)
theorem call_kw (F : ExcBaseFacts B newId initId bmB) (hT : ∀ X : String, bm.contains (.type X) = bmB.contains (.type X)) {rest : List Value} {kw : List (Str × Value)} {fI : Value}
    (hC : h.get? C = some (excClassObj nm q C N bs bm hdct sn sub ab col dd k0 k1 k2 k3 k5 newId))
    (hi : W.Looks (model prog w) h (typeLookup (.ref C) "__init__") (some fI)) (hb : ∀ self, W.Looks (model prog w) h (bindSpecial fI self) (fI, [self])) (hrest : rest.length ≤ sizeLine)
    (hq : codeAny (model prog w) (A.under (.builtin "type.__call__" ⟨.ref C :: rest, kw⟩)) (.call fI ⟨.ref (h.objs.size + 1) :: rest, kw⟩) (W.InitBack (h.objs.size + 1) R)
      ⟨(h.push (W.kdv_tup rest)).push (excO C h.objs.size), g, d, t, os⟩) :
    codeAny (model prog w) A (.call (.ref C) ⟨rest, kw⟩) R ⟨h, g, d, t, os⟩ := by
  have f1 := tc_lookup
  have f2 := tc_bind (.ref C)
  have hTy : (⟨h, g, d, t, os⟩ : Shared).TypeIs (.ref C) "type" := ⟨_, hC, rfl⟩
  refine codeAny_of_tree ?_
  show wpAny _ _ (callAny (.ref C) _) _ _ _
  repeat (any_goals (first | assumption | with_reducible refine wpAny_loadPart_at hC ?_ | wp_step))
  refine ⟨rfl, ?_⟩
  refine codeAny_call_builtin_at (Code.quiet_builtin _ (by decide +kernel)) entry_typeCall (wpAny_check_type_call_sub hC (type_call_kw F hT hC hi hb hrest ?_))
  refine codeAny_mono hq fun r s' z => ?_
  rcases r with e | (v | _ | _ | _) <;> exact z
end
end ErrKw
end PySem
/-! Vm9: own errors made as values (also by keywords), instances made, attributes stored. -/
namespace Vm
open PySem PySem.Spec PyProof.Rows L2
/-- these places of a list -/
def pick {α : Type} (p : List Nat) (l : List α) : List α := p.filterMap (l[·]?)
theorem pick_vals : ∀ (p : List Nat) {vs : List V} {us : List Value}, Vals vs us → Vals (pick p vs) (pick p us)
  | [], _, _, _ => .nil
  | i :: p, vs, us, r => by
    have ih := pick_vals p r
    unfold pick at ih ⊢
    cases e : vs[i]? with
    | none => rw [List.filterMap_cons, List.filterMap_cons, e, r.none_of e]; exact ih
    | some v =>
      obtain ⟨u, h1, h2⟩ := r.get e
      rw [List.filterMap_cons, List.filterMap_cons, e, h1]
      exact .cons h2 ih
section
variable {X : Cx} {T : Tab} {K : PySem.W.Frag} {W : WX} {ρ ρ' ρ1 : Rho} {H H' H1 : Hp} {st st' st1 : Sto} {σ : L2.St} {e : Env} {k : Nat}
theorem pick_rp : ∀ (p : List Nat) {vs : List V} {ds : List D}, RpL T K ρ H vs ds → RpL T K ρ H (pick p vs) (pick p ds)
  | [], _, _, _ => .nil
  | i :: p, vs, ds, r => by
    have ih := pick_rp p r
    unfold pick at ih ⊢
    cases e : ds[i]? with
    | none =>
      have e' : vs[i]? = none := by
        rw [List.getElem?_eq_none_iff] at e ⊢
        rw [r.length]
        exact e
      rw [List.filterMap_cons, List.filterMap_cons, e, e']
      exact ih
    | some d =>
      obtain ⟨v, h1, h2⟩ := r.get i d e
      rw [List.filterMap_cons, List.filterMap_cons, e, h1]
      exact .cons h2 ih

/-! ### errors made -/
/-- what an error's own __init__ does: its attributes are stored, one by one -/
def spEr (K : PySem.W.Frag) (names : List Str) : Sp := fun vs H Q _ => ∃ (a C : Addr) (ws : List V), vs = .ref a :: ws ∧ OexC K C ∧ (∀ n ∈ names, PySem.W.findIn K (.ref C) n = some none) ∧ H a = some (exo a C none) ∧ ws.length = names.length ∧
  (names = [] → Q .non H) ∧ ∀ dx H', names ≠ [] → H dx = none → dx ≠ a → H' a = some (exo a C (some dx)) → H' dx = some (exd dx ((names.zip ws).reverse)) → (∀ b, b ≠ a → b ≠ dx → H' b = H b) → Q .non H'
/-- an error's class and its own __init__ -/
structure ErrMk (P : Program) (w : World) (K : PySem.W.Frag) (mg : Str → Option Value) (base : Heap) (T : Tab) (k : Nat) (c : Nat) (fI : Addr) (fd : FuncData) (ps : List Str) : Prop where
  is : T.isErr c = true
  iC : PySem.W.findIn K (.ref (T.adr c)) "__init__" = some (some (.ref fI))
  tI : PySem.W.typeIn K (.ref fI) = some (.type "function")
  no : ∀ n ∈ T.names c, PySem.W.findIn K (.ref (T.adr c)) n = some none
  ok : FnOk P w K mg base (L2.CX P w) k fI fd ps (spEr K (T.names c))
/-- only keywords -/
def BindK (K : PySem.W.Frag) (fd : FuncData) (ps ks : List Str) (p : List Nat) : Prop := ∀ (s : Shared) (x : Value) (ws : List Value), K.In s.heap → ws.length = ks.length → BindsTo s fd ⟨[x], ks.zip ws⟩ (ps.zip (x :: pick p ws))
theorem reverse_lookup : ∀ {ns : List Str} {vs : List V} {j : Nat} {n : Str} {v : V}, ns.Nodup → ns[j]? = some n → vs[j]? = some v → vs.length = ns.length → ((ns.zip vs).reverse).lookup n = some v := by
  intro ns vs j n v hd h1 h2 hl
  have hm : (n, v) ∈ (ns.zip vs).reverse := by
    rw [List.mem_reverse]
    have e : (ns.zip vs)[j]? = some (n, v) := by
      rw [List.getElem?_zip_eq_some]
      exact ⟨h1, h2⟩
    exact List.mem_of_getElem? e
  have hn : ((ns.zip vs).reverse.map (·.1)).Nodup := by
    rw [List.map_reverse, List.map_fst_zip (by omega)]
    exact List.pairwise_reverse.mpr (hd.imp fun h => Ne.symm h)
  -- in a list of pairs with no key twice a member is what is looked up
  have gen : ∀ (l : List (Str × V)), (l.map (·.1)).Nodup → (n, v) ∈ l → l.lookup n = some v := by
    intro l
    induction l with
    | nil => intro _ h; cases h
    | cons q l ih =>
      intro hd hm
      obtain ⟨a, b⟩ := q
      rw [List.map_cons, List.nodup_cons] at hd
      rcases List.mem_cons.mp hm with e | e
      · cases e
        simp [List.lookup]
      · have ne : n ≠ a := fun z => hd.1 (by
          rw [← z]
          exact List.mem_map.mpr ⟨_, e, rfl⟩)
        have b' : (n == a) = false := by simpa using ne
        show List.lookup n ((a, b) :: l) = some v
        simp [List.lookup, b', ih hd.2 e]
  exact gen _ hn hm
theorem run_err {pins : List (Addr × Obj)} {s : Shared} {Q : VK} {c : Nat} {fI : Addr} {fd : FuncData} {ps : List Str} {us us3 : List Value} {kw : List (Str × Value)} {ws : List V} (C : Ctx X W (k + 1)) (TK : TabOk T X.K) (EM : ErrMk X.prog X.w X.K X.mg X.base T k c fI fd ps)
    (I : Inv X pins σ H s) (hus : us.length ≤ sizeLine) (r : Vals ws us3) (hb : ∀ (s : Shared) (x : Value), X.K.In s.heap → BindsTo s fd ⟨x :: us, kw⟩ (ps.zip (x :: us3)))
    (h : ∀ a, H a = none → spEr X.K (T.names c) (.ref a :: ws) (upd H a (exo a (T.adr c) none)) (fun v H2 => v = .non ∧ Q (.ref a) H2) (WE W σ)) :
    wpAny (model X.prog X.w) X.A (call (.ref (T.adr c)) us kw) (EP X pins σ Q) X.xe s := by
  obtain ⟨nm, q, N, bs, bm, sn, sub, ab, col, dd, k0, k1, k2, k3, k5, hC, hbm⟩ := (TK.err c EM.is).2.cls
  obtain ⟨hp, g, dr, tk, os⟩ := s
  have hsz : hp.objs.size ≤ hp.objs.size + 1 := Nat.le_succ _
  have hq := h (hp.objs.size + 1) (I.hok.fresh hsz)
  have kk : ∀ b o, hp.get? b = some o → ((hp.push (PySem.W.kdv_tup us)).push (PySem.HandSPX.excO (T.adr c) hp.objs.size)).get? b = some o := fun b o e => Heap.get?_push_of_some _ (Heap.get?_push_of_some _ e)
  have hget : ((hp.push (PySem.W.kdv_tup us)).push (PySem.HandSPX.excO (T.adr c) hp.objs.size)).get? (hp.objs.size + 1) = some (PySem.HandSPX.excO (T.adr c) hp.objs.size) := by heap_get
  have I2 : Inv X pins σ (upd H (hp.objs.size + 1) (exo (hp.objs.size + 1) (T.adr c) none)) ⟨(hp.push (PySem.W.kdv_tup us)).push (PySem.HandSPX.excO (T.adr c) hp.objs.size), g, dr, tk, os⟩ :=
    I.laid (t' := tk) (a := hp.objs.size + 1) (o := exo (hp.objs.size + 1) (T.adr c) none) (h' := (hp.push (PySem.W.kdv_tup us)).push (PySem.HandSPX.excO (T.adr c) hp.objs.size)) kk hsz (exo_ok hget)
  have r2 : Vals (V.ref (hp.objs.size + 1) :: ws) (Value.ref (hp.objs.size + 1) :: us3) := .cons rfl r
  refine wpAny_call (PySem.ErrKw.call_kw F.excBase_ValueError (fun Y => PySem.HandSPX.refsVE_contains Y bm hbm) (I.kIn _ _ hC) (PySem.W.looks_findIn I.kIn EM.iC) (fun self => PySem.W.bind_fn I.kIn self EM.tI) hus
    (codeAny_mono (EM.ok.run _ X.stack _ _ ⟨Value.ref (hp.objs.size + 1) :: us, kw⟩ (Value.ref (hp.objs.size + 1) :: us3) _ _ (WE W σ) (C.room.make (T.adr c) us kw) (I2.env0.make (T.adr c) us kw) (hb _ _ I2.kIn) r2 hq) fun r s' hq' => ?_))
  cases r with
  | error er => exact (passAt C.tk σ) pins _ _ er s' I2 hq'
  | ok fl =>
    cases fl with
    | ret u =>
      obtain ⟨v, H', I3, rv, ev, q3⟩ := I2.after hq'
      subst ev
      exact ⟨rv, ⟨V.ref (hp.objs.size + 1), H', I3, rfl, q3⟩⟩
    | next => exact False.elim hq'
    | brk => exact False.elim hq'
    | cont => exact False.elim hq'
/-- the reading -/
def tErr (X : Cx) (T : Tab) (W : WX) (c : Nat) (t : TA) : TE := fun σ H Q => t σ H fun ws H1 => ws.length ≤ 1000 ∧ ∀ a, H1 a = none → spEr X.K (T.names c) (.ref a :: ws) (upd H1 a (exo a (T.adr c) none)) (fun v H2 => v = .non ∧ Q (.ref a) H2) (WE W σ)
def tErrK (X : Cx) (T : Tab) (W : WX) (c m : Nat) (p : List Nat) (t : TA) : TE := fun σ H Q => t σ H fun ws H1 => ws.length = m ∧ ∀ a, H1 a = none → spEr X.K (T.names c) (.ref a :: pick p ws) (upd H1 a (exo a (T.adr c) none)) (fun v H2 => v = .non ∧ Q (.ref a) H2) (WE W σ)
theorem le1000 {n : Nat} (h : n ≤ 1000) : n ≤ sizeLine := Nat.le_trans h (by decide)
theorem pe_err {c : Nat} {fI : Addr} {fd : FuncData} {ps : List Str} {x : Str} {p pos : Pos} {ex : Expr} {es : List Expr} {t : TA} (C : Ctx X W (k + 1)) (TK : TabOk T X.K) (EM : ErrMk X.prog X.w X.K X.mg X.base T k c fI fd ps) (hb : Binds X.K fd ps []) (hg : Gl X x) (hm : X.mg x = some (.ref (T.adr c)))
    (ha : PA X (ex :: es) t) (hdb : (x == ("__debug__" : Str)) = false := by decide) (he : starEach (ex :: es) X.env = (false, eval ex X.env) :: starEach es X.env := by rfl) (hpl : (backTo pos (starEach es X.env)).any (·.1) = false := by rfl) :
    PE X (.Call (.Name x p) (ex :: es) [] pos) (tErr X T W c t) := by
  refine ⟨fun pins s σ H Q I h => ?_⟩
  refine wpAny_Call_Name_kw (ld_glob I hg hm ?_ hdb)
  refine PySem.W.callWith_K (h₀ := X.base) I.ok.mod.kin (TK.err c EM.is).2.kC (thn (ha.run pos pins s σ H _ I h) fun us s1 ⟨vs, H1, I1, r, hl, q⟩ => ⟨I1.kIn, ?_⟩) he hpl
  refine run_err (us := us) C TK EM I1 (le1000 (by rw [← r.length]; exact hl)) r (fun s x ks => ?_) q
  have hlen : (x :: us ++ []).length = ps.length := by
    have e := EM.ok.len _ _ _ _ (q _ (I1.hok.fresh (Nat.le_refl _)))
    rw [List.append_nil, List.length_cons, ← r.length]
    simpa using e
  have z := hb s (x :: us) ks hlen
  rw [List.append_nil] at z
  exact z
theorem pe_err0 {c : Nat} {fI : Addr} {fd : FuncData} {ps : List Str} {x : Str} {p pos : Pos} (C : Ctx X W (k + 1)) (TK : TabOk T X.K) (EM : ErrMk X.prog X.w X.K X.mg X.base T k c fI fd ps) (hb : Binds X.K fd ps []) (hg : Gl X x) (hm : X.mg x = some (.ref (T.adr c)))
    (hdb : (x == ("__debug__" : Str)) = false := by decide) : PE X (.Call (.Name x p) [] [] pos) (tErr X T W c tNil) := by
  refine ⟨fun pins s σ H Q I h => ?_⟩
  obtain ⟨_, q⟩ := h
  refine wpAny_Call_Name_kw (ld_glob I hg hm ?_ hdb)
  refine PySem.W.callWith_K0 I.kIn (TK.err c EM.is).2.kC (run_err (us := []) C TK EM I (Nat.zero_le _) .nil (fun s x ks => ?_) q)
  have hlen : ([x] ++ []).length = ps.length := by
    have e := EM.ok.len _ _ _ _ (q _ (I.hok.fresh (Nat.le_refl _)))
    simpa using e
  exact hb s [x] ks hlen
theorem pe_errK {c : Nat} {fI : Addr} {fd : FuncData} {ps ks : List Str} {pp : List Nat} {x : Str} {p pos : Pos} {kws : List Keyword} {t : TA} (C : Ctx X W (k + 1)) (TK : TabOk T X.K) (EM : ErrMk X.prog X.w X.K X.mg X.base T k c fI fd ps) (hb : BindK X.K fd ps ks pp) (hg : Gl X x) (hm : X.mg x = some (.ref (T.adr c)))
    (hkw : PK X kws t) (hall : (backToKw pos (keywordEach kws X.env)).all (·.1.isSome) = true := by rfl) (hks : (backToKw pos (keywordEach kws X.env)).filterMap (·.1) = ks := by rfl) (hdb : (x == ("__debug__" : Str)) = false := by decide)
    (hpl : ((backTo pos (starEach [] X.env)).any (·.1) || (backToKw pos (keywordEach kws X.env)).any (·.1.isNone)) = false := by rfl) : PE X (.Call (.Name x p) [] kws pos) (tErrK X T W c ks.length pp t) := by
  refine ⟨fun pins s σ H Q I h => ?_⟩
  refine wpAny_Call_Name_kw (ld_glob I hg hm ?_ hdb)
  refine PySem.W.callWith_KW0 (h₀ := X.base) I.ok.mod.kin (TK.err c EM.is).2.kC hall ?_ hpl
  refine thn (hkw.run pos pins s σ H _ I h) fun ws s2 ⟨zs, H2, I2, rz, hl, q⟩ => ⟨I2.kIn, ?_⟩
  rw [hks]
  exact run_err (us := []) C TK EM I2 (Nat.zero_le _) (pick_vals pp rz) (fun s x kx => hb s x ws kx (rz.length.symm.trans hl)) q
/-- the function -/
def gErr (T : Tab) (c : Nat) : GA := fun ds st => if ds.length = (T.names c).length ∧ ds.length ≤ 1000 then some (.ok (.err c ds), st) else none
theorem err_rp {ws : List V} {ds : List D} {Q : VK} {σ : L2.St} (TK : TabOk T X.K) (nd : (T.names c).Nodup) (no : ∀ n ∈ T.names c, PySem.W.findIn X.K (.ref (T.adr c)) n = some none) (is : T.isErr c = true) (s : RS T X.K ρ H st) (r : RpL T X.K ρ H ws ds) (hl : ds.length = (T.names c).length)
    (hp : ∀ v H' ρ', Evo ρ H ρ' H' → RS T X.K ρ' H' st → Rp T X.K ρ' H' v (.err c ds) → Q v H') : ∀ a, H a = none → spEr X.K (T.names c) (.ref a :: ws) (upd H a (exo a (T.adr c) none)) (fun v H2 => v = .non ∧ Q (.ref a) H2) (WE W σ) := by
  intro a ha
  have w := s.wf
  have hlw : ws.length = (T.names c).length := r.length.trans hl
  refine ⟨a, T.adr c, ws, rfl, (TK.err c is).2, no, upd_same, hlw, fun hn => ⟨rfl, ?_⟩, fun dx H' hn hd hda h1 h2 h3 => ⟨rfl, ?_⟩⟩
  · refine hp _ _ ρ (Evo.new ha) (s.evo0 ha) (.err is ⟨hlw, .inl ⟨hn, upd_same⟩⟩ (r.mono w (Evo.new ha)))
  · have hd0 : H dx = none := by
      rw [upd_ne hda] at hd
      exact hd
    have ev : Evo ρ H ρ H' := by
      refine ⟨⟨[], by simp, fun _ z => nomatch z⟩, rfl, fun b o q _ _ => ?_, fun b q => ?_⟩
      · rw [h3 b (ne_of_none q ha) (ne_of_none q hd0), upd_ne (ne_of_none q ha)]
        exact q
      · by_cases hb : b = a
        · rw [hb]
          exact ha
        · by_cases hb2 : b = dx
          · rw [hb2]
            exact hd0
          · rw [h3 b hb hb2, upd_ne hb] at q
            exact q
    have s' : RS T X.K ρ H' st := s.evoE ev fun b o q => by
      rw [h3 b (ne_of_none q ha) (ne_of_none q hd0), upd_ne (ne_of_none q ha)]
      exact q
    refine hp _ _ ρ ev s' (.err is ⟨hlw, .inr ⟨dx, _, h1, h2, fun j n v g1 g2 => ?_⟩⟩ (r.mono w ev))
    exact reverse_lookup nd g1 g2 hlw
theorem m_err {c : Nat} {fI : Addr} {fd : FuncData} {ps : List Str} {x : Str} {p pos : Pos} {ex : Expr} {es : List Expr} {fa : AF} (C : Ctx X W (k + 1)) (TK : TabOk T X.K) (EM : ErrMk X.prog X.w X.K X.mg X.base T k c fI fd ps) (hb : Binds X.K fd ps []) (hm : X.mg x = some (.ref (T.adr c))) (nd : (T.names c).Nodup)
    (ha : PAM X W T (ex :: es) fa) (hg : Gl X x := by rfl) (hdb : (x == ("__debug__" : Str)) = false := by decide) (he : starEach (ex :: es) X.env = (false, eval ex X.env) :: starEach es X.env := by rfl) (hpl : (backTo pos (starEach es X.env)).any (·.1) = false := by rfl) :
    PEM X W T (.Call (.Name x p) (ex :: es) [] pos) (fCB (gErr T c) fa) := by
  obtain ⟨t, h1, h2⟩ := ha
  refine ⟨_, pe_err C TK EM hb hg hm h1 hdb he hpl, ?_⟩
  intro ρ σ H Q e st res st' s en h hp
  refine h2.bind s en h hp fun vs ds ρ1 H1 st1 ev s1 en1 q1 h' hp1 => ?_
  unfold gErr at h'
  split at h'
  · rename_i hl
    cases h'
    exact ⟨by rw [q1.length]; exact hl.2, err_rp TK nd EM.no EM.is s1 q1 hl.1 hp1⟩
  · cases h'
theorem m_err0 {c : Nat} {fI : Addr} {fd : FuncData} {ps : List Str} {x : Str} {p pos : Pos} (C : Ctx X W (k + 1)) (TK : TabOk T X.K) (EM : ErrMk X.prog X.w X.K X.mg X.base T k c fI fd ps) (hb : Binds X.K fd ps []) (hm : X.mg x = some (.ref (T.adr c))) (nd : (T.names c).Nodup)
    (hg : Gl X x := by rfl) (hdb : (x == ("__debug__" : Str)) = false := by decide) : PEM X W T (.Call (.Name x p) [] [] pos) (fCB (gErr T c) fNil) := by
  refine ⟨_, pe_err0 C TK EM hb hg hm hdb, ?_⟩
  intro ρ σ H Q e st res st' s en h hp
  refine sem_nil.bind s en h hp fun vs ds ρ1 H1 st1 ev s1 en1 q1 h' hp1 => ?_
  unfold gErr at h'
  split at h'
  · rename_i hl
    cases h'
    exact ⟨by rw [q1.length]; exact hl.2, err_rp TK nd EM.no EM.is s1 q1 hl.1 hp1⟩
  · cases h'
def gErrK (T : Tab) (c m : Nat) (p : List Nat) : GA := fun ds => if ds.length = m then gErr T c (pick p ds) else fun _ => none
theorem m_errK {c : Nat} {fI : Addr} {fd : FuncData} {ps ks : List Str} {pp : List Nat} {x : Str} {p pos : Pos} {kws : List Keyword} {fa : AF} (C : Ctx X W (k + 1)) (TK : TabOk T X.K) (EM : ErrMk X.prog X.w X.K X.mg X.base T k c fI fd ps) (hb : BindK X.K fd ps ks pp) (hm : X.mg x = some (.ref (T.adr c))) (nd : (T.names c).Nodup)
    (ha : PKM X W T kws fa) (hg : Gl X x := by rfl) (hall : (backToKw pos (keywordEach kws X.env)).all (·.1.isSome) = true := by rfl) (hks : (backToKw pos (keywordEach kws X.env)).filterMap (·.1) = ks := by rfl) (hdb : (x == ("__debug__" : Str)) = false := by decide)
    (hpl : ((backTo pos (starEach [] X.env)).any (·.1) || (backToKw pos (keywordEach kws X.env)).any (·.1.isNone)) = false := by rfl) :
    PEM X W T (.Call (.Name x p) [] kws pos) (fCB (gErrK T c ks.length pp) fa) := by
  obtain ⟨t, h1, h2⟩ := ha
  refine ⟨_, pe_errK C TK EM hb hg hm h1 hall hks hdb hpl, ?_⟩
  intro ρ σ H Q e st res st' s en h hp
  refine h2.bind s en h hp fun vs ds ρ1 H1 st1 ev s1 en1 q1 h' hp1 => ?_
  unfold gErrK at h'
  split at h'
  · rename_i hm
    unfold gErr at h'
    split at h'
    · rename_i hl
      cases h'
      exact ⟨by rw [q1.length]; exact hm, err_rp TK nd EM.no EM.is s1 (pick_rp pp q1) hl.1 hp1⟩
    · cases h'
  · cases h'
end
end Vm
/-! Vm10: errors without an own __init__; the __init__s of errors; instances; the law's end. -/
namespace Vm
open PySem PySem.Spec PyProof.Rows L2
section
variable {X : Cx} {T : Tab} {K : PySem.W.Frag} {W : WX} {ρ ρ' ρ1 : Rho} {H H' H1 : Hp} {st st' st1 : Sto} {σ : L2.St} {e : Env} {k : Nat}
/-! ### X(), X an error's class without an own __init__ -/
structure ErrN (K : PySem.W.Frag) (T : Tab) (c : Nat) : Prop where
  is : T.isErr c = true
  nm : T.names c = []
  iC : PySem.W.findIn K (.ref (T.adr c)) "__init__" = some (some (.builtin "ValueError.__init__"))
theorem pe_errN {c : Nat} {x : Str} {p pos : Pos} (TK : TabOk T X.K) (EM : ErrN X.K T c) (hg : Gl X x) (hm : X.mg x = some (.ref (T.adr c))) (hdb : (x == ("__debug__" : Str)) = false := by decide) :
    PE X (.Call (.Name x p) [] [] pos) (fun σ H Q => ∀ a, H a = none → Q (.ref a) (upd H a (exo a (T.adr c) none))) := by
  refine ⟨fun pins s σ H Q I h => ?_⟩
  refine wpAny_Call_Name_kw (ld_glob I hg hm ?_ hdb)
  refine PySem.W.callWith_K0 I.kIn (TK.err c EM.is).2.kC ?_
  obtain ⟨nm, q, N, bs, bm, sn, sub, ab, col, dd, k0, k1, k2, k3, k5, hC, hbm⟩ := (TK.err c EM.is).2.cls
  obtain ⟨hp, g, dr, tk, os⟩ := s
  have hsz : hp.objs.size ≤ hp.objs.size + 1 := Nat.le_succ _
  have kk : ∀ b o, hp.get? b = some o → ((hp.push (PySem.W.kdv_tup [])).push (PySem.HandSPX.excO (T.adr c) hp.objs.size)).get? b = some o := fun b o e => Heap.get?_push_of_some _ (Heap.get?_push_of_some _ e)
  have hget : ((hp.push (PySem.W.kdv_tup [])).push (PySem.HandSPX.excO (T.adr c) hp.objs.size)).get? (hp.objs.size + 1) = some (PySem.HandSPX.excO (T.adr c) hp.objs.size) := by heap_get
  have hT : ∀ Y : String, bm.contains (.type Y) = PySem.HandSPX.veTail.contains (.type Y) := fun Y => PySem.HandSPX.refsVE_contains Y bm hbm
  refine wpAny_call (PySem.ErrKw.call_kw (rest := []) (kw := []) F.excBase_ValueError hT (I.kIn _ _ hC) (PySem.W.looks_findIn I.kIn EM.iC) (fun self => PySem.W.Looks.of_pure (F.excBase_ValueError.init.bind self)) (Nat.zero_le _) ?_)
  refine PySem.HandSPX.init_base F.excBase_ValueError hT (kk _ _ (I.kIn _ _ hC)) hget (Nat.zero_le _) fun h' t1 k' hx => ?_
  have J : Inv X pins σ (upd H (hp.objs.size + 1) (exo (hp.objs.size + 1) (T.adr c) none)) ⟨h', g, dr, tk, os⟩ :=
    I.laid (t' := tk) (a := hp.objs.size + 1) (o := exo (hp.objs.size + 1) (T.adr c) none) (h' := h') (fun b o e => k' b o (Nat.ne_of_lt (Nat.lt_succ_of_lt (Heap.lt_size e))) (kk b o e)) hsz (exo_ok hx)
  exact ⟨rfl, ⟨V.ref (hp.objs.size + 1), _, J, rfl, h _ (I.hok.fresh hsz)⟩⟩
theorem m_errN {c : Nat} {x : Str} {p pos : Pos} (TK : TabOk T X.K) (EM : ErrN X.K T c) (hm : X.mg x = some (.ref (T.adr c))) (hg : Gl X x := by rfl) (hdb : (x == ("__debug__" : Str)) = false := by decide) : PEM X W T (.Call (.Name x p) [] [] pos) (fC (.err c [])) := by
  refine ⟨_, pe_errN TK EM hg hm hdb, ?_⟩
  intro ρ σ H Q e st res st' s en h hp
  cases h
  intro a ha
  exact hp _ _ ρ (Evo.new ha) (s.evo0 ha) (.err EM.is ⟨by rw [EM.nm]; rfl, .inl ⟨EM.nm, upd_same⟩⟩ .nil)

/-! ### the __init__s of errors -/
/-- a class over ValueError, its __init__ called by hand: C.__init__(self, ..) -/
structure ClsI (K : PySem.W.Frag) (C : Addr) : Prop where
  ga : PySem.W.specialIn K (.ref C) "__getattribute__" = some (some (.builtin "type.__getattribute__"))
  rd : PySem.W.readsIn K C (.type "type") = true
  fi : PySem.W.findCls K (.ref C) (.type "type") "__init__" = some (.val (.builtin "ValueError.__init__"))
theorem pe_clsinit {B : Addr} {x : Str} {ex : Expr} {es : List Expr} {ta : TA} {p1 p2 pos : Pos} {pl : PySem.Sem Bool} (CI : ClsI X.K B) (hg : Gl X x) (hm : X.mg x = some (.ref B)) (ha : PA X (ex :: es) ta) (hdb : (x == ("__debug__" : Str)) = false := by decide)
    (hc : eval (.Call (.Attribute (.Name x p1) "__init__" p2) (ex :: es) [] pos) X.env = (do
      let ov ← eval (.Name x p1) X.env
      standAt p2.atName
      let (f, first) ← holding [ov] (getMethod ov "__init__" pl)
      callWith pos f first (backTo pos (starEach (ex :: es) X.env)) (backToKw pos (keywordEach [] X.env))) := by rfl)
    (he : starEach (ex :: es) X.env = (false, eval ex X.env) :: starEach es X.env := by rfl) (hpl : (backTo pos (starEach es X.env)).any (·.1) = false := by rfl) :
    PE X (.Call (.Attribute (.Name x p1) "__init__" p2) (ex :: es) [] pos) (tVeI X.K ta) := by
  refine ⟨fun pins s σ H Q I h => ?_⟩
  refine PySem.W.methodCall_KW (ld_glob I hg hm ?_ hdb) hc
  refine PySem.W.method_cls I.kIn CI.ga (PySem.W.cls_value I.kIn CI.rd CI.fi (by decide +kernel) ?_)
  show wpAny _ _ (callWith pos (Value.builtin "ValueError.__init__") [] (backTo pos (starEach (ex :: es) X.env)) []) _ _ _
  refine PyProof.Rows.callWith_method1 (thn (ha.run pos pins _ σ H _ (I.tok _) h) fun us s1 ⟨vs, H1, I1, r1, a, C, ws, ev, hl, T, ea, q⟩ => ?_) he hpl
  subst ev
  cases r1 with
  | @cons _ u0 _ ur ra rw' =>
    obtain rfl : u0 = Value.ref a := ra
    have hlen : ur.length ≤ sizeLine := by
      rw [← Paired.length rw', sizeLine_eq]
      omega
    exact oinit_ok T I1 ea hlen fun s' J => ⟨.non, H1, J, rfl, q⟩
/-- self.f = x for each, behind a first one or not -/
def tStores (K : PySem.W.Frag) : List Str → Nat → TS
  | [], _ => tNext
  | [n], i => tOst K n (tVar 0) (tVar i)
  | n :: r, i => tSeq (tOst K n (tVar 0) (tVar i)) (tStores K r (i + 1))
end
/-- the stores of an error's __init__: from the first one on -/
theorem stores_ok {K : PySem.W.Frag} {C a : Addr} (OC : OexC K C) : ∀ (ns : List Str) (i : Nat) (σ : L2.St) (H : Hp) (D : Ends) (dx : Addr) (fs : List (Str × V)) (ws : List V), (∀ n ∈ ns, PySem.W.findIn K (.ref C) n = some none) → ws.length = ns.length → ns.length ≤ 100 → fs.length + ns.length ≤ 100 →
    σ[0]? = some (some (.ref a)) → (∀ (j : Nat) w, ws[j]? = some w → σ[i + j]? = some (some w)) → H a = some (exo a C (some dx)) → H dx = some (exd dx fs) → dx ≠ a →
    (∀ H', H' a = some (exo a C (some dx)) → H' dx = some (exd dx ((ns.zip ws).reverse ++ fs)) → (∀ b, b ≠ a → b ≠ dx → H' b = H b) → D.nx σ H') → tStores K ns i D σ H := by
  intro ns
  induction ns with
  | nil =>
    intro i σ H D dx fs ws no hl h100 h200 h0 hw ha hd ne hq
    have e : ws = [] := List.length_eq_zero_iff.mp hl
    subst e
    exact hq H ha hd fun _ _ _ => rfl
  | cons n r ih =>
    intro i σ H D dx fs ws no hl h100 h200 h0 hw ha hd ne hq
    cases ws with
    | nil => cases hl
    | cons w ws =>
      have hw0 := hw 0 w rfl
      have step : ∀ (D' : Ends), (D'.nx σ (upd H dx (exd dx ((n, w) :: fs)))) → tOst K n (tVar 0) (tVar i) D' σ H := fun D' hn =>
        ⟨w, hw0, .ref a, h0, a, C, rfl, OC, no n List.mem_cons_self, .inr ⟨dx, fs, ha, hd, by simp at h200; omega, hn⟩⟩
      have ha' : upd H dx (exd dx ((n, w) :: fs)) a = some (exo a C (some dx)) := by
        rw [upd_ne (Ne.symm ne)]
        exact ha
      cases r with
      | nil =>
        have e : ws = [] := List.length_eq_zero_iff.mp (by simpa using hl)
        subst e
        refine step D (hq _ ha' ?_ fun b hb hb2 => by rw [upd_ne hb2])
        rw [upd_same]
        rfl
      | cons n2 r2 =>
        refine step _ ?_
        refine ih (i + 1) σ _ D dx ((n, w) :: fs) ws (fun m hm => no m (List.mem_cons_of_mem _ hm)) (by simpa using hl) (by simp at h100 ⊢; omega) (by simp at h200 ⊢; omega) h0 (fun j v hv => ?_) ha' upd_same ne fun H' g1 g2 g3 => hq H' g1 ?_ fun b hb hb2 => ?_
        · have z := hw (j + 1) v (by simpa using hv)
          rw [show i + 1 + j = i + (j + 1) by omega]
          exact z
        · rw [g2]
          simp [List.zip_cons_cons]
        · rw [g3 b hb hb2, upd_ne hb2]
/-- the whole of it -/
theorem init_ok {K : PySem.W.Frag} {names : List Str} {N : List Str} {vs : List V} {H : Hp} {Q : VK} {E : XK} (h : spEr K names vs H Q E) (hn : names.length ≤ 100) (hN : N.length = names.length + 1) : tStores K names 1 { nx := fun _ H' => Q .non H', rt := Q } (L2.start N vs) H := by
  obtain ⟨a, C, ws, rfl, OC, no, ha, hl, q0, q1⟩ := h
  have h0 : (L2.start N (.ref a :: ws))[0]? = some (some (.ref a)) := by simp [L2.start]
  have hw : ∀ (j : Nat) w, ws[j]? = some w → (L2.start N (.ref a :: ws))[1 + j]? = some (some w) := fun j w hj => by
    unfold L2.start
    have hlt := (List.getElem?_eq_some_iff.mp hj).1
    rw [List.getElem?_append_left (by simp; omega), Nat.add_comm 1 j, List.map_cons, List.getElem?_cons_succ, List.getElem?_map, hj]
    rfl
  cases names with
  | nil => exact q0 rfl
  | cons n r =>
    cases ws with
    | nil => cases hl
    | cons w ws =>
      have hw0 := hw 0 w rfl
      have step : ∀ (D' : Ends), (∀ dx, H dx = none → dx ≠ a → D'.nx (L2.start N (.ref a :: w :: ws)) (upd (upd H dx (exd dx [(n, w)])) a (exo a C (some dx)))) → tOst K n (tVar 0) (tVar 1) D' (L2.start N (.ref a :: w :: ws)) H := fun D' hd =>
        ⟨w, hw0, .ref a, h0, a, C, rfl, OC, no n List.mem_cons_self, .inl ⟨ha, hd⟩⟩
      cases r with
      | nil =>
        have e : ws = [] := List.length_eq_zero_iff.mp (by simpa using hl)
        subst e
        refine step _ fun dx hd ne => ?_
        refine q1 dx _ (by simp) hd ne upd_same ?_ fun b hb hb2 => ?_
        · rw [upd_ne ne, upd_same]
          rfl
        · rw [upd_ne hb, upd_ne hb2]
      | cons n2 r2 =>
        refine step _ fun dx hd ne => ?_
        refine stores_ok OC (n2 :: r2) 2 _ _ _ dx [(n, w)] ws (fun m hm => no m (List.mem_cons_of_mem _ hm)) (by simpa using hl) (by simp at hn ⊢; omega) (by simp at hn ⊢; omega) h0 (fun j v hv => ?_) upd_same ?_ ne fun H' g1 g2 g3 => ?_
        · have z := hw (j + 1) v (by simpa using hv)
          rw [show 2 + j = 1 + (j + 1) by omega]
          exact z
        · rw [upd_ne ne, upd_same]
        · refine q1 dx H' (by simp) hd ne g1 ?_ fun b hb hb2 => ?_
          · rw [g2]
            simp [List.zip_cons_cons]
          · rw [g3 b hb hb2, upd_ne hb, upd_ne hb2]
/-- with C.__init__(self, 'text') ahead -/
theorem initH_ok {K : PySem.W.Frag} {names : List Str} {N : List Str} {vs : List V} {H : Hp} {Q : VK} {E : XK} {z : Str} (h : spEr K names vs H Q E) (hn : names.length ≤ 100) (hN : N.length = names.length + 1) :
    tSeq (tDrop (tVeI K (tCons (tVar 0) (tCons (tC (.str z)) tNil)))) (tStores K names 1) { nx := fun _ H' => Q .non H', rt := Q } (L2.start N vs) H := by
  have h2 := init_ok (N := N) h hn hN
  obtain ⟨a, C, ws, rfl, OC, no, ha, hl, q0, q1⟩ := h
  exact ⟨.ref a, by simp [L2.start], a, C, [.str z], rfl, by simp, OC, ha, h2⟩
theorem initH0_ok {K : PySem.W.Frag} {N : List Str} {vs : List V} {H : Hp} {Q : VK} {E : XK} {z : Str} (h : spEr K [] vs H Q E) (hN : N.length = 1) :
    tDrop (tVeI K (tCons (tVar 0) (tCons (tC (.str z)) tNil))) { nx := fun _ H' => Q .non H', rt := Q } (L2.start N vs) H := by
  obtain ⟨a, C, ws, rfl, OC, no, ha, hl, q0, q1⟩ := h
  exact ⟨.ref a, by simp [L2.start], a, C, [.str z], rfl, by simp, OC, ha, q0 rfl⟩
end Vm
/-! Vm11: instances made (also by keywords); __init__s that store their parameters one by one. -/
namespace Vm
open PySem PySem.Spec PyProof.Rows L2
/-- what an own __init__ does: its attributes are stored, one by one -/
def spIn (K : PySem.W.Frag) (names : List Str) : Sp := fun vs H Q _ => ∃ (a C dx : Addr) (ws : List V), vs = .ref a :: ws ∧ Cls K C ∧ (∀ n ∈ names, NoAttr K C n) ∧ H a = some (.ins C dx []) ∧ ws.length = names.length ∧ names.Nodup ∧ names ≠ [] ∧
  ∀ H', H' a = some (.ins C dx (names.zip ws)) → (∀ b, b ≠ a → H' b = H b) → Q .non H'
theorem putF_new (n : Str) (v : V) : ∀ fs : List (Str × V), n ∉ fs.map (·.1) → putF n v fs = fs ++ [(n, v)]
  | [], _ => rfl
  | (g, x) :: r, h => by
    have h1 : ¬ g = n := fun z => h (by rw [z]; exact List.mem_cons_self)
    have ih := putF_new n v r fun z => h (List.mem_cons_of_mem _ z)
    show (if g = n then (g, v) :: r else (g, x) :: putF n v r) = _
    rw [if_neg h1, ih]
    rfl
def tStoresI (K : PySem.W.Frag) : List Str → Nat → TS
  | [], _ => tNext
  | [n], i => sFld K (tVar 0) (tVar i) n
  | n :: r, i => tSeq (sFld K (tVar 0) (tVar i) n) (tStoresI K r (i + 1))
theorem storesI_ok {K : PySem.W.Frag} {C a dx : Addr} (c : Cls K C) : ∀ (ns : List Str) (i : Nat) (σ : L2.St) (H : Hp) (D : Ends) (fs : List (Str × V)) (ws : List V), (∀ n ∈ ns, NoAttr K C n) → ws.length = ns.length → fs.length + ns.length ≤ 100 → (fs.map (·.1) ++ ns).Nodup →
    σ[0]? = some (some (.ref a)) → (∀ (j : Nat) w, ws[j]? = some w → σ[i + j]? = some (some w)) → H a = some (.ins C dx fs) → ns ≠ [] →
    (∀ H', H' a = some (.ins C dx (fs ++ ns.zip ws)) → (∀ b, b ≠ a → H' b = H b) → D.nx σ H') → tStoresI K ns i D σ H := by
  intro ns
  induction ns with
  | nil =>
    intro i σ H D fs ws no hl h2 hd h0 hw ha hne hq
    exact absurd rfl hne
  | cons n r ih =>
    intro i σ H D fs ws no hl h2 hd h0 hw ha hne hq
    cases ws with
    | nil => cases hl
    | cons w ws =>
      have hw0 := hw 0 w rfl
      have hnn : n ∉ fs.map (·.1) := by
        rw [List.nodup_append] at hd
        exact fun z => hd.2.2 n z n List.mem_cons_self rfl
      have step : ∀ (D' : Ends), (D'.nx σ (upd H a (.ins C dx (fs ++ [(n, w)])))) → sFld K (tVar 0) (tVar i) n D' σ H := fun D' hn => by
        refine ⟨w, hw0, .ref a, h0, a, C, dx, fs, rfl, ha, c, no n List.mem_cons_self, by simp at h2; omega, ?_⟩
        rw [putF_new n w fs hnn]
        exact hn
      cases r with
      | nil =>
        have e : ws = [] := List.length_eq_zero_iff.mp (by simpa using hl)
        subst e
        exact step D (hq _ upd_same fun b hb => by rw [upd_ne hb])
      | cons n2 r2 =>
        refine step _ ?_
        refine ih (i + 1) σ _ D (fs ++ [(n, w)]) ws (fun m hm => no m (List.mem_cons_of_mem _ hm)) (by simpa using hl) (by simp at h2 ⊢; omega) (by simpa using hd) h0 (fun j v hv => ?_) upd_same (fun z => nomatch z) fun H' g1 g2 => hq H' ?_ fun b hb => ?_
        · have z := hw (j + 1) v (by simpa using hv)
          rw [show i + 1 + j = i + (j + 1) by omega]
          exact z
        · rw [g1]
          simp [List.zip_cons_cons]
        · rw [g2 b hb, upd_ne hb]
theorem initI_ok {K : PySem.W.Frag} {names : List Str} {N : List Str} {vs : List V} {H : Hp} {Q : VK} {E : XK} (h : spIn K names vs H Q E) (hn : names.length ≤ 100) (hN : N.length = names.length + 1) : tStoresI K names 1 { nx := fun _ H' => Q .non H', rt := Q } (L2.start N vs) H := by
  obtain ⟨a, C, dx, ws, rfl, c, no, ha, hl, nd, ne, q⟩ := h
  have h0 : (L2.start N (.ref a :: ws))[0]? = some (some (.ref a)) := by simp [L2.start]
  have hw : ∀ (j : Nat) w, ws[j]? = some w → (L2.start N (.ref a :: ws))[1 + j]? = some (some w) := fun j w hj => by
    unfold L2.start
    have hlt := (List.getElem?_eq_some_iff.mp hj).1
    rw [List.getElem?_append_left (by simp; omega), Nat.add_comm 1 j, List.map_cons, List.getElem?_cons_succ, List.getElem?_map, hj]
    rfl
  exact storesI_ok c names 1 _ H _ [] ws no hl (by simpa using hn) (by simpa using nd) h0 hw ha ne fun H' g1 g2 => q H' (by simpa using g1) g2
/-- a plain class and its __init__ -/
structure InsMk (P : Program) (w : World) (K : PySem.W.Frag) (mg : Str → Option Value) (base : Heap) (T : Tab) (k : Nat) (c : Nat) (fI : Addr) (fd : FuncData) (ps : List Str) : Prop where
  is : T.isIns c = true
  M : Mk K (T.adr c) fI
  cl : Cls K (T.adr c)
  no : ∀ n ∈ T.names c, NoAttr K (T.adr c) n
  nd : (T.names c).Nodup
  ne : T.names c ≠ []
  ok : FnOk P w K mg base (L2.CX P w) k fI fd ps (spIn K (T.names c))
section
variable {X : Cx} {T : Tab} {K : PySem.W.Frag} {W : WX} {ρ ρ' ρ1 : Rho} {H H' H1 : Hp} {st st' st1 : Sto} {σ : L2.St} {e : Env} {k : Nat}
theorem run_ins {pins : List (Addr × Obj)} {s : Shared} {Q : VK} {c : Nat} {fI : Addr} {fd : FuncData} {ps : List Str} {us us3 : List Value} {kw : List (Str × Value)} {ws : List V} (C : Ctx X W (k + 1)) (EM : InsMk X.prog X.w X.K X.mg X.base T k c fI fd ps)
    (I : Inv X pins σ H s) (r : Vals ws us3) (hb : ∀ (s : Shared) (x : Value), X.K.In s.heap → BindsTo s fd ⟨x :: us, kw⟩ (ps.zip (x :: us3)))
    (h : ∀ x dx, H x = none → H dx = none → dx ≠ x → spIn X.K (T.names c) (.ref x :: ws) (upd (upd H dx (.own x)) x (.ins (T.adr c) dx [])) (fun v H2 => v = .non ∧ Q (.ref x) H2) (WE W σ)) :
    wpAny (model X.prog X.w) X.A (call (.ref (T.adr c)) us kw) (EP X pins σ Q) X.xe s := by
  have hq := h (s.heap.objs.size + 1) s.heap.objs.size (I.hok.fresh (Nat.le_succ _)) (I.hok.fresh (Nat.le_refl _)) (Nat.ne_of_lt (Nat.lt_succ_self _))
  have I2 := Inv.made (C := T.adr c) I
  have r2 : Vals (V.ref (s.heap.objs.size + 1) :: ws) (Value.ref (s.heap.objs.size + 1) :: us3) := .cons rfl r
  refine wpAny_call (make_map (f := fI) I.kIn EM.M.makes EM.M.init (beq_iff_eq.mp EM.M.fn) (codeAny_mono (EM.ok.run _ X.stack _ _ ⟨Value.ref (s.heap.objs.size + 1) :: us, kw⟩ (Value.ref (s.heap.objs.size + 1) :: us3) _ _ (WE W σ) (C.room.make (T.adr c) us kw)
    (I2.env0.make (T.adr c) us kw) (hb _ _ I2.kIn) r2 hq) fun r s' hq' => ?_))
  cases r with
  | error er => exact (passAt C.tk σ) pins _ _ er s' I2 hq'
  | ok fl =>
    cases fl with
    | ret u =>
      obtain ⟨v, H', I3, rv, ev, q3⟩ := I2.after hq'
      subst ev
      exact ⟨rv, ⟨V.ref (s.heap.objs.size + 1), H', I3, rfl, q3⟩⟩
    | next => exact False.elim hq'
    | brk => exact False.elim hq'
    | cont => exact False.elim hq'
def IsAt (K : PySem.W.Frag) (C : Addr) (names : List Str) (ws : List V) (W : WX) (σ : L2.St) (H : Hp) (Q : VK) : Prop := ∀ x dx, H x = none → H dx = none → dx ≠ x → spIn K names (.ref x :: ws) (upd (upd H dx (.own x)) x (.ins C dx [])) (fun v H2 => v = .non ∧ Q (.ref x) H2) (WE W σ)
def tIns (X : Cx) (T : Tab) (W : WX) (c : Nat) (t : TA) : TE := fun σ H Q => t σ H fun ws H1 => IsAt X.K (T.adr c) (T.names c) ws W σ H1 Q
def tInsK (X : Cx) (T : Tab) (W : WX) (c m : Nat) (p : List Nat) (t : TA) : TE := fun σ H Q => t σ H fun ws H1 => ws.length = m ∧ IsAt X.K (T.adr c) (T.names c) (pick p ws) W σ H1 Q
theorem pe_ins {c : Nat} {fI : Addr} {fd : FuncData} {ps : List Str} {x : Str} {p pos : Pos} {ex : Expr} {es : List Expr} {t : TA} (C : Ctx X W (k + 1)) (EM : InsMk X.prog X.w X.K X.mg X.base T k c fI fd ps) (hb : Binds X.K fd ps []) (hg : Gl X x) (hm : X.mg x = some (.ref (T.adr c)))
    (ha : PA X (ex :: es) t) (hdb : (x == ("__debug__" : Str)) = false := by decide) (he : starEach (ex :: es) X.env = (false, eval ex X.env) :: starEach es X.env := by rfl) (hpl : (backTo pos (starEach es X.env)).any (·.1) = false := by rfl) :
    PE X (.Call (.Name x p) (ex :: es) [] pos) (tIns X T W c t) := by
  refine ⟨fun pins s σ H Q I h => ?_⟩
  refine wpAny_Call_Name_kw (ld_glob I hg hm ?_ hdb)
  refine PySem.W.callWith_K (h₀ := X.base) I.ok.mod.kin EM.M.kp (thn (ha.run pos pins s σ H _ I h) fun us s1 ⟨vs, H1, I1, r, q⟩ => ⟨I1.kIn, ?_⟩) he hpl
  refine run_ins (us := us) C EM I1 r (fun s x ks => ?_) q
  have hlen : (x :: us ++ []).length = ps.length := by
    have e := EM.ok.len _ _ _ _ (q (s1.heap.objs.size + 1) s1.heap.objs.size (I1.hok.fresh (Nat.le_succ _)) (I1.hok.fresh (Nat.le_refl _)) (Nat.ne_of_lt (Nat.lt_succ_self _)))
    rw [List.append_nil, List.length_cons, ← r.length]
    simpa using e
  have z := hb s (x :: us) ks hlen
  rw [List.append_nil] at z
  exact z
theorem pe_insK {c : Nat} {fI : Addr} {fd : FuncData} {ps ks : List Str} {pp : List Nat} {x : Str} {p pos : Pos} {kws : List Keyword} {t : TA} (C : Ctx X W (k + 1)) (EM : InsMk X.prog X.w X.K X.mg X.base T k c fI fd ps) (hb : BindK X.K fd ps ks pp) (hg : Gl X x) (hm : X.mg x = some (.ref (T.adr c)))
    (hkw : PK X kws t) (hall : (backToKw pos (keywordEach kws X.env)).all (·.1.isSome) = true := by rfl) (hks : (backToKw pos (keywordEach kws X.env)).filterMap (·.1) = ks := by rfl) (hdb : (x == ("__debug__" : Str)) = false := by decide)
    (hpl : ((backTo pos (starEach [] X.env)).any (·.1) || (backToKw pos (keywordEach kws X.env)).any (·.1.isNone)) = false := by rfl) : PE X (.Call (.Name x p) [] kws pos) (tInsK X T W c ks.length pp t) := by
  refine ⟨fun pins s σ H Q I h => ?_⟩
  refine wpAny_Call_Name_kw (ld_glob I hg hm ?_ hdb)
  refine PySem.W.callWith_KW0 (h₀ := X.base) I.ok.mod.kin EM.M.kp hall ?_ hpl
  refine thn (hkw.run pos pins s σ H _ I h) fun ws s2 ⟨zs, H2, I2, rz, hl, q⟩ => ⟨I2.kIn, ?_⟩
  rw [hks]
  exact run_ins (us := []) C EM I2 (pick_vals pp rz) (fun s x kx => hb s x ws kx (rz.length.symm.trans hl)) q
def gIns (T : Tab) (c : Nat) : GA := fun ds st => if ds.length = (T.names c).length then some (.ok (.ins c ds), st) else none
def gInsK (T : Tab) (c m : Nat) (p : List Nat) : GA := fun ds => if ds.length = m then gIns T c (pick p ds) else fun _ => none
theorem ins_rp {c : Nat} {ws : List V} {ds : List D} {Q : VK} {σ : L2.St} (cl : Cls K (T.adr c)) (nd : (T.names c).Nodup) (ne : T.names c ≠ []) (no : ∀ n ∈ T.names c, NoAttr K (T.adr c) n) (is : T.isIns c = true) (s : RS T K ρ H st) (r : RpL T K ρ H ws ds) (hl : ds.length = (T.names c).length)
    (hp : ∀ v H' ρ', Evo ρ H ρ' H' → RS T K ρ' H' st → Rp T K ρ' H' v (.ins c ds) → Q v H') : IsAt K (T.adr c) (T.names c) ws W σ H Q := by
  intro x dx hx hdx hne
  have w := s.wf
  have hlw : ws.length = (T.names c).length := r.length.trans hl
  refine ⟨x, T.adr c, dx, ws, rfl, cl, no, upd_same, hlw, nd, ne, fun H' h1 h2 => ⟨rfl, ?_⟩⟩
  have old : ∀ b o, H b = some o → H' b = some o := fun b o q => by
    rw [h2 b (ne_of_none q hx), upd_ne (ne_of_none q hx), upd_ne (ne_of_none q hdx)]
    exact q
  have ev : Evo ρ H ρ H' := by
    refine ⟨⟨[], by simp, fun _ z => nomatch z⟩, rfl, fun b o q _ _ => old b o q, fun b q => ?_⟩
    by_cases hb : b = x
    · rw [hb]
      exact hx
    · by_cases hb2 : b = dx
      · rw [hb2]
        exact hdx
      · rw [h2 b hb, upd_ne hb, upd_ne hb2] at q
        exact q
  refine hp _ _ ρ ev (s.evoE ev old) (.ins is h1 ⟨fun z => ?_, fun z => ?_⟩ hlw (r.mono w ev))
  · obtain ⟨C, d, fs, q⟩ := w.me x z
    rw [hx] at q
    cases q
  · exact s.old x z hx
theorem m_ins {c : Nat} {fI : Addr} {fd : FuncData} {ps : List Str} {x : Str} {p pos : Pos} {ex : Expr} {es : List Expr} {fa : AF} (C : Ctx X W (k + 1)) (EM : InsMk X.prog X.w X.K X.mg X.base T k c fI fd ps) (hb : Binds X.K fd ps []) (hm : X.mg x = some (.ref (T.adr c)))
    (ha : PAM X W T (ex :: es) fa) (hg : Gl X x := by rfl) (hdb : (x == ("__debug__" : Str)) = false := by decide) (he : starEach (ex :: es) X.env = (false, eval ex X.env) :: starEach es X.env := by rfl) (hpl : (backTo pos (starEach es X.env)).any (·.1) = false := by rfl) :
    PEM X W T (.Call (.Name x p) (ex :: es) [] pos) (fCB (gIns T c) fa) := by
  obtain ⟨t, h1, h2⟩ := ha
  refine ⟨_, pe_ins C EM hb hg hm h1 hdb he hpl, ?_⟩
  intro ρ σ H Q e st res st' s en h hp
  refine h2.bind s en h hp fun vs ds ρ1 H1 st1 ev s1 en1 q1 h' hp1 => ?_
  unfold gIns at h'
  split at h'
  · rename_i hl
    cases h'
    exact ins_rp EM.cl EM.nd EM.ne EM.no EM.is s1 q1 hl hp1
  · cases h'
theorem m_insK {c : Nat} {fI : Addr} {fd : FuncData} {ps ks : List Str} {pp : List Nat} {x : Str} {p pos : Pos} {kws : List Keyword} {fa : AF} (C : Ctx X W (k + 1)) (EM : InsMk X.prog X.w X.K X.mg X.base T k c fI fd ps) (hb : BindK X.K fd ps ks pp) (hm : X.mg x = some (.ref (T.adr c)))
    (ha : PKM X W T kws fa) (hg : Gl X x := by rfl) (hall : (backToKw pos (keywordEach kws X.env)).all (·.1.isSome) = true := by rfl) (hks : (backToKw pos (keywordEach kws X.env)).filterMap (·.1) = ks := by rfl) (hdb : (x == ("__debug__" : Str)) = false := by decide)
    (hpl : ((backTo pos (starEach [] X.env)).any (·.1) || (backToKw pos (keywordEach kws X.env)).any (·.1.isNone)) = false := by rfl) :
    PEM X W T (.Call (.Name x p) [] kws pos) (fCB (gInsK T c ks.length pp) fa) := by
  obtain ⟨t, h1, h2⟩ := ha
  refine ⟨_, pe_insK C EM hb hg hm h1 hall hks hdb hpl, ?_⟩
  intro ρ σ H Q e st res st' s en h hp
  refine h2.bind s en h hp fun vs ds ρ1 H1 st1 ev s1 en1 q1 h' hp1 => ?_
  unfold gInsK at h'
  split at h'
  · rename_i hm
    unfold gIns at h'
    split at h'
    · rename_i hl
      cases h'
      exact ⟨by rw [q1.length]; exact hm, ins_rp EM.cl EM.nd EM.ne EM.no EM.is s1 (pick_rp pp q1) hl hp1⟩
    · cases h'
  · cases h'
end
/-! ### the promises of __init__s -/
section
variable {P : Program} {w : World} {K : PySem.W.Frag} {mg : Str → Option Value} {base : Heap} {T : Tab} {x qual : Str} {params : Arguments} {body : List Stmt} {scope : Scope} {f : Addr} {fd : FuncData} {N ps names : List Str}
abbrev FnD0 (K : PySem.W.Frag) (x qual : Str) (params : Arguments) (body : List Stmt) (scope : Scope) (f : Addr) (fd : FuncData) : Prop := FunD K x qual params body scope [] [] f fd
theorem bindK_of {ks : List Str} {pp : List Nat} (F : FnD0 K x qual params body scope f fd)
    (h : ∀ (kV doc pm : Value) (an : Option Addr) (cdv ct u : Value) (ws : List Value), ws.length = ks.length → bindArgs (PySem.W.fnOf x qual params body scope .none kV doc pm an cdv ct) ⟨[u], ks.zip ws⟩ = pure (ps.zip (u :: pick pp ws))) : BindK K fd ps ks pp := by
  obtain ⟨oc, od, dV, kV, doc, pm, an, cdv, ct, osl, rfl, lk, hcd, hD, hK⟩ := F.ex
  rcases hD with ⟨_, rfl⟩ | ⟨e, _⟩
  · intro s u ws X hl
    exact BindsTo.of_looks fun M => PySem.W.Looks.of_pure (h kV doc pm an cdv ct u ws hl)
  · exact absurd rfl e
theorem ok_initE (F : FnD0 K x qual params body scope f fd) (S : FnScope N ps scope) (hps : ps.length = names.length + 1) (hn : names.length ≤ 100) (hN : N.length = names.length + 1)
    (hbody : ∀ (cdv : Value) (A : Around) (outer : List PySem.Env) (s : Shared) (H : Hp) (E : XK), PSs (cxOf (L2.CX P w) P w K mg base N qual scope f cdv A outer s H E) body (tStores K names 1)) : FnOk P w K mg base (L2.CX P w) 1 f fd ps (spEr K names) := by
  refine F.ok S (fun vs H Q E h => ?_) fun cdv A outer s H vs Q E hr h => ⟨_, hbody cdv A outer s H E, init_ok h hn hN⟩
  obtain ⟨a, C, ws, rfl, _, _, _, hl, _⟩ := h
  rw [hps, List.length_cons, hl]
theorem ok_initH {z : Str} (F : FnD0 K x qual params body scope f fd) (S : FnScope N ps scope) (hps : ps.length = names.length + 1) (hn : names.length ≤ 100) (hN : N.length = names.length + 1)
    (hbody : ∀ (cdv : Value) (A : Around) (outer : List PySem.Env) (s : Shared) (H : Hp) (E : XK), PSs (cxOf (L2.CX P w) P w K mg base N qual scope f cdv A outer s H E) body (tSeq (tDrop (tVeI K (tCons (tVar 0) (tCons (tC (.str z)) tNil)))) (tStores K names 1))) : FnOk P w K mg base (L2.CX P w) 1 f fd ps (spEr K names) := by
  refine F.ok S (fun vs H Q E h => ?_) fun cdv A outer s H vs Q E hr h => ⟨_, hbody cdv A outer s H E, initH_ok h hn hN⟩
  obtain ⟨a, C, ws, rfl, _, _, _, hl, _⟩ := h
  rw [hps, List.length_cons, hl]
theorem ok_initH0 {z : Str} (F : FnD0 K x qual params body scope f fd) (S : FnScope N ps scope) (hps : ps.length = 1) (hN : N.length = 1)
    (hbody : ∀ (cdv : Value) (A : Around) (outer : List PySem.Env) (s : Shared) (H : Hp) (E : XK), PSs (cxOf (L2.CX P w) P w K mg base N qual scope f cdv A outer s H E) body (tDrop (tVeI K (tCons (tVar 0) (tCons (tC (.str z)) tNil))))) : FnOk P w K mg base (L2.CX P w) 1 f fd ps (spEr K []) := by
  refine F.ok S (fun vs H Q E h => ?_) fun cdv A outer s H vs Q E hr h => ⟨_, hbody cdv A outer s H E, initH0_ok h hN⟩
  obtain ⟨a, C, ws, rfl, _, _, _, hl, _⟩ := h
  rw [hps, List.length_cons, hl]
  rfl
theorem ok_initI (F : FnD0 K x qual params body scope f fd) (S : FnScope N ps scope) (hps : ps.length = names.length + 1) (hn : names.length ≤ 100) (hN : N.length = names.length + 1)
    (hbody : ∀ (cdv : Value) (A : Around) (outer : List PySem.Env) (s : Shared) (H : Hp) (E : XK), PSs (cxOf (L2.CX P w) P w K mg base N qual scope f cdv A outer s H E) body (tStoresI K names 1)) : FnOk P w K mg base (L2.CX P w) 1 f fd ps (spIn K names) := by
  refine F.ok S (fun vs H Q E h => ?_) fun cdv A outer s H vs Q E hr h => ⟨_, hbody cdv A outer s H E, initI_ok h hn hN⟩
  obtain ⟨a, C, dx, ws, rfl, _, _, _, hl, _⟩ := h
  rw [hps, List.length_cons, hl]
end
end Vm
/-! Vm12: defs with nothing let go; how the functions over plain data are worked out. -/
namespace Vm
open PySem PySem.Spec PyProof.Rows L2
/-- a def: so many names, the body; nothing is let go -/
def fnRunN (N : Nat) (b : SF) : FnF := fun ds st => match b (ds.map some ++ List.replicate (N - ds.length) none) st with
  | some (.nx _, st') => some (.ok .non, st')
  | some (.rt d, st') => some (.ok d, st')
  | some (.er _ x, st') => some (.error x, st')
  | _ => none
theorem okN {P : Program} {w : World} {K : PySem.W.Frag} {mg : Str → Option Value} {base : Heap} {T : Tab} {x qual : Str} {params : Arguments} {body : List Stmt} {scope : Scope} {dvs : List V} {kws : List (Str × V)} {f : Addr} {fd : FuncData} {N ps : List Str} {k : Nat} (b : SF)
    (F : FunD K x qual params body scope dvs kws f fd) (S : FnScope N ps scope) (hb : Binds K fd ps [])
    (hbody : ∀ (cdv : Value) (A : Around) (outer : List PySem.Env) (s : Shared) (H : Hp) (E : XK), Ctx (cxOf (L2.CX P w) P w K mg base N qual scope f cdv A outer s H E) (WD E) k →
      PSsM (cxOf (L2.CX P w) P w K mg base N qual scope f cdv A outer s H E) (WD E) T body b) : FnMd P w K mg base T (k + 1) f fd ps (fnRunN N.length b) := by
  refine ⟨F.ok S (fun vs H Q E h => ?_) (fun cdv A outer s H vs Q E hr h => ?_), hb, F.kp⟩
  · obtain ⟨ρ, ds, st, r, st', hl, s, rp, _⟩ := h
    rw [rp.length, hl]
  · have C : Ctx (cxOf (L2.CX P w) P w K mg base N qual scope f cdv A outer s H E) (WD E) k := ⟨takes_of rfl rfl rfl rfl, passes_of rfl, rfl, S.nd, hr⟩
    obtain ⟨t, pt, semt⟩ := hbody cdv A outer s H E C
    obtain ⟨ρ, ds, st, r, st', hl, rs, rp, hF, hp⟩ := h
    refine ⟨t, pt, ?_⟩
    unfold fnRunN at hF
    cases e1 : b (ds.map some ++ List.replicate (N.length - ds.length) none) st with
    | none =>
      rw [e1] at hF
      cases hF
    | some p =>
      obtain ⟨r1, st1⟩ := p
      rw [e1] at hF
      refine semt ρ (L2.start N vs) H _ _ st r1 st1 rs (start_env rp) e1 ?_
      cases r1 with
      | nx e' =>
        cases hF
        exact fun σ' H' ρ' ev s' _ => hp .non H' ρ' ev s' .non
      | rt d =>
        cases hF
        exact hp
      | er e' x =>
        cases hF
        exact fun σ' cls dx H' ρ' ev s' _ q => hp cls dx H' ρ' ev s' q
      | bk e' => cases hF
      | ct e' => cases hF
/-! ### worked out -/
def Wx {α : Type} (x : M α) (st : Sto) (Q : α → Sto → Prop) : Prop := ∃ a st', x st = some (.ok a, st') ∧ Q a st'
def Ws (s : SF) (e : Env) (st : Sto) (Q : SR → Sto → Prop) : Prop := ∃ r st', s e st = some (r, st') ∧ Q r st'
def push (st : Sto) (ds : List D) : Sto := { st with l := st.l ++ [ds] }
def At (st : Sto) (p : Nat) (ds : List D) : Prop := st.l[p]? = some ds
section
variable {α β : Type} {T : Tab} {st st1 : Sto} {e : Env} {i p : Nat} {d : D} {ds as bs : List D} {f g h : EF} {fa : AF} {tf tg : TF} {Q : D → Sto → Prop} {QB : Bool → Sto → Prop} {QL : List D → Sto → Prop} {QS : SR → Sto → Prop}
theorem Wx.imp {x : M α} {Q Q' : α → Sto → Prop} (w : Wx x st Q) (h : ∀ a st', Q a st' → Q' a st') : Wx x st Q' := by
  obtain ⟨a, st', e, q⟩ := w
  exact ⟨a, st', e, h a st' q⟩
theorem Ws.imp {s : SF} {Q Q' : SR → Sto → Prop} (w : Ws s e st Q) (h : ∀ a st', Q a st' → Q' a st') : Ws s e st Q' := by
  obtain ⟨a, st', e, q⟩ := w
  exact ⟨a, st', e, h a st' q⟩
theorem wx_ret {a : α} {Q : α → Sto → Prop} (h : Q a st) : Wx (mret a) st Q := ⟨a, st, rfl, h⟩
theorem wx_bind {x : M α} {k : α → M β} {Q : β → Sto → Prop} (h : Wx x st fun a st1 => Wx (k a) st1 Q) : Wx (mbind x k) st Q := by
  obtain ⟨a, st1, e1, b, st2, e2, q⟩ := h
  refine ⟨b, st2, ?_, q⟩
  unfold mbind
  rw [e1]
  exact e2
theorem wx_var (he : e[i]? = some (some d)) (hd : d ≠ .self) (h : Q d st) : Wx (fVar i e) st Q := by
  refine ⟨d, st, ?_, h⟩
  unfold fVar
  rw [he]
  cases d <;> first | rfl | exact absurd rfl hd
theorem wx_c (h : Q d st) : Wx (fC d e) st Q := ⟨d, st, rfl, h⟩
theorem wx_nil (h : QL [] st) : Wx (fNil e) st QL := ⟨[], st, rfl, h⟩
theorem wx_cons (h : Wx (f e) st fun d st1 => Wx (fa e) st1 fun ds st2 => QL (d :: ds) st2) : Wx (fCons f fa e) st QL := wx_bind (h.imp fun d st1 h1 => wx_bind (h1.imp fun ds st2 h2 => wx_ret h2))
theorem wx_op {gg : G2} (h : Wx (f e) st fun x st1 => Wx (g e) st1 fun y st2 => Wx (gg x y) st2 Q) : Wx (fOp gg f g e) st Q := wx_bind (h.imp fun x st1 h1 => wx_bind h1)
theorem wx_cb {gg : GA} (h : Wx (fa e) st fun ds st1 => Wx (gg ds) st1 Q) : Wx (fCB gg fa e) st Q := wx_bind h
theorem wx_tup (h : Wx (fa e) st fun ds st1 => ds.length ≤ bnd ∧ Q (.tup ds) st1) : Wx (fTup fa e) st Q := wx_bind (h.imp fun ds st1 ⟨h1, h2⟩ => ⟨.tup ds, st1, by show (if ds.length ≤ bnd then _ else _) = _; rw [if_pos h1], h2⟩)
theorem wx_alloc (h : Q (.ptr st.l.length) (push st ds)) : Wx (alloc ds) st Q := ⟨_, _, rfl, h⟩
theorem wx_lst (h : Wx (fa e) st fun ds st1 => ds.length ≤ bnd ∧ Q (.ptr st1.l.length) (push st1 ds)) : Wx (fLst fa e) st Q := wx_bind (h.imp fun ds st1 ⟨h1, h2⟩ => ⟨_, _, by show (if ds.length ≤ bnd then _ else _) = _; rw [if_pos h1]; rfl, h2⟩)
/-! operators -/
theorem wx_addI {a b : Int} (h : Q (.int (a + b)) st) : Wx (gAdd (.int a) (.int b)) st Q := ⟨_, _, rfl, h⟩
theorem wx_addS {a b : Str} (hl : a.length + b.length ≤ bnd) (h : Q (.str (a ++ b)) st) : Wx (gAdd (.str a) (.str b)) st Q := ⟨_, _, by show (if a.length + b.length ≤ bnd then _ else _) = _; rw [if_pos hl], h⟩
theorem wx_addL {n m : Nat} (h1 : At st n as) (h2 : At st m bs) (hl : as.length + bs.length ≤ bnd) (h : Q (.ptr st.l.length) (push st (as ++ bs))) : Wx (gAdd (.ptr n) (.ptr m)) st Q := by
  refine ⟨_, _, ?_, h⟩
  have h1' : st.l[n]? = some as := h1
  have h2' : st.l[m]? = some bs := h2
  show (match st.l[n]?, st.l[m]? with
    | some a, some b => if a.length + b.length ≤ bnd then alloc (a ++ b) st else none
    | _, _ => none) = _
  rw [h1', h2']
  dsimp only
  rw [if_pos hl]
  rfl
theorem wx_sub {a b : Int} (h : Q (.int (a - b)) st) : Wx (gMinus (.int a) (.int b)) st Q := ⟨_, _, rfl, h⟩
theorem wx_I {gi : Int → Int → Option D} {a b : Int} (e : gi a b = some d) (h : Q d st) : Wx (gI gi (.int a) (.int b)) st Q := ⟨d, st, by show (gi a b).map _ = _; rw [e]; rfl, h⟩
theorem wx_mul {a b : Int} (m : mulOk a b = true) (h : Q (.int (a * b)) st) : Wx (gMul (.int a) (.int b)) st Q := wx_I (if_pos m) h
theorem wx_div {a b : Int} (m : divOk b = true) (h : Q (.int (a / b)) st) : Wx (gDiv (.int a) (.int b)) st Q := wx_I (if_pos m) h
theorem wx_mod {a b : Int} (m : 0 < b) (h : Q (.int (a % b)) st) : Wx (gMod (.int a) (.int b)) st Q := wx_I (if_pos m) h
theorem wx_pow {a b : Int} (m : powOk a b = true) (h : Q (.int (a ^ b.toNat)) st) : Wx (gPow (.int a) (.int b)) st Q := wx_I (if_pos m) h
theorem wx_cmp {pp : Int → Int → Bool} {a b : Int} (h : Q (.bl (pp a b)) st) : Wx (gCmp pp (.int a) (.int b)) st Q := wx_I rfl h
theorem wx_eq {et : EqT} {neg b : Bool} {x y : D} (hx : ∀ c ds, x ≠ .ins c ds) (he : eqPD neg st x y = some b) (h : Q (.bl b) st) : Wx (gEq T et neg x y) st Q := by
  refine ⟨_, st, ?_, h⟩
  have e : gEq T et neg x y st = (eqPD neg st x y).map fun b => (.ok (.bl b), st) := by
    cases x <;> first | rfl | exact absurd rfl (hx _ _)
  rw [e, he]
  rfl
theorem wx_eqI {et : EqT} {neg b : Bool} {c c2 : Nat} {es : List D} {F : FnF} (hF : et c = some F) (ht : c2 = c ∨ T.isi (.ins c2) (.own c) = some false) (h : Wx (F [.ins c ds, .ins c2 es]) st fun d st1 => d = .bl b ∧ Q (.bl (if neg then !b else b)) st1) : Wx (gEq T et neg (.ins c ds) (.ins c2 es)) st Q := by
  obtain ⟨d, st1, e, rfl, q⟩ := h
  refine ⟨_, st1, ?_, q⟩
  unfold gEq
  dsimp only [D.ty]
  rw [hF]
  dsimp only
  rw [if_pos (by rcases ht with rfl | ht; exact .inl rfl; exact .inr ht), e]
theorem wx_ixL {n : Nat} {k : Int} (h1 : At st n ds) (h2 : atI ds k = some d) (h : Q d st) : Wx (gIx (.ptr n) (.int k)) st Q := by
  refine ⟨_, _, ?_, h⟩
  have h1' : st.l[n]? = some ds := h1
  unfold gIx
  dsimp only
  rw [h1']
  dsimp only
  rw [h2]
  rfl
theorem wx_ixT {k : Int} (h2 : atI ds k = some d) (h : Q d st) : Wx (gIx (.tup ds) (.int k)) st Q := by
  refine ⟨_, _, ?_, h⟩
  unfold gIx
  dsimp only
  rw [h2]
  rfl
theorem wx_fldE {c j : Nat} {n : Str} (h1 : nmIx (T.names c) n = some j) (h2 : ds[j]? = some d) (h : Q d st) : Wx (gFld T n (.err c ds)) st Q := by
  refine ⟨_, st, ?_, h⟩
  unfold gFld
  dsimp only
  rw [h1]
  dsimp only
  rw [h2]
theorem wx_fldI {c j : Nat} {n : Str} (h1 : nmIx (T.names c) n = some j) (h2 : ds[j]? = some d) (h : Q d st) : Wx (gFld T n (.ins c ds)) st Q := by
  refine ⟨_, st, ?_, h⟩
  unfold gFld
  dsimp only
  rw [h1]
  dsimp only
  rw [h2]
theorem wx_fld {n : Str} (h : Wx (f e) st fun d st1 => Wx (gFld T n d) st1 Q) : Wx (fFld T n f e) st Q := wx_bind h
theorem wx_isD {c : Cl} {t : Ty} {b : Bool} (h : Wx (f e) st fun d st1 => d.ty = some t ∧ T.isi t c = some b ∧ Q (.bl b) st1) : Wx (fIsD T c f e) st Q := wx_bind (h.imp fun d st1 ⟨h1, h2, h3⟩ => ⟨_, _, by dsimp only; rw [h1]; dsimp only; rw [h2]; rfl, h3⟩)
theorem wx_gErr {c : Nat} (hl : ds.length = (T.names c).length) (hb : ds.length ≤ 1000) (h : Q (.err c ds) st) : Wx (gErr T c ds) st Q := ⟨_, _, if_pos ⟨hl, hb⟩, h⟩
theorem wx_gErrK {c m : Nat} {pp : List Nat} (hm : ds.length = m) (hl : (pick pp ds).length = (T.names c).length) (hb : (pick pp ds).length ≤ 1000) (h : Q (.err c (pick pp ds)) st) : Wx (gErrK T c m pp ds) st Q := by
  unfold gErrK
  rw [if_pos hm]
  exact wx_gErr hl hb h
theorem wx_gIns {c : Nat} (hl : ds.length = (T.names c).length) (h : Q (.ins c ds) st) : Wx (gIns T c ds) st Q := ⟨_, _, if_pos hl, h⟩
theorem wx_gInsK {c m : Nat} {pp : List Nat} (hm : ds.length = m) (hl : (pick pp ds).length = (T.names c).length) (h : Q (.ins c (pick pp ds)) st) : Wx (gInsK T c m pp ds) st Q := by
  unfold gInsK
  rw [if_pos hm]
  exact wx_gIns hl h
theorem wx_call {n : Nat} {F : FnF} (hl : ds.length = n) (h : Wx (F ds) st Q) : Wx (gCall n F ds) st Q := by
  unfold gCall
  obtain ⟨a, st', e, q⟩ := h
  exact ⟨a, st', by dsimp only; rw [if_pos hl]; exact e, q⟩
theorem wx_lenL {n : Nat} (h1 : At st n ds) (h : Q (.int ds.length) st) : Wx (gLen [.ptr n]) st Q := by
  refine ⟨_, st, ?_, h⟩
  have h1' : st.l[n]? = some ds := h1
  show (match st.l[n]? with
    | some l => some (Except.ok (D.int l.length), st)
    | none => none) = _
  rw [h1']
theorem wx_int {k : Int} (h : Q (.int k) st) : Wx (gInt [.int k]) st Q := ⟨_, _, rfl, h⟩
theorem wx_listL {n : Nat} (h1 : At st n ds) (h : Q (.ptr st.l.length) (push st ds)) : Wx (gList [.ptr n]) st Q := by
  refine ⟨_, _, ?_, h⟩
  have h1' : st.l[n]? = some ds := h1
  show (match st.l[n]? with
    | some l => alloc l st
    | none => none) = _
  rw [h1']
  rfl
theorem wx_tupL {n : Nat} (h1 : At st n ds) (h : Q (.tup ds) st) : Wx (gTuple [.ptr n]) st Q := by
  refine ⟨_, _, ?_, h⟩
  have h1' : st.l[n]? = some ds := h1
  show (match st.l[n]? with
    | some l => some (Except.ok (D.tup l), st)
    | none => none) = _
  rw [h1']
theorem wx_app {n : Nat} (h : Wx (f e) st fun x st1 => x = .ptr n ∧ Wx (g e) st1 fun y st2 => At st2 n ds ∧ ds.length < bnd ∧ Q .non { st2 with l := st2.l.set n (ds ++ [y]) }) : Wx (fApp f g e) st Q := by
  refine wx_bind (h.imp ?_)
  rintro x st1 ⟨rfl, h⟩
  refine wx_bind (h.imp ?_)
  rintro y st2 ⟨h1, h2, h3⟩
  refine ⟨_, _, ?_, h3⟩
  have h1' : st2.l[n]? = some ds := h1
  dsimp only
  rw [h1']
  dsimp only
  rw [if_pos h2]
theorem wx_fB (h : Wx (f e) st fun d st1 => ∃ b, d = .bl b ∧ QB b st1) : Wx (fB f e) st QB := wx_bind (h.imp fun d st1 ⟨b, e, q⟩ => by subst e; exact wx_ret q)
theorem wx_and (h : Wx (tf e) st fun b st1 => if b = true then Wx (tg e) st1 QB else QB false st1) : Wx (fAnd tf tg e) st QB := wx_bind (h.imp fun b st1 h1 => by cases b; exact wx_ret (by simpa using h1); exact by simpa using h1)
theorem wx_or (h : Wx (tf e) st fun b st1 => if b = true then QB true st1 else Wx (tg e) st1 QB) : Wx (fOr tf tg e) st QB := wx_bind (h.imp fun b st1 h1 => by
  cases b with
  | false => exact by simpa using h1
  | true =>
    rw [if_pos rfl] at h1 ⊢
    exact wx_ret h1)
theorem wx_not (h : Wx (tf e) st fun b st1 => QB (!b) st1) : Wx (fNot tf e) st QB := wx_bind (h.imp fun b st1 h1 => wx_ret h1)
theorem wx_andV (h : Wx (f e) st fun d st1 => ∃ b, d = .bl b ∧ if b = true then Wx (g e) st1 Q else Q (.bl false) st1) : Wx (fAndV f g e) st Q := wx_bind (h.imp fun d st1 ⟨b, e, q⟩ => by
  subst e
  cases b
  · exact wx_ret (by simpa using q)
  · exact by simpa using q)
theorem wx_notV (h : Wx (f e) st fun d st1 => ∃ b, d = .bl b ∧ Q (.bl (!b)) st1) : Wx (fNotV f e) st Q := wx_bind (h.imp fun d st1 ⟨b, e, q⟩ => by subst e; exact wx_ret q)
/-! statements -/
theorem ws_bind {x : M α} {k : α → Sto → Option (SR × Sto)} (h : Wx x st fun a st1 => ∃ r st', k a st1 = some (r, st') ∧ QS r st') : ∃ r st', sbind x e k st = some (r, st') ∧ QS r st' := by
  obtain ⟨a, st1, e1, r, st2, e2, q⟩ := h
  refine ⟨r, st2, ?_, q⟩
  unfold sbind
  rw [e1]
  exact e2
theorem ws_asg {i : Nat} (h : Wx (f e) st fun d st1 => QS (.nx (e.set i (some d))) st1) : Ws (sAsg f (gN i)) e st QS := ws_bind (h.imp fun d st1 q => ⟨_, _, rfl, q⟩)
theorem ws_ret (h : Wx (f e) st fun d st1 => QS (.rt d) st1) : Ws (sRet f) e st QS := ws_bind (h.imp fun d st1 q => ⟨_, _, rfl, q⟩)
theorem ws_expr (h : Wx (f e) st fun d st1 => QS (.nx e) st1) : Ws (sExpr f) e st QS := ws_bind (h.imp fun d st1 q => ⟨_, _, rfl, q⟩)
theorem ws_pass (h : QS (.nx e) st) : Ws sPass e st QS := ⟨_, _, rfl, h⟩
theorem ws_if {a b : SF} (h : Wx (tf e) st fun c st1 => if c = true then Ws a e st1 QS else Ws b e st1 QS) : Ws (sIf tf a b) e st QS := ws_bind (h.imp fun c st1 q => by
  cases c
  · exact by simpa [Ws] using q
  · exact by simpa [Ws] using q)
def thenS (b : SF) (QS : SR → Sto → Prop) : SR → Sto → Prop := fun r st => match r with
  | .nx e => Ws b e st QS
  | r => QS r st
theorem ws_seq {a b : SF} (h : Ws a e st (thenS b QS)) : Ws (sSeq a b) e st QS := by
  obtain ⟨r, st1, e1, q⟩ := h
  unfold Ws sSeq
  rw [e1]
  cases r with
  | nx e' => exact q
  | rt d => exact ⟨_, _, rfl, q⟩
  | bk e' => exact ⟨_, _, rfl, q⟩
  | ct e' => exact ⟨_, _, rfl, q⟩
  | er e' x => exact ⟨_, _, rfl, q⟩
theorem ws_set {fv : EF} {n m : Nat} {k : Int} (h0 : Wx (fv e) st fun v st1 => Wx (f e) st1 fun o st2 => o = .ptr n ∧ Wx (g e) st2 fun j st3 => j = .int k ∧ At st3 n ds ∧ ixN ds.length k = some m ∧ QS (.nx e) { st3 with l := st3.l.set n (ds.set m v) }) : Ws (sSet f g fv) e st QS := by
  refine ws_bind (h0.imp fun v st1 h1 => ws_bind (h1.imp ?_))
  rintro o st2 ⟨rfl, h2⟩
  refine ws_bind (h2.imp ?_)
  rintro j st3 ⟨rfl, a1, a2, q⟩
  refine ⟨_, _, ?_, q⟩
  have a1' : st3.l[n]? = some ds := a1
  dsimp only
  rw [a1']
  dsimp only
  rw [a2]
theorem wx_fn {N : Nat} {b : SF} (h : Ws b (ds.map some ++ List.replicate (N - ds.length) none) st fun r st1 => match r with
    | .nx _ => Q .non st1
    | .rt d => Q d st1
    | _ => False) : Wx (fnRunN N b ds) st Q := by
  obtain ⟨r, st1, e1, q⟩ := h
  unfold Wx fnRunN
  rw [e1]
  cases r with
  | nx e' => exact ⟨_, _, rfl, q⟩
  | rt d => exact ⟨_, _, rfl, q⟩
  | bk e' => exact q.elim
  | ct e' => exact q.elim
  | er e' x => exact q.elim
/-! walks -/
theorem ws_for {fi : IF} {gf : GF} {b : SF} (h : Wx (fi e) st fun it st1 => Ws (fLoop it gf b (itLen it st1) 0) e st1 QS) : Ws (sFor fi gf b) e st QS := ws_bind h
theorem wx_rng1 {j : Int} {QI : ItD → Sto → Prop} (h : Wx (fa e) st fun ds st1 => ds = [.int j] ∧ rngOk j = true ∧ QI (.rng 0 j.toNat) st1) : Wx (fRng1 fa e) st QI := wx_bind (h.imp fun ds st1 ⟨e1, e2, q⟩ => ⟨_, _, by subst e1; dsimp only; rw [if_pos e2]; rfl, q⟩)
/-- a for over range(n), with a word -/
theorem ws_rng {b : SF} {i n : Nat} (I : Nat → Env → Sto → Prop) (hb : ∀ k e st, k < n → I k e st → Ws b (e.set i (some (.int (k : Nat)))) st fun r st' => match r with
    | .nx e' => I (k + 1) e' st'
    | .rt d => QS (.rt d) st'
    | _ => False) (hq : ∀ e st, I n e st → QS (.nx e) st) : ∀ (m k : Nat) (e : Env) (st : Sto), m + k = n → I k e st → Ws (fLoop (.rng 0 n) (gN i) b m k) e st QS := by
  intro m
  induction m with
  | zero =>
    intro k e st hk hI
    have hk' : k = n := by omega
    subst hk'
    refine ⟨.nx e, st, ?_, hq e st hI⟩
    show (match (if k < k then some (some (D.int (0 + (k : Int)))) else some none) with
      | some none => some (SR.nx e, st)
      | _ => none) = _
    rw [if_neg (Nat.lt_irrefl _)]
  | succ m ih =>
    intro k e st hk hI
    have hlt : k < n := by omega
    have step : fLoop (.rng 0 n) (gN i) b (m + 1) k e st = match b (e.set i (some (.int (k : Nat)))) st with
        | some (.nx e2, st2) => fLoop (.rng 0 n) (gN i) b m (k + 1) e2 st2
        | some (.ct e2, st2) => fLoop (.rng 0 n) (gN i) b m (k + 1) e2 st2
        | some (.bk e2, st2) => some (.nx e2, st2)
        | r => r := by
      show (match (if k < n then some (some (D.int (0 + (k : Int)))) else some none) with
        | some none => some (SR.nx e, st)
        | some (some d) => match gN i d e with
          | none => none
          | some e1 => match b e1 st with
            | some (.nx e2, st2) => fLoop (.rng 0 n) (gN i) b m (k + 1) e2 st2
            | some (.ct e2, st2) => fLoop (.rng 0 n) (gN i) b m (k + 1) e2 st2
            | some (.bk e2, st2) => some (.nx e2, st2)
            | r => r
        | none => none) = _
      rw [if_pos hlt]
      dsimp only [gN]
      rw [Int.zero_add]
    obtain ⟨r, st1, e1, q⟩ := hb k e st hlt hI
    unfold Ws
    rw [step, e1]
    cases r with
    | nx e' => exact ih (k + 1) e' st1 (by omega) q
    | rt d => exact ⟨_, _, rfl, q⟩
    | bk e' => exact q.elim
    | ct e' => exact q.elim
    | er e' x => exact q.elim
/-- a comprehension over range(n) -/
theorem wx_lcR {fi : IF} {el : EF} {i : Nat} {n : Nat} (I : Nat → List D → Sto → Prop) (hi : Wx (fi e) st fun it st2 => it = .rng 0 n ∧ n < bnd ∧ I 0 [] st2)
    (hb : ∀ k acc st, k < n → I k acc st → Wx (el ((e.set i none).set i (some (.int (k : Nat))))) st fun d st' => I (k + 1) (acc ++ [d]) st') (hq : ∀ acc st1, I n acc st1 → Q (.ptr st1.l.length) (push st1 acc)) : Wx (fLc fi (gN i) (fun _ => mret true) el [i] e) st Q := by
  refine wx_bind (hi.imp ?_)
  rintro it st1 ⟨rfl, hn, h0⟩
  have go : ∀ (m k : Nat) (acc : List D) (st : Sto), m + k = n → acc.length = k → I k acc st → ∃ acc' st', cLoop (.rng 0 n) (gN i) (fun _ => mret true) el (e.set i none) m k acc st = some (acc', st') ∧ I n acc' st' := by
    intro m
    induction m with
    | zero =>
      intro k acc st hk hl hI
      have hk' : k = n := by omega
      subst hk'
      refine ⟨acc, st, ?_, hI⟩
      show (match (if k < k then some (some (D.int (0 + (k : Int)))) else some none) with
        | some none => some (acc, st)
        | _ => none) = _
      rw [if_neg (Nat.lt_irrefl _)]
    | succ m ih =>
      intro k acc st hk hl hI
      have hlt : k < n := by omega
      obtain ⟨y, st2, e1, q⟩ := hb k acc st hlt hI
      obtain ⟨acc', st', e2, q2⟩ := ih (k + 1) (acc ++ [y]) st2 (by omega) (by simp [hl]) q
      refine ⟨acc', st', ?_, q2⟩
      rw [← e2]
      show (match (if k < n then some (some (D.int (0 + (k : Int)))) else some none) with
        | some none => some (acc, st)
        | some (some d) => match gN i d (e.set i none) with
          | none => none
          | some e1 => match (mret true : M Bool) st with
            | some (.ok true, st1) => match el e1 st1 with
              | some (.ok y, st2) => if acc.length < bnd then cLoop (.rng 0 n) (gN i) (fun _ => mret true) el (e.set i none) m (k + 1) (acc ++ [y]) st2 else none
              | _ => none
            | some (.ok false, st1) => cLoop (.rng 0 n) (gN i) (fun _ => mret true) el (e.set i none) m (k + 1) acc st1
            | _ => none
        | none => none) = _
      rw [if_pos hlt]
      dsimp only [gN, mret]
      rw [Int.zero_add, e1]
      dsimp only
      rw [if_pos (by omega)]
  obtain ⟨acc, st2, e1, q⟩ := go n 0 [] st1 (by omega) rfl h0
  refine ⟨_, _, ?_, hq acc st2 q⟩
  show (match cLoop (.rng 0 n) (gN i) (fun _ => mret true) el (wipeE e [i]) n 0 [] st1 with
    | some (acc, st') => alloc acc st'
    | none => none) = _
  rw [show wipeE e [i] = e.set i none from rfl, e1]
  rfl
end
/-! ### the store goes on -/
def Sub (st st' : Sto) : Prop := ∃ g, st'.l = st.l ++ g
theorem Sub.refl (st : Sto) : Sub st st := ⟨[], by simp⟩
theorem Sub.trans {a b c : Sto} (h1 : Sub a b) (h2 : Sub b c) : Sub a c := by
  obtain ⟨g, e⟩ := h1
  obtain ⟨g2, e2⟩ := h2
  exact ⟨g ++ g2, by rw [e2, e, List.append_assoc]⟩
theorem Sub.push (st : Sto) (ds : List D) : Sub st (push st ds) := ⟨[ds], rfl⟩
theorem At.sub {st st' : Sto} {p : Nat} {ds : List D} (h : At st p ds) (s : Sub st st') : At st' p ds := by
  obtain ⟨g, e⟩ := s
  unfold At at h ⊢
  rw [e, List.getElem?_append_left (List.getElem?_eq_some_iff.mp h).1]
  exact h
theorem At.new (st : Sto) (ds : List D) : At (push st ds) st.l.length ds := by
  unfold At push
  simp
theorem At.push {st : Sto} {p : Nat} {ds es : List D} (h : At st p ds) : At (push st es) p ds := h.sub (Sub.push st es)
theorem At.lt {st : Sto} {p : Nat} {ds : List D} (h : At st p ds) : p < st.l.length := (List.getElem?_eq_some_iff.mp h).1
end Vm
/-! Wk1: what each def does on plain data. -/
noncomputable section
namespace Wk
open PySem PySem.Spec PyProof.Rows L2 Vm He
def gLt : G2 := gCmp fun i j => decide (i < j)
def gLe : G2 := gCmp fun i j => decide (i ≤ j)
def gGt : G2 := gCmp fun i j => decide (j < i)
def gGe : G2 := gCmp fun i j => decide (j ≤ i)
def et0 : EqT := fun _ => none

def beq40 (T : Tab) : SF := (sRet (fAndV (fIsD T (.own 40) (fVar 1)) (fOp (gEq T et0 false) (fTup (fCons (fFld T "plant" (fVar 0)) (fCons (fFld T "start" (fVar 0)) (fCons (fFld T "silent" (fVar 0)) (fCons (fFld T "other" (fVar 0)) fNil))))) (fTup (fCons (fFld T "plant" (fVar 1)) (fCons (fFld T "start" (fVar 1)) (fCons (fFld T "silent" (fVar 1)) (fCons (fFld T "other" (fVar 1)) fNil))))))))
def Feq40 (T : Tab) : FnF := fnRunN 2 (beq40 T)
def beq41 (T : Tab) : SF := (sRet (fAndV (fIsD T (.own 41) (fVar 1)) (fAndV (fOp (gEq T et0 false) (fFld T "point" (fVar 0)) (fFld T "point" (fVar 1))) (fOp (gEq T et0 false) (fFld T "weights" (fVar 0)) (fFld T "weights" (fVar 1))))))
def Feq41 (T : Tab) : FnF := fnRunN 2 (beq41 T)
def beq42 (T : Tab) : SF := (sRet (fAndV (fIsD T (.own 42) (fVar 1)) (fOp (gEq T et0 false) (fFld T "weights" (fVar 0)) (fFld T "weights" (fVar 1)))))
def Feq42 (T : Tab) : FnF := fnRunN 2 (beq42 T)
def beq43 (T : Tab) : SF := (sRet (fAndV (fIsD T (.own 43) (fVar 1)) (fAndV (fOp (gEq T et0 false) (fFld T "point" (fVar 0)) (fFld T "point" (fVar 1))) (fOp (gEq T et0 false) (fFld T "ray" (fVar 0)) (fFld T "ray" (fVar 1))))))
def Feq43 (T : Tab) : FnF := fnRunN 2 (beq43 T)
def beq44 (T : Tab) : SF := (sRet (fAndV (fIsD T (.own 44) (fVar 1)) (fAndV (fOp (gEq T et0 false) (fFld T "box" (fVar 0)) (fFld T "box" (fVar 1))) (fOp (gEq T et0 false) (fFld T "inputs" (fVar 0)) (fFld T "inputs" (fVar 1))))))
def Feq44 (T : Tab) : FnF := fnRunN 2 (beq44 T)
def beq45 (T : Tab) : SF := (sRet (fAndV (fIsD T (.own 45) (fVar 1)) (fOp (gEq T et0 false) (fTup (fCons (fFld T "space" (fVar 0)) (fCons (fFld T "rows" (fVar 0)) fNil))) (fTup (fCons (fFld T "space" (fVar 1)) (fCons (fFld T "rows" (fVar 1)) fNil))))))
def Feq45 (T : Tab) : FnF := fnRunN 2 (beq45 T)
def beq46 (T : Tab) : SF := (sRet (fAndV (fIsD T (.own 46) (fVar 1)) (fAndV (fOp (gEq T et0 false) (fFld T "begin" (fVar 0)) (fFld T "begin" (fVar 1))) (fAndV (fOp (gEq T et0 false) (fFld T "end" (fVar 0)) (fFld T "end" (fVar 1))) (fOp (gEq T et0 false) (fFld T "why" (fVar 0)) (fFld T "why" (fVar 1)))))))
def Feq46 (T : Tab) : FnF := fnRunN 2 (beq46 T)
def beq47 (T : Tab) : SF := (sRet (fAndV (fIsD T (.own 47) (fVar 1)) (fOp (gEq T et0 false) (fTup (fCons (fFld T "plant" (fVar 0)) (fCons (fFld T "rows" (fVar 0)) (fCons (fFld T "table" (fVar 0)) fNil)))) (fTup (fCons (fFld T "plant" (fVar 1)) (fCons (fFld T "rows" (fVar 1)) (fCons (fFld T "table" (fVar 1)) fNil)))))))
def Feq47 (T : Tab) : FnF := fnRunN 2 (beq47 T)
def beq48 (T : Tab) : SF := (sSeq (sIf (fOr (fNot (fB (fIsD T (.own 48) (fVar 1)))) (fOr (fB (fOp (gEq T et0 true) (fFld T "state" (fVar 0)) (fFld T "state" (fVar 1)))) (fB (fOp (gEq T et0 true) (fFld T "parts" (fVar 0)) (fFld T "parts" (fVar 1))))))
 (sRet (fC (.bl false))) sPass)
 (sRet (fAndV (fOp (gEq T et0 false) (fFld T "low" (fVar 0)) (fFld T "low" (fVar 1))) (fOp (gEq T et0 false) (fFld T "high" (fVar 0)) (fFld T "high" (fVar 1))))))
def Feq48 (T : Tab) : FnF := fnRunN 2 (beq48 T)
def beq49 (T : Tab) : SF := (sSeq (sIf (fOr (fNot (fB (fIsD T (.own 49) (fVar 1)))) (fOr (fB (fOp (gEq T et0 true) (fFld T "value" (fVar 0)) (fFld T "value" (fVar 1)))) (fB (fOp (gEq T et0 true) (fFld T "lot" (fVar 0)) (fFld T "lot" (fVar 1))))))
 (sRet (fC (.bl false))) sPass)
 (sRet (fAndV (fOp (gEq T et0 false) (fFld T "plant" (fVar 0)) (fFld T "plant" (fVar 1))) (fOp (gEq T et0 false) (fFld T "ray" (fVar 0)) (fFld T "ray" (fVar 1))))))
def Feq49 (T : Tab) : FnF := fnRunN 2 (beq49 T)
def beq50 (T : Tab) : SF := (sRet (fAndV (fIsD T (.own 50) (fVar 1)) (fAndV (fOp (gEq T et0 false) (fFld T "low" (fVar 0)) (fFld T "low" (fVar 1))) (fOp (gEq T et0 false) (fFld T "high" (fVar 0)) (fFld T "high" (fVar 1))))))
def Feq50 (T : Tab) : FnF := fnRunN 2 (beq50 T)
def beq51 (T : Tab) : SF := (sSeq (sIf (fOr (fNot (fB (fIsD T (.own 51) (fVar 1)))) (fOr (fB (fOp (gEq T et0 true) (fFld T "lot" (fVar 0)) (fFld T "lot" (fVar 1)))) (fB (fOp (gEq T et0 true) (fFld T "plant" (fVar 0)) (fFld T "plant" (fVar 1))))))
 (sRet (fC (.bl false))) sPass)
 (sRet (fAndV (fOp (gEq T et0 false) (fFld T "state" (fVar 0)) (fFld T "state" (fVar 1))) (fOp (gEq T et0 false) (fFld T "side" (fVar 0)) (fFld T "side" (fVar 1))))))
def Feq51 (T : Tab) : FnF := fnRunN 2 (beq51 T)
def beq52 (T : Tab) : SF := (sRet (fAndV (fIsD T (.own 52) (fVar 1)) (fAndV (fOp (gEq T et0 false) (fFld T "place" (fVar 0)) (fFld T "place" (fVar 1))) (fOp (gEq T et0 false) (fFld T "side" (fVar 0)) (fFld T "side" (fVar 1))))))
def Feq52 (T : Tab) : FnF := fnRunN 2 (beq52 T)
def beq53 (T : Tab) : SF := (sSeq (sIf (fOr (fNot (fB (fIsD T (.own 53) (fVar 1)))) (fB (fOp (gEq T et0 true) (fFld T "corner" (fVar 0)) (fFld T "corner" (fVar 1)))))
 (sRet (fC (.bl false))) sPass)
 (sRet (fAndV (fOp (gEq T et0 false) (fFld T "blows" (fVar 0)) (fFld T "blows" (fVar 1))) (fOp (gEq T et0 false) (fFld T "weights" (fVar 0)) (fFld T "weights" (fVar 1))))))
def Feq53 (T : Tab) : FnF := fnRunN 2 (beq53 T)
def beq54 (T : Tab) : SF := (sRet (fAndV (fIsD T (.own 54) (fVar 1)) (fOp (gEq T et0 false) (fTup (fCons (fFld T "puts" (fVar 0)) (fCons (fFld T "states" (fVar 0)) (fCons (fFld T "space" (fVar 0)) (fCons (fFld T "table" (fVar 0)) fNil))))) (fTup (fCons (fFld T "puts" (fVar 1)) (fCons (fFld T "states" (fVar 1)) (fCons (fFld T "space" (fVar 1)) (fCons (fFld T "table" (fVar 1)) fNil))))))))
def Feq54 (T : Tab) : FnF := fnRunN 2 (beq54 T)
def beq55 (T : Tab) : SF := (sRet (fAndV (fIsD T (.own 55) (fVar 1)) (fOp (gEq T et0 false) (fTup (fCons (fFld T "table" (fVar 0)) (fCons (fFld T "spaces" (fVar 0)) fNil))) (fTup (fCons (fFld T "table" (fVar 1)) (fCons (fFld T "spaces" (fVar 1)) fNil))))))
def Feq55 (T : Tab) : FnF := fnRunN 2 (beq55 T)
def beq56 (T : Tab) : SF := (sRet (fAndV (fIsD T (.own 56) (fVar 1)) (fOp (gEq T et0 false) (fFld T "row" (fVar 0)) (fFld T "row" (fVar 1)))))
def Feq56 (T : Tab) : FnF := fnRunN 2 (beq56 T)
def beq57 (T : Tab) : SF := (sRet (fAndV (fIsD T (.own 57) (fVar 1)) (fOp (gEq T et0 false) (fTup (fCons (fFld T "plant" (fVar 0)) (fCons (fFld T "rows" (fVar 0)) (fCons (fFld T "table" (fVar 0)) fNil)))) (fTup (fCons (fFld T "plant" (fVar 1)) (fCons (fFld T "rows" (fVar 1)) (fCons (fFld T "table" (fVar 1)) fNil)))))))
def Feq57 (T : Tab) : FnF := fnRunN 2 (beq57 T)
def beq58 (T : Tab) : SF := (sRet (fAndV (fIsD T (.own 58) (fVar 1)) (fAndV (fOp (gEq T et0 false) (fFld T "least" (fVar 0)) (fFld T "least" (fVar 1))) (fOp (gEq T et0 false) (fFld T "greatest" (fVar 0)) (fFld T "greatest" (fVar 1))))))
def Feq58 (T : Tab) : FnF := fnRunN 2 (beq58 T)
def beq59 (T : Tab) : SF := (sRet (fAndV (fIsD T (.own 59) (fVar 1)) (fAndV (fOp (gEq T et0 false) (fFld T "field" (fVar 0)) (fFld T "field" (fVar 1))) (fAndV (fOp (gEq T et0 false) (fFld T "size" (fVar 0)) (fFld T "size" (fVar 1))) (fAndV (fOp (gEq T et0 false) (fFld T "inputs" (fVar 0)) (fFld T "inputs" (fVar 1))) (fOp (gEq T et0 false) (fFld T "deeds" (fVar 0)) (fFld T "deeds" (fVar 1))))))))
def Feq59 (T : Tab) : FnF := fnRunN 2 (beq59 T)
def beq60 (T : Tab) : SF := (sRet (fAndV (fIsD T (.own 60) (fVar 1)) (fOp (gEq T et0 false) (fTup (fCons (fFld T "record" (fVar 0)) (fCons (fFld T "plant" (fVar 0)) (fCons (fFld T "lot" (fVar 0)) (fCons (fFld T "other" (fVar 0)) (fCons (fFld T "other_lot" (fVar 0)) fNil)))))) (fTup (fCons (fFld T "record" (fVar 1)) (fCons (fFld T "plant" (fVar 1)) (fCons (fFld T "lot" (fVar 1)) (fCons (fFld T "other" (fVar 1)) (fCons (fFld T "other_lot" (fVar 1)) fNil)))))))))
def Feq60 (T : Tab) : FnF := fnRunN 2 (beq60 T)
def etL (T : Tab) : List FnF := [Feq40 T, Feq41 T, Feq42 T, Feq43 T, Feq44 T, Feq45 T, Feq46 T, Feq47 T, Feq48 T, Feq49 T, Feq50 T, Feq51 T, Feq52 T, Feq53 T, Feq54 T, Feq55 T, Feq56 T, Feq57 T, Feq58 T, Feq59 T, Feq60 T]
def et (T : Tab) : EqT := fun c => if c < 40 then none else (etL T)[c - 40]?
def b_law_mix (T : Tab) : SF := (sSeq (sAsg (fOp gMod (fCB gInt (fCons (fOp gAdd (fOp gAdd (fOp gMul (fVar 0) (fC (.int 69621))) (fOp gMul (fVar 1) (fC (.int 40692)))) (fC (.int 97))) fNil)) (fC (.int 2147483647))) (gN 2))
 (sSeq (sAsg (fOp gMod (fCB gInt (fCons (fOp gAdd (fOp gAdd (fOp gMul (fVar 2) (fVar 2)) (fOp gMul (fOp gDiv (fVar 2) (fC (.int 53))) (fC (.int 16807)))) (fOp gMul (fVar 1) (fC (.int 48271)))) fNil)) (fC (.int 2147483399))) (gN 3))
 (sRet (fOp gDiv (fOp gMod (fCB gInt (fCons (fOp gAdd (fOp gDiv (fOp gMul (fVar 3) (fVar 3)) (fC (.int 4099))) (fOp gMul (fVar 2) (fC (.int 3)))) fNil)) (fC (.int 2147483563))) (fC (.int 32))))))
def F_law_mix (T : Tab) : FnF := fnRunN 4 (b_law_mix T)
def b_law_draw (T : Tab) : SF := (sSeq (sIf (fAnd (fB (fOp (gEq T (et T) false) (fOp gIx (fVar 0) (fC (.int 2))) (fC (.int 0)))) (fB (fOp gLt (fOp gIx (fVar 0) (fC (.int 1))) (fCB gLen (fCons (fOp gIx (fVar 0) (fC (.int 0))) fNil)))))
 (sSeq (sAsg (fOp gIx (fOp gIx (fVar 0) (fC (.int 0))) (fOp gIx (fVar 0) (fC (.int 1)))) (gN 2))
 (sSeq (sSet (fVar 0) (fC (.int 1)) (fOp gAdd (fOp gIx (fVar 0) (fC (.int 1))) (fC (.int 1))))
 (sSeq (sIf (fB (fOp gLt (fVar 2) (fOp gPow (fC (.int 10)) (fC (.int 18)))))
 (sRet (fOp gMod (fCB gInt (fCons (fCB (gCall 2 (F_law_mix T)) (fCons (fOp gMod (fCB gInt (fCons (fVar 2) fNil)) (fC (.int 2147483647))) (fCons (fOp gIx (fVar 0) (fC (.int 1))) fNil))) fNil)) (fVar 1))) sPass)
 (sSet (fVar 0) (fC (.int 2)) (fVar 2))))) sPass)
 (sSeq (sIf (fB (fOp gGt (fOp gIx (fVar 0) (fC (.int 2))) (fC (.int 0))))
 (sSeq (sAsg (fOp gIx (fVar 0) (fC (.int 2))) (gN 3))
 (sSeq (sSet (fVar 0) (fC (.int 2)) (fOp gDiv (fVar 3) (fVar 1)))
 (sRet (fOp gMod (fCB gInt (fCons (fVar 3) fNil)) (fVar 1))))) sPass)
 (sSeq (sSet (fVar 0) (fC (.int 3)) (fOp gMod (fCB gInt (fCons (fOp gAdd (fOp gIx (fVar 0) (fC (.int 3))) (fC (.int 1))) fNil)) (fC (.int 2147483629))))
 (sRet (fOp gMod (fCB gInt (fCons (fCB (gCall 2 (F_law_mix T)) (fCons (fOp gIx (fVar 0) (fC (.int 3))) (fCons (fOp gIx (fVar 0) (fC (.int 1))) fNil))) fNil)) (fVar 1))))))
def F_law_draw (T : Tab) : FnF := fnRunN 4 (b_law_draw T)
def b_law_hand (T : Tab) : SF := (sSeq (sAsg (fC (.int 7)) (gN 1))
 (sSeq (sFor (fEnum (fCons (fVar 0) fNil)) (gT (gsC (gN 2) (gsC (gN 3) gsN)) 2)
 (sAsg (fOp gMod (fCB gInt (fCons (fOp gAdd (fOp gMul (fVar 1) (fC (.int 37))) (fOp gMul (fCB gInt (fCons (fVar 3) fNil)) (fOp gAdd (fVar 2) (fC (.int 5))))) fNil)) (fC (.int 2147483629))) (gN 1)))
 (sRet (fLst (fCons (fLc (fSeq (fVar 0)) (gN 3) tYesF (fCB gAbs (fCons (fCB gInt (fCons (fVar 3) fNil)) fNil)) [3]) (fCons (fC (.int 0)) (fCons (fC (.int 0)) (fCons (fVar 1) fNil))))))))
def F_law_hand (T : Tab) : FnF := fnRunN 4 (b_law_hand T)
def b_law_errors (T : Tab) : SF := (sSeq (sAsg (fLst (fCons (fCB (gErr T 1) (fCons (fVar 4) fNil)) (fCons (fCB (gErr T 2) (fCons (fVar 4) fNil)) (fCons (fCB (gErr T 4) (fCons (fVar 1) fNil)) (fCons (fCB (gErr T 5) (fCons (fVar 0) fNil)) (fCons (fCB (gErr T 6) (fCons (fVar 0) fNil)) (fCons (fCB (gErr T 7) (fCons (fVar 0) (fCons (fVar 1) fNil))) (fCons (fCB (gErr T 8) (fCons (fVar 4) fNil)) fNil)))))))) (gN 6))
 (sSeq (sAsg (fOp gAdd (fVar 6) (fLst (fCons (fCB (gErr T 9) (fCons (fVar 0) fNil)) (fCons (fCB (gErr T 10) (fCons (fVar 4) (fCons (fVar 5) fNil))) (fCons (fCB (gErr T 11) (fCons (fVar 4) fNil)) (fCons (fCB (gErr T 13) (fCons (fVar 4) fNil)) (fCons (fCB (gErr T 14) (fCons (fVar 0) fNil)) (fCons (fCB (gErr T 15) (fCons (fVar 3) fNil)) fNil)))))))) (gN 6))
 (sSeq (sAsg (fOp gAdd (fVar 6) (fLst (fCons (fCB (gErr T 16) (fCons (fVar 1) fNil)) (fCons (fCB (gErr T 17) (fCons (fVar 0) fNil)) (fCons (fCB (gErr T 18) (fCons (fVar 0) fNil)) (fCons (fCB (gErr T 19) (fCons (fVar 0) fNil)) (fCons (fCB (gErr T 20) (fCons (fVar 0) fNil)) (fCons (fCB (gErr T 22) (fCons (fVar 0) fNil)) fNil)))))))) (gN 6))
 (sSeq (sAsg (fOp gAdd (fVar 6) (fLst (fCons (fCB (gErr T 23) (fCons (fVar 2) fNil)) (fCons (fCB (gErr T 24) (fCons (fVar 0) (fCons (fVar 1) fNil))) (fCons (fCB (gErr T 25) (fCons (fVar 0) fNil)) (fCons (fCB (gErr T 26) (fCons (fVar 4) fNil)) (fCons (fCB (gErr T 27) (fCons (fVar 0) fNil)) (fCons (fCB (gErr T 28) (fCons (fVar 0) fNil)) fNil)))))))) (gN 6))
 (sSeq (sAsg (fOp gAdd (fVar 6) (fLst (fCons (fCB (gErr T 29) (fCons (fVar 1) fNil)) (fCons (fCB (gErr T 30) (fCons (fVar 0) (fCons (fVar 1) fNil))) (fCons (fCB (gErr T 31) (fCons (fVar 0) fNil)) (fCons (fCB (gErr T 32) (fCons (fVar 0) fNil)) (fCons (fCB (gErr T 33) (fCons (fVar 0) fNil)) fNil))))))) (gN 6))
 (sRet (fOp gAdd (fVar 6) (fLst (fCons (fCB (gErr T 3) fNil) (fCons (fCB (gErr T 12) fNil) (fCons (fC (.err 21 [])) (fCons (fCB (gErr T 34) fNil) (fCons (fCB (gErr T 35) fNil) (fCons (fCB (gErr T 36) fNil) (fCons (fCB (gErr T 37) fNil) (fCons (fCB (gErr T 38) fNil) (fCons (fCB (gErr T 39) fNil) fNil)))))))))))))))))
def F_law_errors (T : Tab) : FnF := fnRunN 7 (b_law_errors T)
def b_law_named_errors (T : Tab) : SF := (sSeq (sAsg (fLst (fCons (fCB (gErrK T 1 1 [0]) (fCons (fVar 4) fNil)) (fCons (fCB (gErrK T 2 1 [0]) (fCons (fVar 4) fNil)) (fCons (fCB (gErrK T 4 1 [0]) (fCons (fVar 1) fNil)) (fCons (fCB (gErrK T 5 1 [0]) (fCons (fVar 0) fNil)) (fCons (fCB (gErrK T 6 1 [0]) (fCons (fVar 0) fNil)) fNil)))))) (gN 6))
 (sSeq (sAsg (fOp gAdd (fVar 6) (fLst (fCons (fCB (gErrK T 7 2 [1, 0]) (fCons (fVar 1) (fCons (fVar 0) fNil))) (fCons (fCB (gErrK T 8 1 [0]) (fCons (fVar 4) fNil)) (fCons (fCB (gErrK T 9 1 [0]) (fCons (fVar 0) fNil)) (fCons (fCB (gErrK T 10 2 [1, 0]) (fCons (fVar 5) (fCons (fVar 4) fNil))) fNil)))))) (gN 6))
 (sSeq (sAsg (fOp gAdd (fVar 6) (fLst (fCons (fCB (gErrK T 11 1 [0]) (fCons (fVar 4) fNil)) (fCons (fCB (gErrK T 13 1 [0]) (fCons (fVar 4) fNil)) (fCons (fCB (gErrK T 14 1 [0]) (fCons (fVar 0) fNil)) (fCons (fCB (gErrK T 15 1 [0]) (fCons (fVar 3) fNil)) (fCons (fCB (gErrK T 16 1 [0]) (fCons (fVar 1) fNil)) fNil))))))) (gN 6))
 (sSeq (sAsg (fOp gAdd (fVar 6) (fLst (fCons (fCB (gErrK T 17 1 [0]) (fCons (fVar 0) fNil)) (fCons (fCB (gErrK T 18 1 [0]) (fCons (fVar 0) fNil)) (fCons (fCB (gErrK T 19 1 [0]) (fCons (fVar 0) fNil)) (fCons (fCB (gErrK T 20 1 [0]) (fCons (fVar 0) fNil)) (fCons (fCB (gErrK T 22 1 [0]) (fCons (fVar 0) fNil)) fNil))))))) (gN 6))
 (sSeq (sAsg (fOp gAdd (fVar 6) (fLst (fCons (fCB (gErrK T 23 1 [0]) (fCons (fVar 2) fNil)) (fCons (fCB (gErrK T 24 2 [1, 0]) (fCons (fVar 1) (fCons (fVar 0) fNil))) (fCons (fCB (gErrK T 25 1 [0]) (fCons (fVar 0) fNil)) (fCons (fCB (gErrK T 26 1 [0]) (fCons (fVar 4) fNil)) fNil)))))) (gN 6))
 (sSeq (sAsg (fOp gAdd (fVar 6) (fLst (fCons (fCB (gErrK T 27 1 [0]) (fCons (fVar 0) fNil)) (fCons (fCB (gErrK T 28 1 [0]) (fCons (fVar 0) fNil)) (fCons (fCB (gErrK T 29 1 [0]) (fCons (fVar 1) fNil)) (fCons (fCB (gErrK T 30 2 [1, 0]) (fCons (fVar 1) (fCons (fVar 0) fNil))) fNil)))))) (gN 6))
 (sSeq (sAsg (fOp gAdd (fVar 6) (fLst (fCons (fCB (gErrK T 31 1 [0]) (fCons (fVar 0) fNil)) (fCons (fCB (gErrK T 32 1 [0]) (fCons (fVar 0) fNil)) (fCons (fCB (gErrK T 33 1 [0]) (fCons (fVar 0) fNil)) fNil))))) (gN 6))
 (sRet (fOp gAdd (fVar 6) (fLst (fCons (fCB (gErr T 3) fNil) (fCons (fCB (gErr T 12) fNil) (fCons (fC (.err 21 [])) (fCons (fCB (gErr T 34) fNil) (fCons (fCB (gErr T 35) fNil) (fCons (fCB (gErr T 36) fNil) (fCons (fCB (gErr T 37) fNil) (fCons (fCB (gErr T 38) fNil) (fCons (fCB (gErr T 39) fNil) fNil)))))))))))))))))))
def F_law_named_errors (T : Tab) : FnF := fnRunN 7 (b_law_named_errors T)
def b_law_due_fields (T : Tab) : SF := (sSeq (sAsg (fLst (fCons (fLst (fCons (fVar 4) fNil)) (fCons (fLst (fCons (fVar 4) fNil)) (fCons (fLst (fCons (fVar 1) fNil)) (fCons (fLst (fCons (fVar 0) fNil)) (fCons (fLst (fCons (fVar 0) fNil)) (fCons (fLst (fCons (fVar 0) (fCons (fVar 1) fNil))) (fCons (fLst (fCons (fVar 4) fNil)) (fCons (fLst (fCons (fVar 0) fNil)) (fCons (fLst (fCons (fVar 4) (fCons (fVar 5) fNil))) (fCons (fLst (fCons (fVar 4) fNil)) (fCons (fLst (fCons (fVar 4) fNil)) (fCons (fLst (fCons (fVar 0) fNil)) (fCons (fLst (fCons (fVar 3) fNil)) (fCons (fLst (fCons (fVar 1) fNil)) (fCons (fLst (fCons (fVar 0) fNil)) (fCons (fLst (fCons (fVar 0) fNil)) (fCons (fLst (fCons (fVar 0) fNil)) (fCons (fLst (fCons (fVar 0) fNil)) (fCons (fLst (fCons (fVar 0) fNil)) fNil)))))))))))))))))))) (gN 6))
 (sRet (fOp gAdd (fVar 6) (fLst (fCons (fLst (fCons (fVar 2) fNil)) (fCons (fLst (fCons (fVar 0) (fCons (fVar 1) fNil))) (fCons (fLst (fCons (fVar 0) fNil)) (fCons (fLst (fCons (fVar 4) fNil)) (fCons (fLst (fCons (fVar 0) fNil)) (fCons (fLst (fCons (fVar 0) fNil)) (fCons (fLst (fCons (fVar 1) fNil)) (fCons (fLst (fCons (fVar 0) (fCons (fVar 1) fNil))) (fCons (fLst (fCons (fVar 0) fNil)) (fCons (fLst (fCons (fVar 0) fNil)) (fCons (fLst (fCons (fVar 0) fNil)) fNil)))))))))))))))
def F_law_due_fields (T : Tab) : FnF := fnRunN 7 (b_law_due_fields T)
def b_law_fields (T : Tab) : SF := (sSeq (sAsg (fLst (fCons (fLst (fCons (fFld T "prime" (fOp gIx (fVar 0) (fC (.int 0)))) fNil)) (fCons (fLst (fCons (fFld T "thing" (fOp gIx (fVar 0) (fC (.int 1)))) fNil)) (fCons (fLst (fCons (fFld T "place" (fOp gIx (fVar 0) (fC (.int 2)))) fNil)) (fCons (fLst (fCons (fFld T "what" (fOp gIx (fVar 0) (fC (.int 3)))) fNil)) (fCons (fLst (fCons (fFld T "what" (fOp gIx (fVar 0) (fC (.int 4)))) fNil)) (fCons (fLst (fCons (fFld T "what" (fOp gIx (fVar 0) (fC (.int 5)))) (fCons (fFld T "at" (fOp gIx (fVar 0) (fC (.int 5)))) fNil))) (fCons (fLst (fCons (fFld T "ticks" (fOp gIx (fVar 0) (fC (.int 6)))) fNil)) fNil)))))))) (gN 1))
 (sSeq (sAsg (fOp gAdd (fVar 1) (fLst (fCons (fLst (fCons (fFld T "what" (fOp gIx (fVar 0) (fC (.int 7)))) fNil)) (fCons (fLst (fCons (fFld T "low" (fOp gIx (fVar 0) (fC (.int 8)))) (fCons (fFld T "high" (fOp gIx (fVar 0) (fC (.int 8)))) fNil))) (fCons (fLst (fCons (fFld T "lot" (fOp gIx (fVar 0) (fC (.int 9)))) fNil)) (fCons (fLst (fCons (fFld T "wrong" (fOp gIx (fVar 0) (fC (.int 10)))) fNil)) (fCons (fLst (fCons (fFld T "what" (fOp gIx (fVar 0) (fC (.int 11)))) fNil)) (fCons (fLst (fCons (fFld T "weights" (fOp gIx (fVar 0) (fC (.int 12)))) fNil)) fNil)))))))) (gN 1))
 (sSeq (sAsg (fOp gAdd (fVar 1) (fLst (fCons (fLst (fCons (fFld T "tick" (fOp gIx (fVar 0) (fC (.int 13)))) fNil)) (fCons (fLst (fCons (fFld T "what" (fOp gIx (fVar 0) (fC (.int 14)))) fNil)) (fCons (fLst (fCons (fFld T "what" (fOp gIx (fVar 0) (fC (.int 15)))) fNil)) (fCons (fLst (fCons (fFld T "what" (fOp gIx (fVar 0) (fC (.int 16)))) fNil)) (fCons (fLst (fCons (fFld T "what" (fOp gIx (fVar 0) (fC (.int 17)))) fNil)) (fCons (fLst (fCons (fFld T "what" (fOp gIx (fVar 0) (fC (.int 18)))) fNil)) fNil)))))))) (gN 1))
 (sSeq (sAsg (fOp gAdd (fVar 1) (fLst (fCons (fLst (fCons (fFld T "prime" (fOp gIx (fVar 0) (fC (.int 19)))) fNil)) (fCons (fLst (fCons (fFld T "what" (fOp gIx (fVar 0) (fC (.int 20)))) (fCons (fFld T "at" (fOp gIx (fVar 0) (fC (.int 20)))) fNil))) (fCons (fLst (fCons (fFld T "what" (fOp gIx (fVar 0) (fC (.int 21)))) fNil)) (fCons (fLst (fCons (fFld T "state" (fOp gIx (fVar 0) (fC (.int 22)))) fNil)) (fCons (fLst (fCons (fFld T "what" (fOp gIx (fVar 0) (fC (.int 23)))) fNil)) (fCons (fLst (fCons (fFld T "what" (fOp gIx (fVar 0) (fC (.int 24)))) fNil)) fNil)))))))) (gN 1))
 (sRet (fOp gAdd (fVar 1) (fLst (fCons (fLst (fCons (fFld T "state" (fOp gIx (fVar 0) (fC (.int 25)))) fNil)) (fCons (fLst (fCons (fFld T "what" (fOp gIx (fVar 0) (fC (.int 26)))) (fCons (fFld T "at" (fOp gIx (fVar 0) (fC (.int 26)))) fNil))) (fCons (fLst (fCons (fFld T "what" (fOp gIx (fVar 0) (fC (.int 27)))) fNil)) (fCons (fLst (fCons (fFld T "what" (fOp gIx (fVar 0) (fC (.int 28)))) fNil)) (fCons (fLst (fCons (fFld T "what" (fOp gIx (fVar 0) (fC (.int 29)))) fNil)) fNil))))))))))))
def F_law_fields (T : Tab) : FnF := fnRunN 2 (b_law_fields T)
def b_law_kinds (T : Tab) : SF := (sSeq (sAsg (fLst (fCons (fIsD T (.own 1) (fVar 0)) (fCons (fIsD T (.own 2) (fVar 0)) (fCons (fIsD T (.own 4) (fVar 0)) (fCons (fIsD T (.own 5) (fVar 0)) fNil))))) (gN 1))
 (sSeq (sAsg (fOp gAdd (fVar 1) (fLst (fCons (fIsD T (.own 6) (fVar 0)) (fCons (fIsD T (.own 7) (fVar 0)) (fCons (fIsD T (.own 8) (fVar 0)) (fCons (fIsD T (.own 9) (fVar 0)) fNil)))))) (gN 1))
 (sSeq (sAsg (fOp gAdd (fVar 1) (fLst (fCons (fIsD T (.own 10) (fVar 0)) (fCons (fIsD T (.own 11) (fVar 0)) (fCons (fIsD T (.own 13) (fVar 0)) (fCons (fIsD T (.own 14) (fVar 0)) fNil)))))) (gN 1))
 (sSeq (sAsg (fOp gAdd (fVar 1) (fLst (fCons (fIsD T (.own 15) (fVar 0)) (fCons (fIsD T (.own 16) (fVar 0)) (fCons (fIsD T (.own 17) (fVar 0)) (fCons (fIsD T (.own 18) (fVar 0)) fNil)))))) (gN 1))
 (sSeq (sAsg (fOp gAdd (fVar 1) (fLst (fCons (fIsD T (.own 19) (fVar 0)) (fCons (fIsD T (.own 20) (fVar 0)) (fCons (fIsD T (.own 22) (fVar 0)) (fCons (fIsD T (.own 23) (fVar 0)) fNil)))))) (gN 1))
 (sSeq (sAsg (fOp gAdd (fVar 1) (fLst (fCons (fIsD T (.own 24) (fVar 0)) (fCons (fIsD T (.own 25) (fVar 0)) (fCons (fIsD T (.own 26) (fVar 0)) (fCons (fIsD T (.own 27) (fVar 0)) fNil)))))) (gN 1))
 (sSeq (sAsg (fOp gAdd (fVar 1) (fLst (fCons (fIsD T (.own 28) (fVar 0)) (fCons (fIsD T (.own 29) (fVar 0)) (fCons (fIsD T (.own 30) (fVar 0)) fNil))))) (gN 1))
 (sSeq (sAsg (fOp gAdd (fVar 1) (fLst (fCons (fIsD T (.own 31) (fVar 0)) (fCons (fIsD T (.own 32) (fVar 0)) (fCons (fIsD T (.own 33) (fVar 0)) (fCons (fIsD T (.own 3) (fVar 0)) fNil)))))) (gN 1))
 (sSeq (sAsg (fOp gAdd (fVar 1) (fLst (fCons (fIsD T (.own 12) (fVar 0)) (fCons (fIsD T (.own 21) (fVar 0)) (fCons (fIsD T (.own 34) (fVar 0)) (fCons (fIsD T (.own 35) (fVar 0)) fNil)))))) (gN 1))
 (sRet (fOp gAdd (fVar 1) (fLst (fCons (fIsD T (.own 36) (fVar 0)) (fCons (fIsD T (.own 37) (fVar 0)) (fCons (fIsD T (.own 38) (fVar 0)) (fCons (fIsD T (.own 39) (fVar 0)) fNil))))))))))))))))
def F_law_kinds (T : Tab) : FnF := fnRunN 2 (b_law_kinds T)
def b_law_results (T : Tab) : SF := (sSeq (sAsg (fLst (fCons (fCB (gIns T 54) (fCons (fOp gIx (fVar 0) (fC (.int 0))) (fCons (fOp gIx (fVar 0) (fC (.int 1))) (fCons (fOp gIx (fVar 0) (fC (.int 2))) (fCons (fOp gIx (fVar 0) (fC (.int 3))) fNil))))) (fCons (fCB (gIns T 47) (fCons (fOp gIx (fVar 0) (fC (.int 0))) (fCons (fOp gIx (fVar 0) (fC (.int 1))) (fCons (fOp gIx (fVar 0) (fC (.int 2))) fNil)))) (fCons (fCB (gIns T 55) (fCons (fOp gIx (fVar 0) (fC (.int 0))) (fCons (fOp gIx (fVar 0) (fC (.int 1))) fNil))) (fCons (fCB (gIns T 56) (fCons (fOp gIx (fVar 0) (fC (.int 0))) fNil)) (fCons (fCB (gIns T 57) (fCons (fOp gIx (fVar 0) (fC (.int 0))) (fCons (fOp gIx (fVar 0) (fC (.int 1))) (fCons (fOp gIx (fVar 0) (fC (.int 2))) fNil)))) fNil)))))) (gN 1))
 (sSeq (sAsg (fOp gAdd (fVar 1) (fLst (fCons (fCB (gIns T 60) (fCons (fOp gIx (fVar 0) (fC (.int 0))) (fCons (fOp gIx (fVar 0) (fC (.int 1))) (fCons (fOp gIx (fVar 0) (fC (.int 2))) (fCons (fOp gIx (fVar 0) (fC (.int 3))) (fCons (fOp gIx (fVar 0) (fC (.int 4))) fNil)))))) (fCons (fCB (gIns T 40) (fCons (fOp gIx (fVar 0) (fC (.int 0))) (fCons (fOp gIx (fVar 0) (fC (.int 1))) (fCons (fOp gIx (fVar 0) (fC (.int 2))) (fCons (fOp gIx (fVar 0) (fC (.int 3))) fNil))))) (fCons (fCB (gIns T 45) (fCons (fOp gIx (fVar 0) (fC (.int 0))) (fCons (fOp gIx (fVar 0) (fC (.int 1))) fNil))) (fCons (fCB (gIns T 41) (fCons (fOp gIx (fVar 0) (fC (.int 0))) (fCons (fOp gIx (fVar 0) (fC (.int 1))) fNil))) fNil)))))) (gN 1))
 (sSeq (sAsg (fOp gAdd (fVar 1) (fLst (fCons (fCB (gIns T 42) (fCons (fOp gIx (fVar 0) (fC (.int 0))) fNil)) (fCons (fCB (gIns T 43) (fCons (fOp gIx (fVar 0) (fC (.int 0))) (fCons (fOp gIx (fVar 0) (fC (.int 1))) fNil))) (fCons (fCB (gIns T 48) (fCons (fOp gIx (fVar 0) (fC (.int 0))) (fCons (fOp gIx (fVar 0) (fC (.int 1))) (fCons (fOp gIx (fVar 0) (fC (.int 2))) (fCons (fOp gIx (fVar 0) (fC (.int 3))) fNil))))) (fCons (fCB (gIns T 49) (fCons (fOp gIx (fVar 0) (fC (.int 0))) (fCons (fOp gIx (fVar 0) (fC (.int 1))) (fCons (fOp gIx (fVar 0) (fC (.int 2))) (fCons (fOp gIx (fVar 0) (fC (.int 3))) fNil))))) fNil)))))) (gN 1))
 (sSeq (sAsg (fOp gAdd (fVar 1) (fLst (fCons (fCB (gIns T 50) (fCons (fOp gIx (fVar 0) (fC (.int 0))) (fCons (fOp gIx (fVar 0) (fC (.int 1))) fNil))) (fCons (fCB (gIns T 51) (fCons (fOp gIx (fVar 0) (fC (.int 0))) (fCons (fOp gIx (fVar 0) (fC (.int 1))) (fCons (fOp gIx (fVar 0) (fC (.int 2))) (fCons (fOp gIx (fVar 0) (fC (.int 3))) fNil))))) (fCons (fCB (gIns T 52) (fCons (fOp gIx (fVar 0) (fC (.int 0))) (fCons (fOp gIx (fVar 0) (fC (.int 1))) fNil))) (fCons (fCB (gIns T 53) (fCons (fOp gIx (fVar 0) (fC (.int 0))) (fCons (fOp gIx (fVar 0) (fC (.int 1))) (fCons (fOp gIx (fVar 0) (fC (.int 2))) fNil)))) (fCons (fCB (gIns T 58) (fCons (fOp gIx (fVar 0) (fC (.int 0))) (fCons (fOp gIx (fVar 0) (fC (.int 1))) fNil))) fNil))))))) (gN 1))
 (sRet (fOp gAdd (fVar 1) (fLst (fCons (fCB (gIns T 46) (fCons (fOp gIx (fVar 0) (fC (.int 0))) (fCons (fOp gIx (fVar 0) (fC (.int 1))) (fCons (fOp gIx (fVar 0) (fC (.int 2))) fNil)))) (fCons (fCB (gIns T 59) (fCons (fOp gIx (fVar 0) (fC (.int 0))) (fCons (fOp gIx (fVar 0) (fC (.int 1))) (fCons (fOp gIx (fVar 0) (fC (.int 2))) (fCons (fOp gIx (fVar 0) (fC (.int 3))) fNil))))) (fCons (fCB (gIns T 44) (fCons (fOp gIx (fVar 0) (fC (.int 0))) (fCons (fOp gIx (fVar 0) (fC (.int 1))) fNil))) fNil))))))))))
def F_law_results (T : Tab) : FnF := fnRunN 2 (b_law_results T)
def b_law_named_results (T : Tab) : SF := (sSeq (sAsg (fLst (fCons (fCB (gInsK T 54 4 [1, 2, 3, 0]) (fCons (fOp gIx (fVar 0) (fC (.int 3))) (fCons (fOp gIx (fVar 0) (fC (.int 0))) (fCons (fOp gIx (fVar 0) (fC (.int 1))) (fCons (fOp gIx (fVar 0) (fC (.int 2))) fNil))))) (fCons (fCB (gInsK T 47 3 [1, 2, 0]) (fCons (fOp gIx (fVar 0) (fC (.int 2))) (fCons (fOp gIx (fVar 0) (fC (.int 0))) (fCons (fOp gIx (fVar 0) (fC (.int 1))) fNil)))) fNil))) (gN 1))
 (sSeq (sAsg (fOp gAdd (fVar 1) (fLst (fCons (fCB (gInsK T 55 2 [1, 0]) (fCons (fOp gIx (fVar 0) (fC (.int 1))) (fCons (fOp gIx (fVar 0) (fC (.int 0))) fNil))) (fCons (fCB (gInsK T 56 1 [0]) (fCons (fOp gIx (fVar 0) (fC (.int 0))) fNil)) (fCons (fCB (gInsK T 57 3 [2, 0, 1]) (fCons (fOp gIx (fVar 0) (fC (.int 1))) (fCons (fOp gIx (fVar 0) (fC (.int 2))) (fCons (fOp gIx (fVar 0) (fC (.int 0))) fNil)))) fNil))))) (gN 1))
 (sSeq (sAsg (fOp gAdd (fVar 1) (fLst (fCons (fCB (gInsK T 60 5 [0, 2, 3, 4, 1]) (fCons (fOp gIx (fVar 0) (fC (.int 0))) (fCons (fOp gIx (fVar 0) (fC (.int 4))) (fCons (fOp gIx (fVar 0) (fC (.int 1))) (fCons (fOp gIx (fVar 0) (fC (.int 2))) (fCons (fOp gIx (fVar 0) (fC (.int 3))) fNil)))))) fNil))) (gN 1))
 (sSeq (sAsg (fOp gAdd (fVar 1) (fLst (fCons (fCB (gInsK T 40 4 [1, 2, 3, 0]) (fCons (fOp gIx (fVar 0) (fC (.int 3))) (fCons (fOp gIx (fVar 0) (fC (.int 0))) (fCons (fOp gIx (fVar 0) (fC (.int 1))) (fCons (fOp gIx (fVar 0) (fC (.int 2))) fNil))))) (fCons (fCB (gInsK T 45 2 [1, 0]) (fCons (fOp gIx (fVar 0) (fC (.int 1))) (fCons (fOp gIx (fVar 0) (fC (.int 0))) fNil))) fNil)))) (gN 1))
 (sSeq (sAsg (fOp gAdd (fVar 1) (fLst (fCons (fCB (gInsK T 41 2 [1, 0]) (fCons (fOp gIx (fVar 0) (fC (.int 1))) (fCons (fOp gIx (fVar 0) (fC (.int 0))) fNil))) (fCons (fCB (gInsK T 42 1 [0]) (fCons (fOp gIx (fVar 0) (fC (.int 0))) fNil)) (fCons (fCB (gInsK T 43 2 [1, 0]) (fCons (fOp gIx (fVar 0) (fC (.int 1))) (fCons (fOp gIx (fVar 0) (fC (.int 0))) fNil))) fNil))))) (gN 1))
 (sSeq (sAsg (fOp gAdd (fVar 1) (fLst (fCons (fCB (gInsK T 48 4 [2, 3, 0, 1]) (fCons (fOp gIx (fVar 0) (fC (.int 2))) (fCons (fOp gIx (fVar 0) (fC (.int 3))) (fCons (fOp gIx (fVar 0) (fC (.int 0))) (fCons (fOp gIx (fVar 0) (fC (.int 1))) fNil))))) (fCons (fCB (gInsK T 49 4 [1, 2, 3, 0]) (fCons (fOp gIx (fVar 0) (fC (.int 3))) (fCons (fOp gIx (fVar 0) (fC (.int 0))) (fCons (fOp gIx (fVar 0) (fC (.int 1))) (fCons (fOp gIx (fVar 0) (fC (.int 2))) fNil))))) fNil)))) (gN 1))
 (sSeq (sAsg (fOp gAdd (fVar 1) (fLst (fCons (fCB (gInsK T 50 2 [1, 0]) (fCons (fOp gIx (fVar 0) (fC (.int 1))) (fCons (fOp gIx (fVar 0) (fC (.int 0))) fNil))) (fCons (fCB (gInsK T 51 4 [1, 2, 3, 0]) (fCons (fOp gIx (fVar 0) (fC (.int 3))) (fCons (fOp gIx (fVar 0) (fC (.int 0))) (fCons (fOp gIx (fVar 0) (fC (.int 1))) (fCons (fOp gIx (fVar 0) (fC (.int 2))) fNil))))) (fCons (fCB (gInsK T 52 2 [1, 0]) (fCons (fOp gIx (fVar 0) (fC (.int 1))) (fCons (fOp gIx (fVar 0) (fC (.int 0))) fNil))) fNil))))) (gN 1))
 (sSeq (sAsg (fOp gAdd (fVar 1) (fLst (fCons (fCB (gInsK T 53 3 [1, 2, 0]) (fCons (fOp gIx (fVar 0) (fC (.int 2))) (fCons (fOp gIx (fVar 0) (fC (.int 0))) (fCons (fOp gIx (fVar 0) (fC (.int 1))) fNil)))) (fCons (fCB (gInsK T 58 2 [1, 0]) (fCons (fOp gIx (fVar 0) (fC (.int 1))) (fCons (fOp gIx (fVar 0) (fC (.int 0))) fNil))) fNil)))) (gN 1))
 (sSeq (sAsg (fOp gAdd (fVar 1) (fLst (fCons (fCB (gInsK T 46 3 [1, 2, 0]) (fCons (fOp gIx (fVar 0) (fC (.int 2))) (fCons (fOp gIx (fVar 0) (fC (.int 0))) (fCons (fOp gIx (fVar 0) (fC (.int 1))) fNil)))) (fCons (fCB (gInsK T 59 4 [1, 2, 3, 0]) (fCons (fOp gIx (fVar 0) (fC (.int 3))) (fCons (fOp gIx (fVar 0) (fC (.int 0))) (fCons (fOp gIx (fVar 0) (fC (.int 1))) (fCons (fOp gIx (fVar 0) (fC (.int 2))) fNil))))) fNil)))) (gN 1))
 (sRet (fOp gAdd (fVar 1) (fLst (fCons (fCB (gInsK T 44 2 [1, 0]) (fCons (fOp gIx (fVar 0) (fC (.int 1))) (fCons (fOp gIx (fVar 0) (fC (.int 0))) fNil))) fNil)))))))))))))
def F_law_named_results (T : Tab) : FnF := fnRunN 2 (b_law_named_results T)
def b_law_things (T : Tab) : SF := (sSeq (sAsg (fLst (fCons (fLst (fCons (fFld T "puts" (fOp gIx (fVar 0) (fC (.int 0)))) (fCons (fFld T "states" (fOp gIx (fVar 0) (fC (.int 0)))) (fCons (fFld T "space" (fOp gIx (fVar 0) (fC (.int 0)))) (fCons (fFld T "table" (fOp gIx (fVar 0) (fC (.int 0)))) fNil))))) (fCons (fLst (fCons (fFld T "plant" (fOp gIx (fVar 0) (fC (.int 1)))) (fCons (fFld T "rows" (fOp gIx (fVar 0) (fC (.int 1)))) (fCons (fFld T "table" (fOp gIx (fVar 0) (fC (.int 1)))) fNil)))) (fCons (fLst (fCons (fFld T "table" (fOp gIx (fVar 0) (fC (.int 2)))) (fCons (fFld T "spaces" (fOp gIx (fVar 0) (fC (.int 2)))) fNil))) fNil)))) (gN 1))
 (sSeq (sAsg (fOp gAdd (fVar 1) (fLst (fCons (fLst (fCons (fFld T "row" (fOp gIx (fVar 0) (fC (.int 3)))) fNil)) (fCons (fLst (fCons (fFld T "plant" (fOp gIx (fVar 0) (fC (.int 4)))) (fCons (fFld T "rows" (fOp gIx (fVar 0) (fC (.int 4)))) (fCons (fFld T "table" (fOp gIx (fVar 0) (fC (.int 4)))) fNil)))) fNil)))) (gN 1))
 (sSeq (sAsg (fOp gAdd (fVar 1) (fLst (fCons (fLst (fCons (fFld T "record" (fOp gIx (fVar 0) (fC (.int 5)))) (fCons (fFld T "plant" (fOp gIx (fVar 0) (fC (.int 5)))) (fCons (fFld T "lot" (fOp gIx (fVar 0) (fC (.int 5)))) (fCons (fFld T "other" (fOp gIx (fVar 0) (fC (.int 5)))) (fCons (fFld T "other_lot" (fOp gIx (fVar 0) (fC (.int 5)))) fNil)))))) fNil))) (gN 1))
 (sSeq (sAsg (fOp gAdd (fVar 1) (fLst (fCons (fLst (fCons (fFld T "plant" (fOp gIx (fVar 0) (fC (.int 6)))) (fCons (fFld T "start" (fOp gIx (fVar 0) (fC (.int 6)))) (fCons (fFld T "silent" (fOp gIx (fVar 0) (fC (.int 6)))) (fCons (fFld T "other" (fOp gIx (fVar 0) (fC (.int 6)))) fNil))))) (fCons (fLst (fCons (fFld T "space" (fOp gIx (fVar 0) (fC (.int 7)))) (fCons (fFld T "rows" (fOp gIx (fVar 0) (fC (.int 7)))) fNil))) (fCons (fLst (fCons (fFld T "point" (fOp gIx (fVar 0) (fC (.int 8)))) (fCons (fFld T "weights" (fOp gIx (fVar 0) (fC (.int 8)))) fNil))) fNil))))) (gN 1))
 (sSeq (sAsg (fOp gAdd (fVar 1) (fLst (fCons (fLst (fCons (fFld T "weights" (fOp gIx (fVar 0) (fC (.int 9)))) fNil)) (fCons (fLst (fCons (fFld T "point" (fOp gIx (fVar 0) (fC (.int 10)))) (fCons (fFld T "ray" (fOp gIx (fVar 0) (fC (.int 10)))) fNil))) (fCons (fLst (fCons (fFld T "state" (fOp gIx (fVar 0) (fC (.int 11)))) (fCons (fFld T "parts" (fOp gIx (fVar 0) (fC (.int 11)))) (fCons (fFld T "low" (fOp gIx (fVar 0) (fC (.int 11)))) (fCons (fFld T "high" (fOp gIx (fVar 0) (fC (.int 11)))) fNil))))) fNil))))) (gN 1))
 (sSeq (sAsg (fOp gAdd (fVar 1) (fLst (fCons (fLst (fCons (fFld T "value" (fOp gIx (fVar 0) (fC (.int 12)))) (fCons (fFld T "lot" (fOp gIx (fVar 0) (fC (.int 12)))) (fCons (fFld T "plant" (fOp gIx (fVar 0) (fC (.int 12)))) (fCons (fFld T "ray" (fOp gIx (fVar 0) (fC (.int 12)))) fNil))))) (fCons (fLst (fCons (fFld T "low" (fOp gIx (fVar 0) (fC (.int 13)))) (fCons (fFld T "high" (fOp gIx (fVar 0) (fC (.int 13)))) fNil))) fNil)))) (gN 1))
 (sSeq (sAsg (fOp gAdd (fVar 1) (fLst (fCons (fLst (fCons (fFld T "lot" (fOp gIx (fVar 0) (fC (.int 14)))) (fCons (fFld T "plant" (fOp gIx (fVar 0) (fC (.int 14)))) (fCons (fFld T "state" (fOp gIx (fVar 0) (fC (.int 14)))) (fCons (fFld T "side" (fOp gIx (fVar 0) (fC (.int 14)))) fNil))))) (fCons (fLst (fCons (fFld T "place" (fOp gIx (fVar 0) (fC (.int 15)))) (fCons (fFld T "side" (fOp gIx (fVar 0) (fC (.int 15)))) fNil))) fNil)))) (gN 1))
 (sSeq (sAsg (fOp gAdd (fVar 1) (fLst (fCons (fLst (fCons (fFld T "corner" (fOp gIx (fVar 0) (fC (.int 16)))) (fCons (fFld T "blows" (fOp gIx (fVar 0) (fC (.int 16)))) (fCons (fFld T "weights" (fOp gIx (fVar 0) (fC (.int 16)))) fNil)))) (fCons (fLst (fCons (fFld T "least" (fOp gIx (fVar 0) (fC (.int 17)))) (fCons (fFld T "greatest" (fOp gIx (fVar 0) (fC (.int 17)))) fNil))) fNil)))) (gN 1))
 (sSeq (sAsg (fOp gAdd (fVar 1) (fLst (fCons (fLst (fCons (fFld T "begin" (fOp gIx (fVar 0) (fC (.int 18)))) (fCons (fFld T "end" (fOp gIx (fVar 0) (fC (.int 18)))) (fCons (fFld T "why" (fOp gIx (fVar 0) (fC (.int 18)))) fNil)))) (fCons (fLst (fCons (fFld T "field" (fOp gIx (fVar 0) (fC (.int 19)))) (fCons (fFld T "size" (fOp gIx (fVar 0) (fC (.int 19)))) (fCons (fFld T "inputs" (fOp gIx (fVar 0) (fC (.int 19)))) (fCons (fFld T "deeds" (fOp gIx (fVar 0) (fC (.int 19)))) fNil))))) fNil)))) (gN 1))
 (sRet (fOp gAdd (fVar 1) (fLst (fCons (fLst (fCons (fFld T "box" (fOp gIx (fVar 0) (fC (.int 20)))) (fCons (fFld T "inputs" (fOp gIx (fVar 0) (fC (.int 20)))) fNil))) fNil)))))))))))))
def F_law_things (T : Tab) : FnF := fnRunN 2 (b_law_things T)
def b_law_drawn (T : Tab) : SF := (sSeq (sAsg (fLst fNil) (gN 1))
 (sSeq (sFor (fRng1 (fCons (fC (.int 5)) fNil)) (gN 2)
 (sSeq (sAsg (fOp gAdd (fOp gAdd (fOp gMul (fC (.int 10)) (fCB (gCall 2 (F_law_draw T)) (fCons (fVar 0) (fCons (fOp gPow (fC (.int 10)) (fC (.int 12))) fNil)))) (fVar 2)) (fC (.int 1))) (gN 3))
 (sSeq (sAsg (fCB (gCall 2 (F_law_draw T)) (fCons (fVar 0) (fCons (fC (.int 5)) fNil))) (gN 4))
 (sIf (fAnd (fB (fOp (gEq T (et T) false) (fVar 4) (fC (.int 0)))) (fB (fOp (gIn true) (fC .non) (fVar 1))))
 (sExpr (fApp (fVar 1) (fC .non))) (sIf (fB (fOp (gEq T (et T) false) (fVar 4) (fC (.int 1))))
 (sExpr (fApp (fVar 1) (fOp gAdd (fCB gStr (fCons (fVar 3) fNil)) (fC (.str " a"))))) (sIf (fB (fOp (gEq T (et T) false) (fVar 4) (fC (.int 2))))
 (sExpr (fApp (fVar 1) (fTup (fCons (fTup (fCons (fVar 3) (fCons (fC (.int 1)) fNil))) (fCons (fTup (fCons (fC (.int 0)) (fCons (fC (.int 1)) fNil))) fNil))))) (sIf (fB (fOp (gEq T (et T) false) (fVar 4) (fC (.int 3))))
 (sExpr (fApp (fVar 1) (fOp gMinus (fC (.int 0)) (fVar 3)))) (sExpr (fApp (fVar 1) (fVar 3))))))))))
 (sRet (fVar 1))))
def F_law_drawn (T : Tab) : FnF := fnRunN 5 (b_law_drawn T)
def b_law_word (T : Tab) : SF := (sSeq (sAsg (fLst fNil) (gN 1))
 (sSeq (sFor (fRng1 (fCons (fOp gAdd (fC (.int 1)) (fCB (gCall 2 (F_law_draw T)) (fCons (fVar 0) (fCons (fC (.int 6)) fNil)))) fNil)) (gN 2)
 (sSeq (sAsg (fCB (gCall 2 (F_law_draw T)) (fCons (fVar 0) (fCons (fC (.int 26)) fNil))) (gN 3))
 (sExpr (fApp (fVar 1) (fSl (fC (.str "abcdefghijklmnopqrstuvwxyz")) (fPart (fVar 3)) (fPart (fOp gAdd (fVar 3) (fC (.int 1)))))))))
 (sRet (fJoin (fC (.str "")) (fVar 1)))))
def F_law_word (T : Tab) : FnF := fnRunN 4 (b_law_word T)
def b_law_errors_right (T : Tab) : SF := (sSeq (sAsg (fCB (gCall 1 (F_law_word T)) (fCons (fVar 0) fNil)) (gN 2))
 (sSeq (sAsg (fCB (gCall 2 (F_law_draw T)) (fCons (fVar 0) (fCons (fC (.int 60)) fNil))) (gN 3))
 (sSeq (sAsg (fOp gIx (fTup (fCons (fC (.int 2)) (fCons (fC (.int 3)) (fCons (fC (.int 5)) (fCons (fC (.int 7)) (fCons (fC (.int 97)) fNil)))))) (fCB (gCall 2 (F_law_draw T)) (fCons (fVar 0) (fCons (fC (.int 5)) fNil)))) (gN 4))
 (sSeq (sAsg (fCB gTuple (fCons (fLc (fRng1 (fCons (fOp gAdd (fC (.int 1)) (fCB (gCall 2 (F_law_draw T)) (fCons (fVar 0) (fCons (fC (.int 6)) fNil)))) fNil)) (gN 9) tYesF (fTup (fCons (fOp gMinus (fCB (gCall 2 (F_law_draw T)) (fCons (fVar 0) (fCons (fC (.int 1000)) fNil))) (fC (.int 500))) (fCons (fC (.int 1)) fNil))) [9]) fNil)) (gN 5))
 (sSeq (sAsg (fCB (gCall 6 (F_law_errors T)) (fCons (fVar 2) (fCons (fVar 3) (fCons (fVar 4) (fCons (fVar 5) (fCons (fOp gIx (fVar 1) (fC (.int 0))) (fCons (fOp gIx (fVar 1) (fC (.int 1))) fNil))))))) (gN 6))
 (sSeq (sAsg (fCB (gCall 6 (F_law_named_errors T)) (fCons (fVar 2) (fCons (fVar 3) (fCons (fVar 4) (fCons (fVar 5) (fCons (fOp gIx (fVar 1) (fC (.int 0))) (fCons (fOp gIx (fVar 1) (fC (.int 1))) fNil))))))) (gN 7))
 (sSeq (sAsg (fCB (gCall 1 (F_law_fields T)) (fCons (fVar 6) fNil)) (gN 8))
 (sSeq (sIf (fOr (fB (fOp (gEq T (et T) true) (fVar 8) (fCB (gCall 6 (F_law_due_fields T)) (fCons (fVar 2) (fCons (fVar 3) (fCons (fVar 4) (fCons (fVar 5) (fCons (fOp gIx (fVar 1) (fC (.int 0))) (fCons (fOp gIx (fVar 1) (fC (.int 1))) fNil))))))))) (fOr (fB (fOp (gEq T (et T) true) (fCB (gCall 1 (F_law_fields T)) (fCons (fVar 7) fNil)) (fVar 8))) (fB (fOp (gEq T (et T) true) (fCB gLen (fCons (fVar 6) fNil)) (fC (.int 39))))))
 (sRet (fC (.bl false))) sPass)
 (sSeq (sFor (fRng1 (fCons (fC (.int 39)) fNil)) (gN 9)
 (sSeq (sAsg (fLc (fRng1 (fCons (fC (.int 39)) fNil)) (gN 11) tYesF (fOp (gEq T (et T) false) (fVar 11) (fVar 9)) [11]) (gN 10))
 (sSeq (sIf (fOr (fB (fOp (gEq T (et T) true) (fCB (gCall 1 (F_law_kinds T)) (fCons (fOp gIx (fVar 6) (fVar 9)) fNil)) (fVar 10))) (fB (fOp (gEq T (et T) true) (fCB (gCall 1 (F_law_kinds T)) (fCons (fOp gIx (fVar 7) (fVar 9)) fNil)) (fVar 10))))
 (sRet (fC (.bl false))) sPass)
 (sIf (fOr (fNot (fB (fIsD T (.own 0) (fOp gIx (fVar 6) (fVar 9))))) (fOr (fNot (fB (fIsD T (.ty "ValueError") (fOp gIx (fVar 6) (fVar 9))))) (fNot (fB (fIsD T (.own 0) (fOp gIx (fVar 7) (fVar 9)))))))
 (sRet (fC (.bl false))) sPass))))
 (sRet (fC (.bl true))))))))))))
def F_law_errors_right (T : Tab) : FnF := fnRunN 12 (b_law_errors_right T)
def b_law_results_right (T : Tab) : SF := (sSeq (sAsg (fCB (gCall 1 (F_law_results T)) (fCons (fVar 1) fNil)) (gN 2))
 (sSeq (sAsg (fCB (gCall 1 (F_law_named_results T)) (fCons (fVar 1) fNil)) (gN 3))
 (sSeq (sAsg (fCB (gCall 1 (F_law_things T)) (fCons (fVar 2) fNil)) (gN 4))
 (sSeq (sIf (fB (fOp (gEq T (et T) true) (fCB (gCall 1 (F_law_things T)) (fCons (fVar 3) fNil)) (fVar 4)))
 (sRet (fC (.bl false))) sPass)
 (sSeq (sFor (fRng1 (fCons (fC (.int 21)) fNil)) (gN 5)
 (sSeq (sIf (fOr (fB (fOp (gEq T (et T) true) (fOp gIx (fVar 4) (fVar 5)) (fSl (fVar 1) fNoP (fPart (fCB gLen (fCons (fOp gIx (fVar 4) (fVar 5)) fNil)))))) (fOr (fNot (fB (fOp (gEq T (et T) false) (fOp gIx (fVar 2) (fVar 5)) (fOp gIx (fVar 3) (fVar 5))))) (fB (fOp (gEq T (et T) true) (fOp gIx (fVar 2) (fVar 5)) (fOp gIx (fVar 3) (fVar 5))))))
 (sRet (fC (.bl false))) sPass)
 (sSeq (sAsg (fCB gList (fCons (fVar 1) fNil)) (gN 6))
 (sSeq (sSet (fVar 6) (fCB (gCall 2 (F_law_draw T)) (fCons (fVar 0) (fCons (fCB gLen (fCons (fOp gIx (fVar 4) (fVar 5)) fNil)) fNil))) (fTup (fCons (fC (.str "changed")) (fCons (fC (.int 0)) fNil))))
 (sSeq (sAsg (fOp gIx (fCB (gCall 1 (F_law_results T)) (fCons (fVar 6) fNil)) (fVar 5)) (gN 7))
 (sSeq (sIf (fOr (fB (fOp (gEq T (et T) false) (fOp gIx (fVar 2) (fVar 5)) (fVar 7))) (fNot (fB (fOp (gEq T (et T) true) (fOp gIx (fVar 2) (fVar 5)) (fVar 7)))))
 (sRet (fC (.bl false))) sPass)
 (sFor (fRng1 (fCons (fC (.int 21)) fNil)) (gN 8)
 (sIf (fOr (fB (fOp (gEq T (et T) true) (fOp (gEq T (et T) false) (fOp gIx (fVar 2) (fVar 5)) (fOp gIx (fVar 2) (fVar 8))) (fOp (gEq T (et T) false) (fVar 5) (fVar 8)))) (fB (fOp (gEq T (et T) true) (fOp (gEq T (et T) true) (fOp gIx (fVar 2) (fVar 5)) (fOp gIx (fVar 2) (fVar 8))) (fOp (gEq T (et T) true) (fVar 5) (fVar 8)))))
 (sRet (fC (.bl false))) sPass))))))))
 (sRet (fOp (gEq T (et T) false) (fCB (gCall 1 (F_law_things T)) (fCons (fVar 2) fNil)) (fVar 4))))))))
def F_law_results_right (T : Tab) : FnF := fnRunN 9 (b_law_results_right T)
def blaw (T : Tab) : SF := (sSeq (sAsg (fCB (gCall 1 (F_law_hand T)) (fCons (fVar 0) fNil)) (gN 1))
 (sSeq (sFor (fRng1 (fCons (fC (.int 2)) fNil)) (gN 2)
 (sSeq (sAsg (fCB (gCall 1 (F_law_drawn T)) (fCons (fVar 1) fNil)) (gN 3))
 (sIf (fOr (fNot (fB (fCB (gCall 2 (F_law_errors_right T)) (fCons (fVar 1) (fCons (fVar 3) fNil))))) (fNot (fB (fCB (gCall 2 (F_law_results_right T)) (fCons (fVar 1) (fCons (fVar 3) fNil))))))
 (sRet (fC (.bl false))) sPass)))
 (sRet (fC (.bl true)))))
def Flaw (T : Tab) : FnF := fnRunN 4 (blaw T)
end Wk
end
/-! Wk2: the facts as a bundle; the makers of the classes. -/
namespace Wk
open PySem PySem.Spec PyProof.Rows L2 Vm He
theorem eqOk0 {P : Program} {w : World} {K : PySem.W.Frag} {mg : Str → Option Value} {base : Heap} {T : Tab} {k : Nat} : EqOk P w K mg base T k et0 := fun c F h => nomatch h
structure Fx (K : PySem.W.Frag) (mg : Str → Option Value) : Prop where
  TK : TabOk (tab K) K
  FO : ∀ f, FldOk (tab K) K f
  free : ∀ (i : Nat) {x : Str}, freeN[i]? = some x → mg x = none
  cls : ∀ (c : Nat) {x : Str}, clsN[c]? = some x → mg x = some (.ref ((tab K).adr c))
  def_ : ∀ (i : Nat) {x : Str}, defN[i]? = some x → mg x = some (.ref (ga K x))
  fun_ : ∀ (i : Nat) d, fn[i]? = some d → ∃ fd, FunD K d.name d.qual d.params d.body d.scope (d.dvs K) (d.kws K) (fAd K d.at_) fd
  init : ∀ c ∈ initR, PySem.W.findIn K (.ref ((tab K).adr c)) "__init__" = some (some (.ref (ma K (adr K c) "__init__"))) ∧ PySem.W.typeIn K (.ref (ma K (adr K c) "__init__")) = some (.type "function")
  bare : ∀ c ∈ bareR, ErrN K (tab K) c
  fld : ∀ c < 61, ∀ n ∈ fldN.getD c [], PySem.W.findIn K (.ref (adr K c)) n = some none
  ins : ∀ c ∈ insR, Mk K ((tab K).adr c) (ma K (adr K c) "__init__") ∧ Cls K ((tab K).adr c) ∧ EqC K ((tab K).adr c) (ma K (adr K c) "__eq__")
  ci : ClsI K (adr K 0)
section
variable {X : Cx} {T : Tab} {W : WX} {k : Nat}
structure CalM (P : Program) (w : World) (K : PySem.W.Frag) (mg : Str → Option Value) (base : Heap) (T : Tab) (x : Str) (L n : Nat) (F : FnF) : Prop where
  ex : ∃ f fd ps, ps.length = n ∧ mg x = some (.ref f) ∧ FnMd P w K mg base T L f fd ps F
theorem m_fn {n L : Nat} {F : FnF} {x : Str} {p pos : Pos} {ex : Expr} {es : List Expr} {fa : AF} (C : Ctx X W k) (c : CalM X.prog X.w X.K X.mg X.base T x L n F) (hk : L ≤ k) (ha : PAM X W T (ex :: es) fa) (hg : Gl X x := by rfl)
    (hdb : (x == ("__debug__" : Str)) = false := by decide) (he : starEach (ex :: es) X.env = (false, eval ex X.env) :: starEach es X.env := by rfl) (hpl : (backTo pos (starEach es X.env)).any (·.1) = false := by rfl) :
    PEM X W T (.Call (.Name x p) (ex :: es) [] pos) (fCB (gCall n F) fa) := by
  obtain ⟨f, fd, ps, hl, hm, FM⟩ := c.ex
  subst hl
  exact m_call C (FM.mono hk) hm ha hg hdb he hpl
structure ErrC (P : Program) (w : World) (K : PySem.W.Frag) (mg : Str → Option Value) (base : Heap) (T : Tab) (x : Str) (c : Nat) (ks : List Str) (pp : List Nat) : Prop where
  ex : ∃ fI fd ps, mg x = some (.ref (T.adr c)) ∧ ErrMk P w K mg base T 1 c fI fd ps ∧ Binds K fd ps [] ∧ BindK K fd ps ks pp
  nd : (T.names c).Nodup
structure InsK (P : Program) (w : World) (K : PySem.W.Frag) (mg : Str → Option Value) (base : Heap) (T : Tab) (x : Str) (c : Nat) (ks : List Str) (pp : List Nat) : Prop where
  ex : ∃ fI fd ps, mg x = some (.ref (T.adr c)) ∧ InsMk P w K mg base T 1 c fI fd ps ∧ Binds K fd ps [] ∧ BindK K fd ps ks pp
theorem errMono {P : Program} {w : World} {K : PySem.W.Frag} {mg : Str → Option Value} {base : Heap} {T : Tab} {j k c : Nat} {fI : Addr} {fd : FuncData} {ps : List Str} (h : ErrMk P w K mg base T j c fI fd ps) (hk : j ≤ k) : ErrMk P w K mg base T k c fI fd ps := ⟨h.is, h.iC, h.tI, h.no, h.ok.mono hk⟩
theorem insMono {P : Program} {w : World} {K : PySem.W.Frag} {mg : Str → Option Value} {base : Heap} {T : Tab} {j k c : Nat} {fI : Addr} {fd : FuncData} {ps : List Str} (h : InsMk P w K mg base T j c fI fd ps) (hk : j ≤ k) : InsMk P w K mg base T k c fI fd ps := ⟨h.is, h.M, h.cl, h.no, h.nd, h.ne, h.ok.mono hk⟩
variable {c : Nat} {x : Str} {p pos : Pos} {ex : Expr} {es : List Expr} {fa : AF} {ks : List Str} {pp : List Nat} {kws : List Keyword}
theorem x_err (C : Ctx X W (k + 1)) (TK : TabOk T X.K) (m : ErrC X.prog X.w X.K X.mg X.base T x c ks pp) (hk : 1 ≤ k) (ha : PAM X W T (ex :: es) fa) (hg : Gl X x := by rfl) (hdb : (x == ("__debug__" : Str)) = false := by decide) (he : starEach (ex :: es) X.env = (false, eval ex X.env) :: starEach es X.env := by rfl) (hpl : (backTo pos (starEach es X.env)).any (·.1) = false := by rfl) :
    PEM X W T (.Call (.Name x p) (ex :: es) [] pos) (fCB (gErr T c) fa) := by
  obtain ⟨fI, fd, ps, hm, EM, hb, _⟩ := m.ex
  exact m_err C TK (errMono EM hk) hb hm m.nd ha hg hdb he hpl
theorem x_err0 (C : Ctx X W (k + 1)) (TK : TabOk T X.K) (m : ErrC X.prog X.w X.K X.mg X.base T x c ks pp) (hk : 1 ≤ k) (hg : Gl X x := by rfl) (hdb : (x == ("__debug__" : Str)) = false := by decide) : PEM X W T (.Call (.Name x p) [] [] pos) (fCB (gErr T c) fNil) := by
  obtain ⟨fI, fd, ps, hm, EM, hb, _⟩ := m.ex
  exact m_err0 C TK (errMono EM hk) hb hm m.nd hg hdb
theorem x_errK (C : Ctx X W (k + 1)) (TK : TabOk T X.K) (m : ErrC X.prog X.w X.K X.mg X.base T x c ks pp) (hk : 1 ≤ k) (ha : PKM X W T kws fa) (hg : Gl X x := by rfl) (hall : (backToKw pos (keywordEach kws X.env)).all (·.1.isSome) = true := by rfl) (hks : (backToKw pos (keywordEach kws X.env)).filterMap (·.1) = ks := by rfl) (hdb : (x == ("__debug__" : Str)) = false := by decide)
    (hpl : ((backTo pos (starEach [] X.env)).any (·.1) || (backToKw pos (keywordEach kws X.env)).any (·.1.isNone)) = false := by rfl) : PEM X W T (.Call (.Name x p) [] kws pos) (fCB (gErrK T c ks.length pp) fa) := by
  obtain ⟨fI, fd, ps, hm, EM, _, hb⟩ := m.ex
  exact m_errK C TK (errMono EM hk) hb hm m.nd ha hg hall hks hdb hpl
theorem x_ins (C : Ctx X W (k + 1)) (m : InsK X.prog X.w X.K X.mg X.base T x c ks pp) (hk : 1 ≤ k) (ha : PAM X W T (ex :: es) fa) (hg : Gl X x := by rfl) (hdb : (x == ("__debug__" : Str)) = false := by decide) (he : starEach (ex :: es) X.env = (false, eval ex X.env) :: starEach es X.env := by rfl) (hpl : (backTo pos (starEach es X.env)).any (·.1) = false := by rfl) :
    PEM X W T (.Call (.Name x p) (ex :: es) [] pos) (fCB (gIns T c) fa) := by
  obtain ⟨fI, fd, ps, hm, EM, hb, _⟩ := m.ex
  exact m_ins C (insMono EM hk) hb hm ha hg hdb he hpl
theorem x_insK (C : Ctx X W (k + 1)) (m : InsK X.prog X.w X.K X.mg X.base T x c ks pp) (hk : 1 ≤ k) (ha : PKM X W T kws fa) (hg : Gl X x := by rfl) (hall : (backToKw pos (keywordEach kws X.env)).all (·.1.isSome) = true := by rfl) (hks : (backToKw pos (keywordEach kws X.env)).filterMap (·.1) = ks := by rfl) (hdb : (x == ("__debug__" : Str)) = false := by decide)
    (hpl : ((backTo pos (starEach [] X.env)).any (·.1) || (backToKw pos (keywordEach kws X.env)).any (·.1.isNone)) = false := by rfl) : PEM X W T (.Call (.Name x p) [] kws pos) (fCB (gInsK T c ks.length pp) fa) := by
  obtain ⟨fI, fd, ps, hm, EM, _, hb⟩ := m.ex
  exact m_insK C (insMono EM hk) hb hm ha hg hall hks hdb hpl
end
section
variable {K : PySem.W.Frag} {mg : Str → Option Value} (fx : Fx K mg) (P : Program) (w : World) (base : Heap)
include fx
theorem mk1 : ErrC P w K mg base (tab K) "BadField" 1 ["prime"] [0] := by
  obtain ⟨fd, F⟩ := fx.fun_ 0 d0 rfl
  exact ⟨⟨_, fd, ["self", "prime"], fx.cls 1 rfl, ⟨rfl, (fx.init 1 (by decide)).1, (fx.init 1 (by decide)).2, fx.fld 1 (by decide), ok_initH (N := ["self", "prime"]) (ps := ["self", "prime"]) (names := ["prime"]) F ⟨rfl, rfl, rfl, by decide +kernel, rfl, by decide +kernel, by decide +kernel⟩ rfl (by decide) rfl fun _ _ _ _ _ _ => (pss_cons (ps_expr (pe_clsinit fx.ci rfl (fx.cls 0 rfl) (pa_cons (pv 0) (pa_cons pe_str pa_nil)))) (pss_one (ps_ost (pv 0) (pv 1))))⟩, FunD.bindsN (ps := ["self", "prime"]) F fun _ _ _ _ _ _ us hl => match us, hl with | [_, _], _ => rfl, bindK_of (ps := ["self", "prime"]) (ks := ["prime"]) (pp := [0]) F fun _ _ _ _ _ _ _ ws hl => match ws, hl with | [_], _ => rfl⟩, by show (["prime"] : List Str).Nodup; decide⟩
theorem mk2 : ErrC P w K mg base (tab K) "BadNumber" 2 ["thing"] [0] := by
  obtain ⟨fd, F⟩ := fx.fun_ 1 d1 rfl
  exact ⟨⟨_, fd, ["self", "thing"], fx.cls 2 rfl, ⟨rfl, (fx.init 2 (by decide)).1, (fx.init 2 (by decide)).2, fx.fld 2 (by decide), ok_initH (N := ["self", "thing"]) (ps := ["self", "thing"]) (names := ["thing"]) F ⟨rfl, rfl, rfl, by decide +kernel, rfl, by decide +kernel, by decide +kernel⟩ rfl (by decide) rfl fun _ _ _ _ _ _ => (pss_cons (ps_expr (pe_clsinit fx.ci rfl (fx.cls 0 rfl) (pa_cons (pv 0) (pa_cons pe_str pa_nil)))) (pss_one (ps_ost (pv 0) (pv 1))))⟩, FunD.bindsN (ps := ["self", "thing"]) F fun _ _ _ _ _ _ us hl => match us, hl with | [_, _], _ => rfl, bindK_of (ps := ["self", "thing"]) (ks := ["thing"]) (pp := [0]) F fun _ _ _ _ _ _ _ ws hl => match ws, hl with | [_], _ => rfl⟩, by show (["thing"] : List Str).Nodup; decide⟩
theorem mk3 : ErrC P w K mg base (tab K) "MixedFields" 3 [] [] := by
  obtain ⟨fd, F⟩ := fx.fun_ 2 d2 rfl
  exact ⟨⟨_, fd, ["self"], fx.cls 3 rfl, ⟨rfl, (fx.init 3 (by decide)).1, (fx.init 3 (by decide)).2, fx.fld 3 (by decide), ok_initH0 (N := ["self"]) (ps := ["self"]) F ⟨rfl, rfl, rfl, by decide +kernel, rfl, by decide +kernel, by decide +kernel⟩ rfl rfl fun _ _ _ _ _ _ => (pss_one (ps_expr (pe_clsinit fx.ci rfl (fx.cls 0 rfl) (pa_cons (pv 0) (pa_cons pe_str pa_nil)))))⟩, FunD.bindsN (ps := ["self"]) F fun _ _ _ _ _ _ us hl => match us, hl with | [_], _ => rfl, bindK_of (ps := ["self"]) (ks := []) (pp := []) F fun _ _ _ _ _ _ _ ws hl => match ws, hl with | [], _ => rfl⟩, by show ([] : List Str).Nodup; decide⟩
theorem mk4 : ErrC P w K mg base (tab K) "BadText" 4 ["place"] [0] := by
  obtain ⟨fd, F⟩ := fx.fun_ 3 d3 rfl
  exact ⟨⟨_, fd, ["self", "place"], fx.cls 4 rfl, ⟨rfl, (fx.init 4 (by decide)).1, (fx.init 4 (by decide)).2, fx.fld 4 (by decide), ok_initH (N := ["self", "place"]) (ps := ["self", "place"]) (names := ["place"]) F ⟨rfl, rfl, rfl, by decide +kernel, rfl, by decide +kernel, by decide +kernel⟩ rfl (by decide) rfl fun _ _ _ _ _ _ => (pss_cons (ps_expr (pe_clsinit fx.ci rfl (fx.cls 0 rfl) (pa_cons (pv 0) (pa_cons pe_str pa_nil)))) (pss_one (ps_ost (pv 0) (pv 1))))⟩, FunD.bindsN (ps := ["self", "place"]) F fun _ _ _ _ _ _ us hl => match us, hl with | [_, _], _ => rfl, bindK_of (ps := ["self", "place"]) (ks := ["place"]) (pp := [0]) F fun _ _ _ _ _ _ _ ws hl => match ws, hl with | [_], _ => rfl⟩, by show (["place"] : List Str).Nodup; decide⟩
theorem mk5 : ErrC P w K mg base (tab K) "BadTable" 5 ["what"] [0] := by
  obtain ⟨fd, F⟩ := fx.fun_ 4 d4 rfl
  exact ⟨⟨_, fd, ["self", "what"], fx.cls 5 rfl, ⟨rfl, (fx.init 5 (by decide)).1, (fx.init 5 (by decide)).2, fx.fld 5 (by decide), ok_initH (N := ["self", "what"]) (ps := ["self", "what"]) (names := ["what"]) F ⟨rfl, rfl, rfl, by decide +kernel, rfl, by decide +kernel, by decide +kernel⟩ rfl (by decide) rfl fun _ _ _ _ _ _ => (pss_cons (ps_expr (pe_clsinit fx.ci rfl (fx.cls 0 rfl) (pa_cons (pv 0) (pa_cons pe_str pa_nil)))) (pss_one (ps_ost (pv 0) (pv 1))))⟩, FunD.bindsN (ps := ["self", "what"]) F fun _ _ _ _ _ _ us hl => match us, hl with | [_, _], _ => rfl, bindK_of (ps := ["self", "what"]) (ks := ["what"]) (pp := [0]) F fun _ _ _ _ _ _ _ ws hl => match ws, hl with | [_], _ => rfl⟩, by show (["what"] : List Str).Nodup; decide⟩
theorem mk6 : ErrC P w K mg base (tab K) "BadRow" 6 ["what"] [0] := by
  obtain ⟨fd, F⟩ := fx.fun_ 5 d5 rfl
  exact ⟨⟨_, fd, ["self", "what"], fx.cls 6 rfl, ⟨rfl, (fx.init 6 (by decide)).1, (fx.init 6 (by decide)).2, fx.fld 6 (by decide), ok_initH (N := ["self", "what"]) (ps := ["self", "what"]) (names := ["what"]) F ⟨rfl, rfl, rfl, by decide +kernel, rfl, by decide +kernel, by decide +kernel⟩ rfl (by decide) rfl fun _ _ _ _ _ _ => (pss_cons (ps_expr (pe_clsinit fx.ci rfl (fx.cls 0 rfl) (pa_cons (pv 0) (pa_cons pe_str pa_nil)))) (pss_one (ps_ost (pv 0) (pv 1))))⟩, FunD.bindsN (ps := ["self", "what"]) F fun _ _ _ _ _ _ us hl => match us, hl with | [_, _], _ => rfl, bindK_of (ps := ["self", "what"]) (ks := ["what"]) (pp := [0]) F fun _ _ _ _ _ _ _ ws hl => match ws, hl with | [_], _ => rfl⟩, by show (["what"] : List Str).Nodup; decide⟩
theorem mk7 : ErrC P w K mg base (tab K) "BadPlant" 7 ["at", "what"] [1, 0] := by
  obtain ⟨fd, F⟩ := fx.fun_ 6 d6 rfl
  exact ⟨⟨_, fd, ["self", "what", "at"], fx.cls 7 rfl, ⟨rfl, (fx.init 7 (by decide)).1, (fx.init 7 (by decide)).2, fx.fld 7 (by decide), ok_initE (N := ["self", "what", "at"]) (ps := ["self", "what", "at"]) (names := ["what", "at"]) F ⟨rfl, rfl, rfl, by decide +kernel, rfl, by decide +kernel, by decide +kernel⟩ rfl (by decide) rfl fun _ _ _ _ _ _ => (pss_cons (ps_ost (pv 0) (pv 1)) (pss_one (ps_ost (pv 0) (pv 2))))⟩, FunD.bindsN (ps := ["self", "what", "at"]) F fun _ _ _ _ _ _ us hl => match us, hl with | [_, _, _], _ => rfl, bindK_of (ps := ["self", "what", "at"]) (ks := ["at", "what"]) (pp := [1, 0]) F fun _ _ _ _ _ _ _ ws hl => match ws, hl with | [_, _], _ => rfl⟩, by show (["what", "at"] : List Str).Nodup; decide⟩
theorem mk8 : ErrC P w K mg base (tab K) "BadTicks" 8 ["ticks"] [0] := by
  obtain ⟨fd, F⟩ := fx.fun_ 7 d7 rfl
  exact ⟨⟨_, fd, ["self", "ticks"], fx.cls 8 rfl, ⟨rfl, (fx.init 8 (by decide)).1, (fx.init 8 (by decide)).2, fx.fld 8 (by decide), ok_initE (N := ["self", "ticks"]) (ps := ["self", "ticks"]) (names := ["ticks"]) F ⟨rfl, rfl, rfl, by decide +kernel, rfl, by decide +kernel, by decide +kernel⟩ rfl (by decide) rfl fun _ _ _ _ _ _ => (pss_one (ps_ost (pv 0) (pv 1)))⟩, FunD.bindsN (ps := ["self", "ticks"]) F fun _ _ _ _ _ _ us hl => match us, hl with | [_, _], _ => rfl, bindK_of (ps := ["self", "ticks"]) (ks := ["ticks"]) (pp := [0]) F fun _ _ _ _ _ _ _ ws hl => match ws, hl with | [_], _ => rfl⟩, by show (["ticks"] : List Str).Nodup; decide⟩
theorem mk9 : ErrC P w K mg base (tab K) "BadRecord" 9 ["what"] [0] := by
  obtain ⟨fd, F⟩ := fx.fun_ 8 d8 rfl
  exact ⟨⟨_, fd, ["self", "what"], fx.cls 9 rfl, ⟨rfl, (fx.init 9 (by decide)).1, (fx.init 9 (by decide)).2, fx.fld 9 (by decide), ok_initH (N := ["self", "what"]) (ps := ["self", "what"]) (names := ["what"]) F ⟨rfl, rfl, rfl, by decide +kernel, rfl, by decide +kernel, by decide +kernel⟩ rfl (by decide) rfl fun _ _ _ _ _ _ => (pss_cons (ps_expr (pe_clsinit fx.ci rfl (fx.cls 0 rfl) (pa_cons (pv 0) (pa_cons pe_str pa_nil)))) (pss_one (ps_ost (pv 0) (pv 1))))⟩, FunD.bindsN (ps := ["self", "what"]) F fun _ _ _ _ _ _ us hl => match us, hl with | [_, _], _ => rfl, bindK_of (ps := ["self", "what"]) (ks := ["what"]) (pp := [0]) F fun _ _ _ _ _ _ _ ws hl => match ws, hl with | [_], _ => rfl⟩, by show (["what"] : List Str).Nodup; decide⟩
theorem mk10 : ErrC P w K mg base (tab K) "BadCut" 10 ["high", "low"] [1, 0] := by
  obtain ⟨fd, F⟩ := fx.fun_ 9 d9 rfl
  exact ⟨⟨_, fd, ["self", "low", "high"], fx.cls 10 rfl, ⟨rfl, (fx.init 10 (by decide)).1, (fx.init 10 (by decide)).2, fx.fld 10 (by decide), ok_initH (N := ["self", "low", "high"]) (ps := ["self", "low", "high"]) (names := ["low", "high"]) F ⟨rfl, rfl, rfl, by decide +kernel, rfl, by decide +kernel, by decide +kernel⟩ rfl (by decide) rfl fun _ _ _ _ _ _ => (pss_cons (ps_expr (pe_clsinit fx.ci rfl (fx.cls 0 rfl) (pa_cons (pv 0) (pa_cons pe_str pa_nil)))) (pss_cons (ps_ost (pv 0) (pv 1)) (pss_one (ps_ost (pv 0) (pv 2)))))⟩, FunD.bindsN (ps := ["self", "low", "high"]) F fun _ _ _ _ _ _ us hl => match us, hl with | [_, _, _], _ => rfl, bindK_of (ps := ["self", "low", "high"]) (ks := ["high", "low"]) (pp := [1, 0]) F fun _ _ _ _ _ _ _ ws hl => match ws, hl with | [_, _], _ => rfl⟩, by show (["low", "high"] : List Str).Nodup; decide⟩
theorem mk11 : ErrC P w K mg base (tab K) "BadLot" 11 ["lot"] [0] := by
  obtain ⟨fd, F⟩ := fx.fun_ 10 d10 rfl
  exact ⟨⟨_, fd, ["self", "lot"], fx.cls 11 rfl, ⟨rfl, (fx.init 11 (by decide)).1, (fx.init 11 (by decide)).2, fx.fld 11 (by decide), ok_initH (N := ["self", "lot"]) (ps := ["self", "lot"]) (names := ["lot"]) F ⟨rfl, rfl, rfl, by decide +kernel, rfl, by decide +kernel, by decide +kernel⟩ rfl (by decide) rfl fun _ _ _ _ _ _ => (pss_cons (ps_expr (pe_clsinit fx.ci rfl (fx.cls 0 rfl) (pa_cons (pv 0) (pa_cons pe_str pa_nil)))) (pss_one (ps_ost (pv 0) (pv 1))))⟩, FunD.bindsN (ps := ["self", "lot"]) F fun _ _ _ _ _ _ us hl => match us, hl with | [_, _], _ => rfl, bindK_of (ps := ["self", "lot"]) (ks := ["lot"]) (pp := [0]) F fun _ _ _ _ _ _ _ ws hl => match ws, hl with | [_], _ => rfl⟩, by show (["lot"] : List Str).Nodup; decide⟩
theorem mk12 : ErrC P w K mg base (tab K) "NoFit" 12 [] [] := by
  obtain ⟨fd, F⟩ := fx.fun_ 11 d11 rfl
  exact ⟨⟨_, fd, ["self"], fx.cls 12 rfl, ⟨rfl, (fx.init 12 (by decide)).1, (fx.init 12 (by decide)).2, fx.fld 12 (by decide), ok_initH0 (N := ["self"]) (ps := ["self"]) F ⟨rfl, rfl, rfl, by decide +kernel, rfl, by decide +kernel, by decide +kernel⟩ rfl rfl fun _ _ _ _ _ _ => (pss_one (ps_expr (pe_clsinit fx.ci rfl (fx.cls 0 rfl) (pa_cons (pv 0) (pa_cons pe_str pa_nil)))))⟩, FunD.bindsN (ps := ["self"]) F fun _ _ _ _ _ _ us hl => match us, hl with | [_], _ => rfl, bindK_of (ps := ["self"]) (ks := []) (pp := []) F fun _ _ _ _ _ _ _ ws hl => match ws, hl with | [], _ => rfl⟩, by show ([] : List Str).Nodup; decide⟩
theorem mk13 : ErrC P w K mg base (tab K) "BadWrong" 13 ["wrong"] [0] := by
  obtain ⟨fd, F⟩ := fx.fun_ 12 d12 rfl
  exact ⟨⟨_, fd, ["self", "wrong"], fx.cls 13 rfl, ⟨rfl, (fx.init 13 (by decide)).1, (fx.init 13 (by decide)).2, fx.fld 13 (by decide), ok_initH (N := ["self", "wrong"]) (ps := ["self", "wrong"]) (names := ["wrong"]) F ⟨rfl, rfl, rfl, by decide +kernel, rfl, by decide +kernel, by decide +kernel⟩ rfl (by decide) rfl fun _ _ _ _ _ _ => (pss_cons (ps_expr (pe_clsinit fx.ci rfl (fx.cls 0 rfl) (pa_cons (pv 0) (pa_cons pe_str pa_nil)))) (pss_one (ps_ost (pv 0) (pv 1))))⟩, FunD.bindsN (ps := ["self", "wrong"]) F fun _ _ _ _ _ _ us hl => match us, hl with | [_, _], _ => rfl, bindK_of (ps := ["self", "wrong"]) (ks := ["wrong"]) (pp := [0]) F fun _ _ _ _ _ _ _ ws hl => match ws, hl with | [_], _ => rfl⟩, by show (["wrong"] : List Str).Nodup; decide⟩
theorem mk14 : ErrC P w K mg base (tab K) "BadAsker" 14 ["what"] [0] := by
  obtain ⟨fd, F⟩ := fx.fun_ 13 d13 rfl
  exact ⟨⟨_, fd, ["self", "what"], fx.cls 14 rfl, ⟨rfl, (fx.init 14 (by decide)).1, (fx.init 14 (by decide)).2, fx.fld 14 (by decide), ok_initE (N := ["self", "what"]) (ps := ["self", "what"]) (names := ["what"]) F ⟨rfl, rfl, rfl, by decide +kernel, rfl, by decide +kernel, by decide +kernel⟩ rfl (by decide) rfl fun _ _ _ _ _ _ => (pss_one (ps_ost (pv 0) (pv 1)))⟩, FunD.bindsN (ps := ["self", "what"]) F fun _ _ _ _ _ _ us hl => match us, hl with | [_, _], _ => rfl, bindK_of (ps := ["self", "what"]) (ks := ["what"]) (pp := [0]) F fun _ _ _ _ _ _ _ ws hl => match ws, hl with | [_], _ => rfl⟩, by show (["what"] : List Str).Nodup; decide⟩
theorem mk15 : ErrC P w K mg base (tab K) "Quarrel" 15 ["weights"] [0] := by
  obtain ⟨fd, F⟩ := fx.fun_ 14 d14 rfl
  exact ⟨⟨_, fd, ["self", "weights"], fx.cls 15 rfl, ⟨rfl, (fx.init 15 (by decide)).1, (fx.init 15 (by decide)).2, fx.fld 15 (by decide), ok_initE (N := ["self", "weights"]) (ps := ["self", "weights"]) (names := ["weights"]) F ⟨rfl, rfl, rfl, by decide +kernel, rfl, by decide +kernel, by decide +kernel⟩ rfl (by decide) rfl fun _ _ _ _ _ _ => (pss_one (ps_ost (pv 0) (pv 1)))⟩, FunD.bindsN (ps := ["self", "weights"]) F fun _ _ _ _ _ _ us hl => match us, hl with | [_, _], _ => rfl, bindK_of (ps := ["self", "weights"]) (ks := ["weights"]) (pp := [0]) F fun _ _ _ _ _ _ _ ws hl => match ws, hl with | [_], _ => rfl⟩, by show (["weights"] : List Str).Nodup; decide⟩
theorem mk16 : ErrC P w K mg base (tab K) "NotShown" 16 ["tick"] [0] := by
  obtain ⟨fd, F⟩ := fx.fun_ 15 d15 rfl
  exact ⟨⟨_, fd, ["self", "tick"], fx.cls 16 rfl, ⟨rfl, (fx.init 16 (by decide)).1, (fx.init 16 (by decide)).2, fx.fld 16 (by decide), ok_initE (N := ["self", "tick"]) (ps := ["self", "tick"]) (names := ["tick"]) F ⟨rfl, rfl, rfl, by decide +kernel, rfl, by decide +kernel, by decide +kernel⟩ rfl (by decide) rfl fun _ _ _ _ _ _ => (pss_one (ps_ost (pv 0) (pv 1)))⟩, FunD.bindsN (ps := ["self", "tick"]) F fun _ _ _ _ _ _ us hl => match us, hl with | [_, _], _ => rfl, bindK_of (ps := ["self", "tick"]) (ks := ["tick"]) (pp := [0]) F fun _ _ _ _ _ _ _ ws hl => match ws, hl with | [_], _ => rfl⟩, by show (["tick"] : List Str).Nodup; decide⟩
theorem mk17 : ErrC P w K mg base (tab K) "BadAhead" 17 ["what"] [0] := by
  obtain ⟨fd, F⟩ := fx.fun_ 16 d16 rfl
  exact ⟨⟨_, fd, ["self", "what"], fx.cls 17 rfl, ⟨rfl, (fx.init 17 (by decide)).1, (fx.init 17 (by decide)).2, fx.fld 17 (by decide), ok_initH (N := ["self", "what"]) (ps := ["self", "what"]) (names := ["what"]) F ⟨rfl, rfl, rfl, by decide +kernel, rfl, by decide +kernel, by decide +kernel⟩ rfl (by decide) rfl fun _ _ _ _ _ _ => (pss_cons (ps_expr (pe_clsinit fx.ci rfl (fx.cls 0 rfl) (pa_cons (pv 0) (pa_cons pe_str pa_nil)))) (pss_one (ps_ost (pv 0) (pv 1))))⟩, FunD.bindsN (ps := ["self", "what"]) F fun _ _ _ _ _ _ us hl => match us, hl with | [_, _], _ => rfl, bindK_of (ps := ["self", "what"]) (ks := ["what"]) (pp := [0]) F fun _ _ _ _ _ _ _ ws hl => match ws, hl with | [_], _ => rfl⟩, by show (["what"] : List Str).Nodup; decide⟩
theorem mk18 : ErrC P w K mg base (tab K) "BadLine" 18 ["what"] [0] := by
  obtain ⟨fd, F⟩ := fx.fun_ 17 d17 rfl
  exact ⟨⟨_, fd, ["self", "what"], fx.cls 18 rfl, ⟨rfl, (fx.init 18 (by decide)).1, (fx.init 18 (by decide)).2, fx.fld 18 (by decide), ok_initH (N := ["self", "what"]) (ps := ["self", "what"]) (names := ["what"]) F ⟨rfl, rfl, rfl, by decide +kernel, rfl, by decide +kernel, by decide +kernel⟩ rfl (by decide) rfl fun _ _ _ _ _ _ => (pss_cons (ps_expr (pe_clsinit fx.ci rfl (fx.cls 0 rfl) (pa_cons (pv 0) (pa_cons pe_str pa_nil)))) (pss_one (ps_ost (pv 0) (pv 1))))⟩, FunD.bindsN (ps := ["self", "what"]) F fun _ _ _ _ _ _ us hl => match us, hl with | [_, _], _ => rfl, bindK_of (ps := ["self", "what"]) (ks := ["what"]) (pp := [0]) F fun _ _ _ _ _ _ _ ws hl => match ws, hl with | [_], _ => rfl⟩, by show (["what"] : List Str).Nodup; decide⟩
theorem mk19 : ErrC P w K mg base (tab K) "BadSamples" 19 ["what"] [0] := by
  obtain ⟨fd, F⟩ := fx.fun_ 18 d18 rfl
  exact ⟨⟨_, fd, ["self", "what"], fx.cls 19 rfl, ⟨rfl, (fx.init 19 (by decide)).1, (fx.init 19 (by decide)).2, fx.fld 19 (by decide), ok_initH (N := ["self", "what"]) (ps := ["self", "what"]) (names := ["what"]) F ⟨rfl, rfl, rfl, by decide +kernel, rfl, by decide +kernel, by decide +kernel⟩ rfl (by decide) rfl fun _ _ _ _ _ _ => (pss_cons (ps_expr (pe_clsinit fx.ci rfl (fx.cls 0 rfl) (pa_cons (pv 0) (pa_cons pe_str pa_nil)))) (pss_one (ps_ost (pv 0) (pv 1))))⟩, FunD.bindsN (ps := ["self", "what"]) F fun _ _ _ _ _ _ us hl => match us, hl with | [_, _], _ => rfl, bindK_of (ps := ["self", "what"]) (ks := ["what"]) (pp := [0]) F fun _ _ _ _ _ _ _ ws hl => match ws, hl with | [_], _ => rfl⟩, by show (["what"] : List Str).Nodup; decide⟩
theorem mk20 : ErrC P w K mg base (tab K) "BadReacher" 20 ["what"] [0] := by
  obtain ⟨fd, F⟩ := fx.fun_ 19 d19 rfl
  exact ⟨⟨_, fd, ["self", "what"], fx.cls 20 rfl, ⟨rfl, (fx.init 20 (by decide)).1, (fx.init 20 (by decide)).2, fx.fld 20 (by decide), ok_initE (N := ["self", "what"]) (ps := ["self", "what"]) (names := ["what"]) F ⟨rfl, rfl, rfl, by decide +kernel, rfl, by decide +kernel, by decide +kernel⟩ rfl (by decide) rfl fun _ _ _ _ _ _ => (pss_one (ps_ost (pv 0) (pv 1)))⟩, FunD.bindsN (ps := ["self", "what"]) F fun _ _ _ _ _ _ us hl => match us, hl with | [_, _], _ => rfl, bindK_of (ps := ["self", "what"]) (ks := ["what"]) (pp := [0]) F fun _ _ _ _ _ _ _ ws hl => match ws, hl with | [_], _ => rfl⟩, by show (["what"] : List Str).Nodup; decide⟩
theorem mk22 : ErrC P w K mg base (tab K) "BadFoe" 22 ["what"] [0] := by
  obtain ⟨fd, F⟩ := fx.fun_ 20 d20 rfl
  exact ⟨⟨_, fd, ["self", "what"], fx.cls 22 rfl, ⟨rfl, (fx.init 22 (by decide)).1, (fx.init 22 (by decide)).2, fx.fld 22 (by decide), ok_initE (N := ["self", "what"]) (ps := ["self", "what"]) (names := ["what"]) F ⟨rfl, rfl, rfl, by decide +kernel, rfl, by decide +kernel, by decide +kernel⟩ rfl (by decide) rfl fun _ _ _ _ _ _ => (pss_one (ps_ost (pv 0) (pv 1)))⟩, FunD.bindsN (ps := ["self", "what"]) F fun _ _ _ _ _ _ us hl => match us, hl with | [_, _], _ => rfl, bindK_of (ps := ["self", "what"]) (ks := ["what"]) (pp := [0]) F fun _ _ _ _ _ _ _ ws hl => match ws, hl with | [_], _ => rfl⟩, by show (["what"] : List Str).Nodup; decide⟩
theorem mk23 : ErrC P w K mg base (tab K) "TooSmall" 23 ["prime"] [0] := by
  obtain ⟨fd, F⟩ := fx.fun_ 21 d21 rfl
  exact ⟨⟨_, fd, ["self", "prime"], fx.cls 23 rfl, ⟨rfl, (fx.init 23 (by decide)).1, (fx.init 23 (by decide)).2, fx.fld 23 (by decide), ok_initE (N := ["self", "prime"]) (ps := ["self", "prime"]) (names := ["prime"]) F ⟨rfl, rfl, rfl, by decide +kernel, rfl, by decide +kernel, by decide +kernel⟩ rfl (by decide) rfl fun _ _ _ _ _ _ => (pss_one (ps_ost (pv 0) (pv 1)))⟩, FunD.bindsN (ps := ["self", "prime"]) F fun _ _ _ _ _ _ us hl => match us, hl with | [_, _], _ => rfl, bindK_of (ps := ["self", "prime"]) (ks := ["prime"]) (pp := [0]) F fun _ _ _ _ _ _ _ ws hl => match ws, hl with | [_], _ => rfl⟩, by show (["prime"] : List Str).Nodup; decide⟩
theorem mk24 : ErrC P w K mg base (tab K) "BadProgram" 24 ["at", "what"] [1, 0] := by
  obtain ⟨fd, F⟩ := fx.fun_ 22 d22 rfl
  exact ⟨⟨_, fd, ["self", "what", "at"], fx.cls 24 rfl, ⟨rfl, (fx.init 24 (by decide)).1, (fx.init 24 (by decide)).2, fx.fld 24 (by decide), ok_initE (N := ["self", "what", "at"]) (ps := ["self", "what", "at"]) (names := ["what", "at"]) F ⟨rfl, rfl, rfl, by decide +kernel, rfl, by decide +kernel, by decide +kernel⟩ rfl (by decide) rfl fun _ _ _ _ _ _ => (pss_cons (ps_ost (pv 0) (pv 1)) (pss_one (ps_ost (pv 0) (pv 2))))⟩, FunD.bindsN (ps := ["self", "what", "at"]) F fun _ _ _ _ _ _ us hl => match us, hl with | [_, _, _], _ => rfl, bindK_of (ps := ["self", "what", "at"]) (ks := ["at", "what"]) (pp := [1, 0]) F fun _ _ _ _ _ _ _ ws hl => match ws, hl with | [_, _], _ => rfl⟩, by show (["what", "at"] : List Str).Nodup; decide⟩
theorem mk25 : ErrC P w K mg base (tab K) "BadFit" 25 ["what"] [0] := by
  obtain ⟨fd, F⟩ := fx.fun_ 23 d23 rfl
  exact ⟨⟨_, fd, ["self", "what"], fx.cls 25 rfl, ⟨rfl, (fx.init 25 (by decide)).1, (fx.init 25 (by decide)).2, fx.fld 25 (by decide), ok_initE (N := ["self", "what"]) (ps := ["self", "what"]) (names := ["what"]) F ⟨rfl, rfl, rfl, by decide +kernel, rfl, by decide +kernel, by decide +kernel⟩ rfl (by decide) rfl fun _ _ _ _ _ _ => (pss_one (ps_ost (pv 0) (pv 1)))⟩, FunD.bindsN (ps := ["self", "what"]) F fun _ _ _ _ _ _ us hl => match us, hl with | [_, _], _ => rfl, bindK_of (ps := ["self", "what"]) (ks := ["what"]) (pp := [0]) F fun _ _ _ _ _ _ _ ws hl => match ws, hl with | [_], _ => rfl⟩, by show (["what"] : List Str).Nodup; decide⟩
theorem mk26 : ErrC P w K mg base (tab K) "NoState" 26 ["state"] [0] := by
  obtain ⟨fd, F⟩ := fx.fun_ 24 d24 rfl
  exact ⟨⟨_, fd, ["self", "state"], fx.cls 26 rfl, ⟨rfl, (fx.init 26 (by decide)).1, (fx.init 26 (by decide)).2, fx.fld 26 (by decide), ok_initE (N := ["self", "state"]) (ps := ["self", "state"]) (names := ["state"]) F ⟨rfl, rfl, rfl, by decide +kernel, rfl, by decide +kernel, by decide +kernel⟩ rfl (by decide) rfl fun _ _ _ _ _ _ => (pss_one (ps_ost (pv 0) (pv 1)))⟩, FunD.bindsN (ps := ["self", "state"]) F fun _ _ _ _ _ _ us hl => match us, hl with | [_, _], _ => rfl, bindK_of (ps := ["self", "state"]) (ks := ["state"]) (pp := [0]) F fun _ _ _ _ _ _ _ ws hl => match ws, hl with | [_], _ => rfl⟩, by show (["state"] : List Str).Nodup; decide⟩
theorem mk27 : ErrC P w K mg base (tab K) "BadBox" 27 ["what"] [0] := by
  obtain ⟨fd, F⟩ := fx.fun_ 25 d25 rfl
  exact ⟨⟨_, fd, ["self", "what"], fx.cls 27 rfl, ⟨rfl, (fx.init 27 (by decide)).1, (fx.init 27 (by decide)).2, fx.fld 27 (by decide), ok_initE (N := ["self", "what"]) (ps := ["self", "what"]) (names := ["what"]) F ⟨rfl, rfl, rfl, by decide +kernel, rfl, by decide +kernel, by decide +kernel⟩ rfl (by decide) rfl fun _ _ _ _ _ _ => (pss_one (ps_ost (pv 0) (pv 1)))⟩, FunD.bindsN (ps := ["self", "what"]) F fun _ _ _ _ _ _ us hl => match us, hl with | [_, _], _ => rfl, bindK_of (ps := ["self", "what"]) (ks := ["what"]) (pp := [0]) F fun _ _ _ _ _ _ _ ws hl => match ws, hl with | [_], _ => rfl⟩, by show (["what"] : List Str).Nodup; decide⟩
theorem mk28 : ErrC P w K mg base (tab K) "BadBounds" 28 ["what"] [0] := by
  obtain ⟨fd, F⟩ := fx.fun_ 26 d26 rfl
  exact ⟨⟨_, fd, ["self", "what"], fx.cls 28 rfl, ⟨rfl, (fx.init 28 (by decide)).1, (fx.init 28 (by decide)).2, fx.fld 28 (by decide), ok_initE (N := ["self", "what"]) (ps := ["self", "what"]) (names := ["what"]) F ⟨rfl, rfl, rfl, by decide +kernel, rfl, by decide +kernel, by decide +kernel⟩ rfl (by decide) rfl fun _ _ _ _ _ _ => (pss_one (ps_ost (pv 0) (pv 1)))⟩, FunD.bindsN (ps := ["self", "what"]) F fun _ _ _ _ _ _ us hl => match us, hl with | [_, _], _ => rfl, bindK_of (ps := ["self", "what"]) (ks := ["what"]) (pp := [0]) F fun _ _ _ _ _ _ _ ws hl => match ws, hl with | [_], _ => rfl⟩, by show (["what"] : List Str).Nodup; decide⟩
theorem mk29 : ErrC P w K mg base (tab K) "Outside" 29 ["state"] [0] := by
  obtain ⟨fd, F⟩ := fx.fun_ 27 d27 rfl
  exact ⟨⟨_, fd, ["self", "state"], fx.cls 29 rfl, ⟨rfl, (fx.init 29 (by decide)).1, (fx.init 29 (by decide)).2, fx.fld 29 (by decide), ok_initE (N := ["self", "state"]) (ps := ["self", "state"]) (names := ["state"]) F ⟨rfl, rfl, rfl, by decide +kernel, rfl, by decide +kernel, by decide +kernel⟩ rfl (by decide) rfl fun _ _ _ _ _ _ => (pss_one (ps_ost (pv 0) (pv 1)))⟩, FunD.bindsN (ps := ["self", "state"]) F fun _ _ _ _ _ _ us hl => match us, hl with | [_, _], _ => rfl, bindK_of (ps := ["self", "state"]) (ks := ["state"]) (pp := [0]) F fun _ _ _ _ _ _ _ ws hl => match ws, hl with | [_], _ => rfl⟩, by show (["state"] : List Str).Nodup; decide⟩
theorem mk30 : ErrC P w K mg base (tab K) "BadSchedule" 30 ["at", "what"] [1, 0] := by
  obtain ⟨fd, F⟩ := fx.fun_ 28 d28 rfl
  exact ⟨⟨_, fd, ["self", "what", "at"], fx.cls 30 rfl, ⟨rfl, (fx.init 30 (by decide)).1, (fx.init 30 (by decide)).2, fx.fld 30 (by decide), ok_initH (N := ["self", "what", "at"]) (ps := ["self", "what", "at"]) (names := ["what", "at"]) F ⟨rfl, rfl, rfl, by decide +kernel, rfl, by decide +kernel, by decide +kernel⟩ rfl (by decide) rfl fun _ _ _ _ _ _ => (pss_cons (ps_expr (pe_clsinit fx.ci rfl (fx.cls 0 rfl) (pa_cons (pv 0) (pa_cons pe_str pa_nil)))) (pss_cons (ps_ost (pv 0) (pv 1)) (pss_one (ps_ost (pv 0) (pv 2)))))⟩, FunD.bindsN (ps := ["self", "what", "at"]) F fun _ _ _ _ _ _ us hl => match us, hl with | [_, _, _], _ => rfl, bindK_of (ps := ["self", "what", "at"]) (ks := ["at", "what"]) (pp := [1, 0]) F fun _ _ _ _ _ _ _ ws hl => match ws, hl with | [_, _], _ => rfl⟩, by show (["what", "at"] : List Str).Nodup; decide⟩
theorem mk31 : ErrC P w K mg base (tab K) "BadChanger" 31 ["what"] [0] := by
  obtain ⟨fd, F⟩ := fx.fun_ 29 d29 rfl
  exact ⟨⟨_, fd, ["self", "what"], fx.cls 31 rfl, ⟨rfl, (fx.init 31 (by decide)).1, (fx.init 31 (by decide)).2, fx.fld 31 (by decide), ok_initH (N := ["self", "what"]) (ps := ["self", "what"]) (names := ["what"]) F ⟨rfl, rfl, rfl, by decide +kernel, rfl, by decide +kernel, by decide +kernel⟩ rfl (by decide) rfl fun _ _ _ _ _ _ => (pss_cons (ps_expr (pe_clsinit fx.ci rfl (fx.cls 0 rfl) (pa_cons (pv 0) (pa_cons pe_str pa_nil)))) (pss_one (ps_ost (pv 0) (pv 1))))⟩, FunD.bindsN (ps := ["self", "what"]) F fun _ _ _ _ _ _ us hl => match us, hl with | [_, _], _ => rfl, bindK_of (ps := ["self", "what"]) (ks := ["what"]) (pp := [0]) F fun _ _ _ _ _ _ _ ws hl => match ws, hl with | [_], _ => rfl⟩, by show (["what"] : List Str).Nodup; decide⟩
theorem mk32 : ErrC P w K mg base (tab K) "BadDesk" 32 ["what"] [0] := by
  obtain ⟨fd, F⟩ := fx.fun_ 30 d30 rfl
  exact ⟨⟨_, fd, ["self", "what"], fx.cls 32 rfl, ⟨rfl, (fx.init 32 (by decide)).1, (fx.init 32 (by decide)).2, fx.fld 32 (by decide), ok_initH (N := ["self", "what"]) (ps := ["self", "what"]) (names := ["what"]) F ⟨rfl, rfl, rfl, by decide +kernel, rfl, by decide +kernel, by decide +kernel⟩ rfl (by decide) rfl fun _ _ _ _ _ _ => (pss_cons (ps_expr (pe_clsinit fx.ci rfl (fx.cls 0 rfl) (pa_cons (pv 0) (pa_cons pe_str pa_nil)))) (pss_one (ps_ost (pv 0) (pv 1))))⟩, FunD.bindsN (ps := ["self", "what"]) F fun _ _ _ _ _ _ us hl => match us, hl with | [_, _], _ => rfl, bindK_of (ps := ["self", "what"]) (ks := ["what"]) (pp := [0]) F fun _ _ _ _ _ _ _ ws hl => match ws, hl with | [_], _ => rfl⟩, by show (["what"] : List Str).Nodup; decide⟩
theorem mk33 : ErrC P w K mg base (tab K) "BadDeed" 33 ["what"] [0] := by
  obtain ⟨fd, F⟩ := fx.fun_ 31 d31 rfl
  exact ⟨⟨_, fd, ["self", "what"], fx.cls 33 rfl, ⟨rfl, (fx.init 33 (by decide)).1, (fx.init 33 (by decide)).2, fx.fld 33 (by decide), ok_initH (N := ["self", "what"]) (ps := ["self", "what"]) (names := ["what"]) F ⟨rfl, rfl, rfl, by decide +kernel, rfl, by decide +kernel, by decide +kernel⟩ rfl (by decide) rfl fun _ _ _ _ _ _ => (pss_cons (ps_expr (pe_clsinit fx.ci rfl (fx.cls 0 rfl) (pa_cons (pv 0) (pa_cons pe_str pa_nil)))) (pss_one (ps_ost (pv 0) (pv 1))))⟩, FunD.bindsN (ps := ["self", "what"]) F fun _ _ _ _ _ _ us hl => match us, hl with | [_, _], _ => rfl, bindK_of (ps := ["self", "what"]) (ks := ["what"]) (pp := [0]) F fun _ _ _ _ _ _ _ ws hl => match ws, hl with | [_], _ => rfl⟩, by show (["what"] : List Str).Nodup; decide⟩
theorem mk34 : ErrC P w K mg base (tab K) "NoPlant" 34 [] [] := by
  obtain ⟨fd, F⟩ := fx.fun_ 32 d32 rfl
  exact ⟨⟨_, fd, ["self"], fx.cls 34 rfl, ⟨rfl, (fx.init 34 (by decide)).1, (fx.init 34 (by decide)).2, fx.fld 34 (by decide), ok_initH0 (N := ["self"]) (ps := ["self"]) F ⟨rfl, rfl, rfl, by decide +kernel, rfl, by decide +kernel, by decide +kernel⟩ rfl rfl fun _ _ _ _ _ _ => (pss_one (ps_expr (pe_clsinit fx.ci rfl (fx.cls 0 rfl) (pa_cons (pv 0) (pa_cons pe_str pa_nil)))))⟩, FunD.bindsN (ps := ["self"]) F fun _ _ _ _ _ _ us hl => match us, hl with | [_], _ => rfl, bindK_of (ps := ["self"]) (ks := []) (pp := []) F fun _ _ _ _ _ _ _ ws hl => match ws, hl with | [], _ => rfl⟩, by show ([] : List Str).Nodup; decide⟩
theorem mk35 : ErrC P w K mg base (tab K) "NoRun" 35 [] [] := by
  obtain ⟨fd, F⟩ := fx.fun_ 33 d33 rfl
  exact ⟨⟨_, fd, ["self"], fx.cls 35 rfl, ⟨rfl, (fx.init 35 (by decide)).1, (fx.init 35 (by decide)).2, fx.fld 35 (by decide), ok_initH0 (N := ["self"]) (ps := ["self"]) F ⟨rfl, rfl, rfl, by decide +kernel, rfl, by decide +kernel, by decide +kernel⟩ rfl rfl fun _ _ _ _ _ _ => (pss_one (ps_expr (pe_clsinit fx.ci rfl (fx.cls 0 rfl) (pa_cons (pv 0) (pa_cons pe_str pa_nil)))))⟩, FunD.bindsN (ps := ["self"]) F fun _ _ _ _ _ _ us hl => match us, hl with | [_], _ => rfl, bindK_of (ps := ["self"]) (ks := []) (pp := []) F fun _ _ _ _ _ _ _ ws hl => match ws, hl with | [], _ => rfl⟩, by show ([] : List Str).Nodup; decide⟩
theorem mk36 : ErrC P w K mg base (tab K) "NoDuty" 36 [] [] := by
  obtain ⟨fd, F⟩ := fx.fun_ 34 d34 rfl
  exact ⟨⟨_, fd, ["self"], fx.cls 36 rfl, ⟨rfl, (fx.init 36 (by decide)).1, (fx.init 36 (by decide)).2, fx.fld 36 (by decide), ok_initH0 (N := ["self"]) (ps := ["self"]) F ⟨rfl, rfl, rfl, by decide +kernel, rfl, by decide +kernel, by decide +kernel⟩ rfl rfl fun _ _ _ _ _ _ => (pss_one (ps_expr (pe_clsinit fx.ci rfl (fx.cls 0 rfl) (pa_cons (pv 0) (pa_cons pe_str pa_nil)))))⟩, FunD.bindsN (ps := ["self"]) F fun _ _ _ _ _ _ us hl => match us, hl with | [_], _ => rfl, bindK_of (ps := ["self"]) (ks := []) (pp := []) F fun _ _ _ _ _ _ _ ws hl => match ws, hl with | [], _ => rfl⟩, by show ([] : List Str).Nodup; decide⟩
theorem mk37 : ErrC P w K mg base (tab K) "LongRun" 37 [] [] := by
  obtain ⟨fd, F⟩ := fx.fun_ 35 d35 rfl
  exact ⟨⟨_, fd, ["self"], fx.cls 37 rfl, ⟨rfl, (fx.init 37 (by decide)).1, (fx.init 37 (by decide)).2, fx.fld 37 (by decide), ok_initH0 (N := ["self"]) (ps := ["self"]) F ⟨rfl, rfl, rfl, by decide +kernel, rfl, by decide +kernel, by decide +kernel⟩ rfl rfl fun _ _ _ _ _ _ => (pss_one (ps_expr (pe_clsinit fx.ci rfl (fx.cls 0 rfl) (pa_cons (pv 0) (pa_cons pe_str pa_nil)))))⟩, FunD.bindsN (ps := ["self"]) F fun _ _ _ _ _ _ us hl => match us, hl with | [_], _ => rfl, bindK_of (ps := ["self"]) (ks := []) (pp := []) F fun _ _ _ _ _ _ _ ws hl => match ws, hl with | [], _ => rfl⟩, by show ([] : List Str).Nodup; decide⟩
theorem mk38 : ErrC P w K mg base (tab K) "Idle" 38 [] [] := by
  obtain ⟨fd, F⟩ := fx.fun_ 36 d36 rfl
  exact ⟨⟨_, fd, ["self"], fx.cls 38 rfl, ⟨rfl, (fx.init 38 (by decide)).1, (fx.init 38 (by decide)).2, fx.fld 38 (by decide), ok_initH0 (N := ["self"]) (ps := ["self"]) F ⟨rfl, rfl, rfl, by decide +kernel, rfl, by decide +kernel, by decide +kernel⟩ rfl rfl fun _ _ _ _ _ _ => (pss_one (ps_expr (pe_clsinit fx.ci rfl (fx.cls 0 rfl) (pa_cons (pv 0) (pa_cons pe_str pa_nil)))))⟩, FunD.bindsN (ps := ["self"]) F fun _ _ _ _ _ _ us hl => match us, hl with | [_], _ => rfl, bindK_of (ps := ["self"]) (ks := []) (pp := []) F fun _ _ _ _ _ _ _ ws hl => match ws, hl with | [], _ => rfl⟩, by show ([] : List Str).Nodup; decide⟩
theorem mk39 : ErrC P w K mg base (tab K) "NoDeed" 39 [] [] := by
  obtain ⟨fd, F⟩ := fx.fun_ 37 d37 rfl
  exact ⟨⟨_, fd, ["self"], fx.cls 39 rfl, ⟨rfl, (fx.init 39 (by decide)).1, (fx.init 39 (by decide)).2, fx.fld 39 (by decide), ok_initH0 (N := ["self"]) (ps := ["self"]) F ⟨rfl, rfl, rfl, by decide +kernel, rfl, by decide +kernel, by decide +kernel⟩ rfl rfl fun _ _ _ _ _ _ => (pss_one (ps_expr (pe_clsinit fx.ci rfl (fx.cls 0 rfl) (pa_cons (pv 0) (pa_cons pe_str pa_nil)))))⟩, FunD.bindsN (ps := ["self"]) F fun _ _ _ _ _ _ us hl => match us, hl with | [_], _ => rfl, bindK_of (ps := ["self"]) (ks := []) (pp := []) F fun _ _ _ _ _ _ _ ws hl => match ws, hl with | [], _ => rfl⟩, by show ([] : List Str).Nodup; decide⟩
theorem mk40 : InsK P w K mg base (tab K) "Unlearnt" 40 ["other", "plant", "start", "silent"] [1, 2, 3, 0] := by
  obtain ⟨fd, F⟩ := fx.fun_ 38 d38 rfl
  exact ⟨_, fd, ["self", "plant", "start", "silent", "other"], fx.cls 40 rfl, ⟨rfl, (fx.ins 40 (by decide)).1, (fx.ins 40 (by decide)).2.1, fx.fld 40 (by decide), by show (["plant", "start", "silent", "other"] : List Str).Nodup; decide, (fun z => nomatch z), ok_initI (N := ["self", "plant", "start", "silent", "other"]) (ps := ["self", "plant", "start", "silent", "other"]) (names := ["plant", "start", "silent", "other"]) F ⟨rfl, rfl, rfl, by decide +kernel, rfl, by decide +kernel, by decide +kernel⟩ rfl (by decide) rfl fun _ _ _ _ _ _ => (pss_cons (ps_fld (pv 0) (pv 1) rfl) (pss_cons (ps_fld (pv 0) (pv 2) rfl) (pss_cons (ps_fld (pv 0) (pv 3) rfl) (pss_one (ps_fld (pv 0) (pv 4) rfl)))))⟩, FunD.bindsN (ps := ["self", "plant", "start", "silent", "other"]) F fun _ _ _ _ _ _ us hl => match us, hl with | [_, _, _, _, _], _ => rfl, bindK_of (ps := ["self", "plant", "start", "silent", "other"]) (ks := ["other", "plant", "start", "silent"]) (pp := [1, 2, 3, 0]) F fun _ _ _ _ _ _ _ ws hl => match ws, hl with | [_, _, _, _], _ => rfl⟩
theorem mk41 : InsK P w K mg base (tab K) "Optimum" 41 ["weights", "point"] [1, 0] := by
  obtain ⟨fd, F⟩ := fx.fun_ 39 d39 rfl
  exact ⟨_, fd, ["self", "point", "weights"], fx.cls 41 rfl, ⟨rfl, (fx.ins 41 (by decide)).1, (fx.ins 41 (by decide)).2.1, fx.fld 41 (by decide), by show (["point", "weights"] : List Str).Nodup; decide, (fun z => nomatch z), ok_initI (N := ["self", "point", "weights"]) (ps := ["self", "point", "weights"]) (names := ["point", "weights"]) F ⟨rfl, rfl, rfl, by decide +kernel, rfl, by decide +kernel, by decide +kernel⟩ rfl (by decide) rfl fun _ _ _ _ _ _ => (pss_cons (ps_fld (pv 0) (pv 1) rfl) (pss_one (ps_fld (pv 0) (pv 2) rfl)))⟩, FunD.bindsN (ps := ["self", "point", "weights"]) F fun _ _ _ _ _ _ us hl => match us, hl with | [_, _, _], _ => rfl, bindK_of (ps := ["self", "point", "weights"]) (ks := ["weights", "point"]) (pp := [1, 0]) F fun _ _ _ _ _ _ _ ws hl => match ws, hl with | [_, _], _ => rfl⟩
theorem mk42 : InsK P w K mg base (tab K) "Infeasible" 42 ["weights"] [0] := by
  obtain ⟨fd, F⟩ := fx.fun_ 40 d40 rfl
  exact ⟨_, fd, ["self", "weights"], fx.cls 42 rfl, ⟨rfl, (fx.ins 42 (by decide)).1, (fx.ins 42 (by decide)).2.1, fx.fld 42 (by decide), by show (["weights"] : List Str).Nodup; decide, (fun z => nomatch z), ok_initI (N := ["self", "weights"]) (ps := ["self", "weights"]) (names := ["weights"]) F ⟨rfl, rfl, rfl, by decide +kernel, rfl, by decide +kernel, by decide +kernel⟩ rfl (by decide) rfl fun _ _ _ _ _ _ => (pss_one (ps_fld (pv 0) (pv 1) rfl))⟩, FunD.bindsN (ps := ["self", "weights"]) F fun _ _ _ _ _ _ us hl => match us, hl with | [_, _], _ => rfl, bindK_of (ps := ["self", "weights"]) (ks := ["weights"]) (pp := [0]) F fun _ _ _ _ _ _ _ ws hl => match ws, hl with | [_], _ => rfl⟩
theorem mk43 : InsK P w K mg base (tab K) "Unbounded" 43 ["ray", "point"] [1, 0] := by
  obtain ⟨fd, F⟩ := fx.fun_ 41 d41 rfl
  exact ⟨_, fd, ["self", "point", "ray"], fx.cls 43 rfl, ⟨rfl, (fx.ins 43 (by decide)).1, (fx.ins 43 (by decide)).2.1, fx.fld 43 (by decide), by show (["point", "ray"] : List Str).Nodup; decide, (fun z => nomatch z), ok_initI (N := ["self", "point", "ray"]) (ps := ["self", "point", "ray"]) (names := ["point", "ray"]) F ⟨rfl, rfl, rfl, by decide +kernel, rfl, by decide +kernel, by decide +kernel⟩ rfl (by decide) rfl fun _ _ _ _ _ _ => (pss_cons (ps_fld (pv 0) (pv 1) rfl) (pss_one (ps_fld (pv 0) (pv 2) rfl)))⟩, FunD.bindsN (ps := ["self", "point", "ray"]) F fun _ _ _ _ _ _ us hl => match us, hl with | [_, _, _], _ => rfl, bindK_of (ps := ["self", "point", "ray"]) (ks := ["ray", "point"]) (pp := [1, 0]) F fun _ _ _ _ _ _ _ ws hl => match ws, hl with | [_, _], _ => rfl⟩
theorem mk44 : InsK P w K mg base (tab K) "Keeper" 44 ["inputs", "box"] [1, 0] := by
  obtain ⟨fd, F⟩ := fx.fun_ 42 d42 rfl
  exact ⟨_, fd, ["self", "box", "inputs"], fx.cls 44 rfl, ⟨rfl, (fx.ins 44 (by decide)).1, (fx.ins 44 (by decide)).2.1, fx.fld 44 (by decide), by show (["box", "inputs"] : List Str).Nodup; decide, (fun z => nomatch z), ok_initI (N := ["self", "box", "inputs"]) (ps := ["self", "box", "inputs"]) (names := ["box", "inputs"]) F ⟨rfl, rfl, rfl, by decide +kernel, rfl, by decide +kernel, by decide +kernel⟩ rfl (by decide) rfl fun _ _ _ _ _ _ => (pss_cons (ps_fld (pv 0) (pv 1) rfl) (pss_one (ps_fld (pv 0) (pv 2) rfl)))⟩, FunD.bindsN (ps := ["self", "box", "inputs"]) F fun _ _ _ _ _ _ us hl => match us, hl with | [_, _, _], _ => rfl, bindK_of (ps := ["self", "box", "inputs"]) (ks := ["inputs", "box"]) (pp := [1, 0]) F fun _ _ _ _ _ _ _ ws hl => match ws, hl with | [_, _], _ => rfl⟩
theorem mk45 : InsK P w K mg base (tab K) "Never" 45 ["rows", "space"] [1, 0] := by
  obtain ⟨fd, F⟩ := fx.fun_ 43 d43 rfl
  exact ⟨_, fd, ["self", "space", "rows"], fx.cls 45 rfl, ⟨rfl, (fx.ins 45 (by decide)).1, (fx.ins 45 (by decide)).2.1, fx.fld 45 (by decide), by show (["space", "rows"] : List Str).Nodup; decide, (fun z => nomatch z), ok_initI (N := ["self", "space", "rows"]) (ps := ["self", "space", "rows"]) (names := ["space", "rows"]) F ⟨rfl, rfl, rfl, by decide +kernel, rfl, by decide +kernel, by decide +kernel⟩ rfl (by decide) rfl fun _ _ _ _ _ _ => (pss_cons (ps_fld (pv 0) (pv 1) rfl) (pss_one (ps_fld (pv 0) (pv 2) rfl)))⟩, FunD.bindsN (ps := ["self", "space", "rows"]) F fun _ _ _ _ _ _ us hl => match us, hl with | [_, _, _], _ => rfl, bindK_of (ps := ["self", "space", "rows"]) (ks := ["rows", "space"]) (pp := [1, 0]) F fun _ _ _ _ _ _ _ ws hl => match ws, hl with | [_, _], _ => rfl⟩
theorem mk46 : InsK P w K mg base (tab K) "Stretch" 46 ["why", "begin", "end"] [1, 2, 0] := by
  obtain ⟨fd, F⟩ := fx.fun_ 44 d44 rfl
  exact ⟨_, fd, ["self", "begin", "end", "why"], fx.cls 46 rfl, ⟨rfl, (fx.ins 46 (by decide)).1, (fx.ins 46 (by decide)).2.1, fx.fld 46 (by decide), by show (["begin", "end", "why"] : List Str).Nodup; decide, (fun z => nomatch z), ok_initI (N := ["self", "begin", "end", "why"]) (ps := ["self", "begin", "end", "why"]) (names := ["begin", "end", "why"]) F ⟨rfl, rfl, rfl, by decide +kernel, rfl, by decide +kernel, by decide +kernel⟩ rfl (by decide) rfl fun _ _ _ _ _ _ => (pss_cons (ps_fld (pv 0) (pv 1) rfl) (pss_cons (ps_fld (pv 0) (pv 2) rfl) (pss_one (ps_fld (pv 0) (pv 3) rfl))))⟩, FunD.bindsN (ps := ["self", "begin", "end", "why"]) F fun _ _ _ _ _ _ us hl => match us, hl with | [_, _, _, _], _ => rfl, bindK_of (ps := ["self", "begin", "end", "why"]) (ks := ["why", "begin", "end"]) (pp := [1, 2, 0]) F fun _ _ _ _ _ _ _ ws hl => match ws, hl with | [_, _, _], _ => rfl⟩
theorem mk47 : InsK P w K mg base (tab K) "Escape" 47 ["table", "plant", "rows"] [1, 2, 0] := by
  obtain ⟨fd, F⟩ := fx.fun_ 45 d45 rfl
  exact ⟨_, fd, ["self", "plant", "rows", "table"], fx.cls 47 rfl, ⟨rfl, (fx.ins 47 (by decide)).1, (fx.ins 47 (by decide)).2.1, fx.fld 47 (by decide), by show (["plant", "rows", "table"] : List Str).Nodup; decide, (fun z => nomatch z), ok_initI (N := ["self", "plant", "rows", "table"]) (ps := ["self", "plant", "rows", "table"]) (names := ["plant", "rows", "table"]) F ⟨rfl, rfl, rfl, by decide +kernel, rfl, by decide +kernel, by decide +kernel⟩ rfl (by decide) rfl fun _ _ _ _ _ _ => (pss_cons (ps_fld (pv 0) (pv 1) rfl) (pss_cons (ps_fld (pv 0) (pv 2) rfl) (pss_one (ps_fld (pv 0) (pv 3) rfl))))⟩, FunD.bindsN (ps := ["self", "plant", "rows", "table"]) F fun _ _ _ _ _ _ us hl => match us, hl with | [_, _, _, _], _ => rfl, bindK_of (ps := ["self", "plant", "rows", "table"]) (ks := ["table", "plant", "rows"]) (pp := [1, 2, 0]) F fun _ _ _ _ _ _ _ ws hl => match ws, hl with | [_, _, _], _ => rfl⟩
theorem mk48 : InsK P w K mg base (tab K) "Prior" 48 ["low", "high", "state", "parts"] [2, 3, 0, 1] := by
  obtain ⟨fd, F⟩ := fx.fun_ 46 d46 rfl
  exact ⟨_, fd, ["self", "state", "parts", "low", "high"], fx.cls 48 rfl, ⟨rfl, (fx.ins 48 (by decide)).1, (fx.ins 48 (by decide)).2.1, fx.fld 48 (by decide), by show (["state", "parts", "low", "high"] : List Str).Nodup; decide, (fun z => nomatch z), ok_initI (N := ["self", "state", "parts", "low", "high"]) (ps := ["self", "state", "parts", "low", "high"]) (names := ["state", "parts", "low", "high"]) F ⟨rfl, rfl, rfl, by decide +kernel, rfl, by decide +kernel, by decide +kernel⟩ rfl (by decide) rfl fun _ _ _ _ _ _ => (pss_cons (ps_fld (pv 0) (pv 1) rfl) (pss_cons (ps_fld (pv 0) (pv 2) rfl) (pss_cons (ps_fld (pv 0) (pv 3) rfl) (pss_one (ps_fld (pv 0) (pv 4) rfl)))))⟩, FunD.bindsN (ps := ["self", "state", "parts", "low", "high"]) F fun _ _ _ _ _ _ us hl => match us, hl with | [_, _, _, _, _], _ => rfl, bindK_of (ps := ["self", "state", "parts", "low", "high"]) (ks := ["low", "high", "state", "parts"]) (pp := [2, 3, 0, 1]) F fun _ _ _ _ _ _ _ ws hl => match ws, hl with | [_, _, _, _], _ => rfl⟩
theorem mk49 : InsK P w K mg base (tab K) "End" 49 ["ray", "value", "lot", "plant"] [1, 2, 3, 0] := by
  obtain ⟨fd, F⟩ := fx.fun_ 47 d47 rfl
  exact ⟨_, fd, ["self", "value", "lot", "plant", "ray"], fx.cls 49 rfl, ⟨rfl, (fx.ins 49 (by decide)).1, (fx.ins 49 (by decide)).2.1, fx.fld 49 (by decide), by show (["value", "lot", "plant", "ray"] : List Str).Nodup; decide, (fun z => nomatch z), ok_initI (N := ["self", "value", "lot", "plant", "ray"]) (ps := ["self", "value", "lot", "plant", "ray"]) (names := ["value", "lot", "plant", "ray"]) F ⟨rfl, rfl, rfl, by decide +kernel, rfl, by decide +kernel, by decide +kernel⟩ rfl (by decide) rfl fun _ _ _ _ _ _ => (pss_cons (ps_fld (pv 0) (pv 1) rfl) (pss_cons (ps_fld (pv 0) (pv 2) rfl) (pss_cons (ps_fld (pv 0) (pv 3) rfl) (pss_one (ps_fld (pv 0) (pv 4) rfl)))))⟩, FunD.bindsN (ps := ["self", "value", "lot", "plant", "ray"]) F fun _ _ _ _ _ _ us hl => match us, hl with | [_, _, _, _, _], _ => rfl, bindK_of (ps := ["self", "value", "lot", "plant", "ray"]) (ks := ["ray", "value", "lot", "plant"]) (pp := [1, 2, 3, 0]) F fun _ _ _ _ _ _ _ ws hl => match ws, hl with | [_, _, _, _], _ => rfl⟩
theorem mk50 : InsK P w K mg base (tab K) "Ends" 50 ["high", "low"] [1, 0] := by
  obtain ⟨fd, F⟩ := fx.fun_ 48 d48 rfl
  exact ⟨_, fd, ["self", "low", "high"], fx.cls 50 rfl, ⟨rfl, (fx.ins 50 (by decide)).1, (fx.ins 50 (by decide)).2.1, fx.fld 50 (by decide), by show (["low", "high"] : List Str).Nodup; decide, (fun z => nomatch z), ok_initI (N := ["self", "low", "high"]) (ps := ["self", "low", "high"]) (names := ["low", "high"]) F ⟨rfl, rfl, rfl, by decide +kernel, rfl, by decide +kernel, by decide +kernel⟩ rfl (by decide) rfl fun _ _ _ _ _ _ => (pss_cons (ps_fld (pv 0) (pv 1) rfl) (pss_one (ps_fld (pv 0) (pv 2) rfl)))⟩, FunD.bindsN (ps := ["self", "low", "high"]) F fun _ _ _ _ _ _ us hl => match us, hl with | [_, _, _], _ => rfl, bindK_of (ps := ["self", "low", "high"]) (ks := ["high", "low"]) (pp := [1, 0]) F fun _ _ _ _ _ _ _ ws hl => match ws, hl with | [_, _], _ => rfl⟩
theorem mk51 : InsK P w K mg base (tab K) "Blow" 51 ["side", "lot", "plant", "state"] [1, 2, 3, 0] := by
  obtain ⟨fd, F⟩ := fx.fun_ 49 d49 rfl
  exact ⟨_, fd, ["self", "lot", "plant", "state", "side"], fx.cls 51 rfl, ⟨rfl, (fx.ins 51 (by decide)).1, (fx.ins 51 (by decide)).2.1, fx.fld 51 (by decide), by show (["lot", "plant", "state", "side"] : List Str).Nodup; decide, (fun z => nomatch z), ok_initI (N := ["self", "lot", "plant", "state", "side"]) (ps := ["self", "lot", "plant", "state", "side"]) (names := ["lot", "plant", "state", "side"]) F ⟨rfl, rfl, rfl, by decide +kernel, rfl, by decide +kernel, by decide +kernel⟩ rfl (by decide) rfl fun _ _ _ _ _ _ => (pss_cons (ps_fld (pv 0) (pv 1) rfl) (pss_cons (ps_fld (pv 0) (pv 2) rfl) (pss_cons (ps_fld (pv 0) (pv 3) rfl) (pss_one (ps_fld (pv 0) (pv 4) rfl)))))⟩, FunD.bindsN (ps := ["self", "lot", "plant", "state", "side"]) F fun _ _ _ _ _ _ us hl => match us, hl with | [_, _, _, _, _], _ => rfl, bindK_of (ps := ["self", "lot", "plant", "state", "side"]) (ks := ["side", "lot", "plant", "state"]) (pp := [1, 2, 3, 0]) F fun _ _ _ _ _ _ _ ws hl => match ws, hl with | [_, _, _, _], _ => rfl⟩
theorem mk52 : InsK P w K mg base (tab K) "Stop" 52 ["side", "place"] [1, 0] := by
  obtain ⟨fd, F⟩ := fx.fun_ 50 d50 rfl
  exact ⟨_, fd, ["self", "place", "side"], fx.cls 52 rfl, ⟨rfl, (fx.ins 52 (by decide)).1, (fx.ins 52 (by decide)).2.1, fx.fld 52 (by decide), by show (["place", "side"] : List Str).Nodup; decide, (fun z => nomatch z), ok_initI (N := ["self", "place", "side"]) (ps := ["self", "place", "side"]) (names := ["place", "side"]) F ⟨rfl, rfl, rfl, by decide +kernel, rfl, by decide +kernel, by decide +kernel⟩ rfl (by decide) rfl fun _ _ _ _ _ _ => (pss_cons (ps_fld (pv 0) (pv 1) rfl) (pss_one (ps_fld (pv 0) (pv 2) rfl)))⟩, FunD.bindsN (ps := ["self", "place", "side"]) F fun _ _ _ _ _ _ us hl => match us, hl with | [_, _, _], _ => rfl, bindK_of (ps := ["self", "place", "side"]) (ks := ["side", "place"]) (pp := [1, 0]) F fun _ _ _ _ _ _ _ ws hl => match ws, hl with | [_, _], _ => rfl⟩
theorem mk53 : InsK P w K mg base (tab K) "Lost" 53 ["weights", "corner", "blows"] [1, 2, 0] := by
  obtain ⟨fd, F⟩ := fx.fun_ 51 d51 rfl
  exact ⟨_, fd, ["self", "corner", "blows", "weights"], fx.cls 53 rfl, ⟨rfl, (fx.ins 53 (by decide)).1, (fx.ins 53 (by decide)).2.1, fx.fld 53 (by decide), by show (["corner", "blows", "weights"] : List Str).Nodup; decide, (fun z => nomatch z), ok_initI (N := ["self", "corner", "blows", "weights"]) (ps := ["self", "corner", "blows", "weights"]) (names := ["corner", "blows", "weights"]) F ⟨rfl, rfl, rfl, by decide +kernel, rfl, by decide +kernel, by decide +kernel⟩ rfl (by decide) rfl fun _ _ _ _ _ _ => (pss_cons (ps_fld (pv 0) (pv 1) rfl) (pss_cons (ps_fld (pv 0) (pv 2) rfl) (pss_one (ps_fld (pv 0) (pv 3) rfl))))⟩, FunD.bindsN (ps := ["self", "corner", "blows", "weights"]) F fun _ _ _ _ _ _ us hl => match us, hl with | [_, _, _, _], _ => rfl, bindK_of (ps := ["self", "corner", "blows", "weights"]) (ks := ["weights", "corner", "blows"]) (pp := [1, 2, 0]) F fun _ _ _ _ _ _ _ ws hl => match ws, hl with | [_, _, _], _ => rfl⟩
theorem mk54 : InsK P w K mg base (tab K) "Learning" 54 ["table", "puts", "states", "space"] [1, 2, 3, 0] := by
  obtain ⟨fd, F⟩ := fx.fun_ 52 d52 rfl
  exact ⟨_, fd, ["self", "puts", "states", "space", "table"], fx.cls 54 rfl, ⟨rfl, (fx.ins 54 (by decide)).1, (fx.ins 54 (by decide)).2.1, fx.fld 54 (by decide), by show (["puts", "states", "space", "table"] : List Str).Nodup; decide, (fun z => nomatch z), ok_initI (N := ["self", "puts", "states", "space", "table"]) (ps := ["self", "puts", "states", "space", "table"]) (names := ["puts", "states", "space", "table"]) F ⟨rfl, rfl, rfl, by decide +kernel, rfl, by decide +kernel, by decide +kernel⟩ rfl (by decide) rfl fun _ _ _ _ _ _ => (pss_cons (ps_fld (pv 0) (pv 1) rfl) (pss_cons (ps_fld (pv 0) (pv 2) rfl) (pss_cons (ps_fld (pv 0) (pv 3) rfl) (pss_one (ps_fld (pv 0) (pv 4) rfl)))))⟩, FunD.bindsN (ps := ["self", "puts", "states", "space", "table"]) F fun _ _ _ _ _ _ us hl => match us, hl with | [_, _, _, _, _], _ => rfl, bindK_of (ps := ["self", "puts", "states", "space", "table"]) (ks := ["table", "puts", "states", "space"]) (pp := [1, 2, 3, 0]) F fun _ _ _ _ _ _ _ ws hl => match ws, hl with | [_, _, _, _], _ => rfl⟩
theorem mk55 : InsK P w K mg base (tab K) "OneLaw" 55 ["spaces", "table"] [1, 0] := by
  obtain ⟨fd, F⟩ := fx.fun_ 53 d53 rfl
  exact ⟨_, fd, ["self", "table", "spaces"], fx.cls 55 rfl, ⟨rfl, (fx.ins 55 (by decide)).1, (fx.ins 55 (by decide)).2.1, fx.fld 55 (by decide), by show (["table", "spaces"] : List Str).Nodup; decide, (fun z => nomatch z), ok_initI (N := ["self", "table", "spaces"]) (ps := ["self", "table", "spaces"]) (names := ["table", "spaces"]) F ⟨rfl, rfl, rfl, by decide +kernel, rfl, by decide +kernel, by decide +kernel⟩ rfl (by decide) rfl fun _ _ _ _ _ _ => (pss_cons (ps_fld (pv 0) (pv 1) rfl) (pss_one (ps_fld (pv 0) (pv 2) rfl)))⟩, FunD.bindsN (ps := ["self", "table", "spaces"]) F fun _ _ _ _ _ _ us hl => match us, hl with | [_, _, _], _ => rfl, bindK_of (ps := ["self", "table", "spaces"]) (ks := ["spaces", "table"]) (pp := [1, 0]) F fun _ _ _ _ _ _ _ ws hl => match ws, hl with | [_, _], _ => rfl⟩
theorem mk56 : InsK P w K mg base (tab K) "Silent" 56 ["row"] [0] := by
  obtain ⟨fd, F⟩ := fx.fun_ 54 d54 rfl
  exact ⟨_, fd, ["self", "row"], fx.cls 56 rfl, ⟨rfl, (fx.ins 56 (by decide)).1, (fx.ins 56 (by decide)).2.1, fx.fld 56 (by decide), by show (["row"] : List Str).Nodup; decide, (fun z => nomatch z), ok_initI (N := ["self", "row"]) (ps := ["self", "row"]) (names := ["row"]) F ⟨rfl, rfl, rfl, by decide +kernel, rfl, by decide +kernel, by decide +kernel⟩ rfl (by decide) rfl fun _ _ _ _ _ _ => (pss_one (ps_fld (pv 0) (pv 1) rfl))⟩, FunD.bindsN (ps := ["self", "row"]) F fun _ _ _ _ _ _ us hl => match us, hl with | [_, _], _ => rfl, bindK_of (ps := ["self", "row"]) (ks := ["row"]) (pp := [0]) F fun _ _ _ _ _ _ _ ws hl => match ws, hl with | [_], _ => rfl⟩
theorem mk57 : InsK P w K mg base (tab K) "Shadow" 57 ["rows", "table", "plant"] [2, 0, 1] := by
  obtain ⟨fd, F⟩ := fx.fun_ 55 d55 rfl
  exact ⟨_, fd, ["self", "plant", "rows", "table"], fx.cls 57 rfl, ⟨rfl, (fx.ins 57 (by decide)).1, (fx.ins 57 (by decide)).2.1, fx.fld 57 (by decide), by show (["plant", "rows", "table"] : List Str).Nodup; decide, (fun z => nomatch z), ok_initI (N := ["self", "plant", "rows", "table"]) (ps := ["self", "plant", "rows", "table"]) (names := ["plant", "rows", "table"]) F ⟨rfl, rfl, rfl, by decide +kernel, rfl, by decide +kernel, by decide +kernel⟩ rfl (by decide) rfl fun _ _ _ _ _ _ => (pss_cons (ps_fld (pv 0) (pv 1) rfl) (pss_cons (ps_fld (pv 0) (pv 2) rfl) (pss_one (ps_fld (pv 0) (pv 3) rfl))))⟩, FunD.bindsN (ps := ["self", "plant", "rows", "table"]) F fun _ _ _ _ _ _ us hl => match us, hl with | [_, _, _, _], _ => rfl, bindK_of (ps := ["self", "plant", "rows", "table"]) (ks := ["rows", "table", "plant"]) (pp := [2, 0, 1]) F fun _ _ _ _ _ _ _ ws hl => match ws, hl with | [_, _, _], _ => rfl⟩
theorem mk58 : InsK P w K mg base (tab K) "Sizes" 58 ["greatest", "least"] [1, 0] := by
  obtain ⟨fd, F⟩ := fx.fun_ 56 d56 rfl
  exact ⟨_, fd, ["self", "least", "greatest"], fx.cls 58 rfl, ⟨rfl, (fx.ins 58 (by decide)).1, (fx.ins 58 (by decide)).2.1, fx.fld 58 (by decide), by show (["least", "greatest"] : List Str).Nodup; decide, (fun z => nomatch z), ok_initI (N := ["self", "least", "greatest"]) (ps := ["self", "least", "greatest"]) (names := ["least", "greatest"]) F ⟨rfl, rfl, rfl, by decide +kernel, rfl, by decide +kernel, by decide +kernel⟩ rfl (by decide) rfl fun _ _ _ _ _ _ => (pss_cons (ps_fld (pv 0) (pv 1) rfl) (pss_one (ps_fld (pv 0) (pv 2) rfl)))⟩, FunD.bindsN (ps := ["self", "least", "greatest"]) F fun _ _ _ _ _ _ us hl => match us, hl with | [_, _, _], _ => rfl, bindK_of (ps := ["self", "least", "greatest"]) (ks := ["greatest", "least"]) (pp := [1, 0]) F fun _ _ _ _ _ _ _ ws hl => match ws, hl with | [_, _], _ => rfl⟩
theorem mk59 : InsK P w K mg base (tab K) "Story" 59 ["deeds", "field", "size", "inputs"] [1, 2, 3, 0] := by
  obtain ⟨fd, F⟩ := fx.fun_ 57 d57 rfl
  exact ⟨_, fd, ["self", "field", "size", "inputs", "deeds"], fx.cls 59 rfl, ⟨rfl, (fx.ins 59 (by decide)).1, (fx.ins 59 (by decide)).2.1, fx.fld 59 (by decide), by show (["field", "size", "inputs", "deeds"] : List Str).Nodup; decide, (fun z => nomatch z), ok_initI (N := ["self", "field", "size", "inputs", "deeds"]) (ps := ["self", "field", "size", "inputs", "deeds"]) (names := ["field", "size", "inputs", "deeds"]) F ⟨rfl, rfl, rfl, by decide +kernel, rfl, by decide +kernel, by decide +kernel⟩ rfl (by decide) rfl fun _ _ _ _ _ _ => (pss_cons (ps_fld (pv 0) (pv 1) rfl) (pss_cons (ps_fld (pv 0) (pv 2) rfl) (pss_cons (ps_fld (pv 0) (pv 3) rfl) (pss_one (ps_fld (pv 0) (pv 4) rfl)))))⟩, FunD.bindsN (ps := ["self", "field", "size", "inputs", "deeds"]) F fun _ _ _ _ _ _ us hl => match us, hl with | [_, _, _, _, _], _ => rfl, bindK_of (ps := ["self", "field", "size", "inputs", "deeds"]) (ks := ["deeds", "field", "size", "inputs"]) (pp := [1, 2, 3, 0]) F fun _ _ _ _ _ _ _ ws hl => match ws, hl with | [_, _, _, _], _ => rfl⟩
theorem mk60 : InsK P w K mg base (tab K) "Disguise" 60 ["record", "other_lot", "plant", "lot", "other"] [0, 2, 3, 4, 1] := by
  obtain ⟨fd, F⟩ := fx.fun_ 58 d58 rfl
  exact ⟨_, fd, ["self", "record", "plant", "lot", "other", "other_lot"], fx.cls 60 rfl, ⟨rfl, (fx.ins 60 (by decide)).1, (fx.ins 60 (by decide)).2.1, fx.fld 60 (by decide), by show (["record", "plant", "lot", "other", "other_lot"] : List Str).Nodup; decide, (fun z => nomatch z), ok_initI (N := ["self", "record", "plant", "lot", "other", "other_lot"]) (ps := ["self", "record", "plant", "lot", "other", "other_lot"]) (names := ["record", "plant", "lot", "other", "other_lot"]) F ⟨rfl, rfl, rfl, by decide +kernel, rfl, by decide +kernel, by decide +kernel⟩ rfl (by decide) rfl fun _ _ _ _ _ _ => (pss_cons (ps_fld (pv 0) (pv 1) rfl) (pss_cons (ps_fld (pv 0) (pv 2) rfl) (pss_cons (ps_fld (pv 0) (pv 3) rfl) (pss_cons (ps_fld (pv 0) (pv 4) rfl) (pss_one (ps_fld (pv 0) (pv 5) rfl))))))⟩, FunD.bindsN (ps := ["self", "record", "plant", "lot", "other", "other_lot"]) F fun _ _ _ _ _ _ us hl => match us, hl with | [_, _, _, _, _, _], _ => rfl, bindK_of (ps := ["self", "record", "plant", "lot", "other", "other_lot"]) (ks := ["record", "other_lot", "plant", "lot", "other"]) (pp := [0, 2, 3, 4, 1]) F fun _ _ _ _ _ _ _ ws hl => match ws, hl with | [_, _, _, _, _], _ => rfl⟩
end
end Wk
/-! Wk3: the own == of the classes. -/
namespace Wk
open PySem PySem.Spec PyProof.Rows L2 Vm He
section
variable {K : PySem.W.Frag} {mg : Str → Option Value} (fx : Fx K mg) (P : Program) (w : World) (base : Heap)
include fx
theorem weq40 : FnM P w K mg base (tab K) 2 (ma K (adr K 40) "__eq__") (Feq40 (tab K)) 2 := by
  obtain ⟨fd, F⟩ := fx.fun_ 59 d59 rfl
  refine FnMd.m (ps := ["self", "other"]) (okN (N := ["self", "other"]) (k := 1) (beq40 (tab K)) F ⟨rfl, rfl, rfl, by decide +kernel, rfl, by decide +kernel, by decide +kernel⟩ (FunD.bindsN F fun _ _ _ _ _ _ us hl => match us, hl with | [_, _], _ => rfl) fun cdv A outer s H E C => ?_)
  exact (mss_one (ms_ret (m_and (m_isiO fx.TK (fx.free 6 rfl) (fx.cls 40 rfl) (m_var 1)) (m_one (m_cmp (c_eq C fx.TK eqOk0) (m_tup (ma_cons (m_fld fx.TK (fx.FO _) (m_var 0)) (ma_cons (m_fld fx.TK (fx.FO _) (m_var 0)) (ma_cons (m_fld fx.TK (fx.FO _) (m_var 0)) (ma_cons (m_fld fx.TK (fx.FO _) (m_var 0)) ma_nil))))) (m_tup (ma_cons (m_fld fx.TK (fx.FO _) (m_var 1)) (ma_cons (m_fld fx.TK (fx.FO _) (m_var 1)) (ma_cons (m_fld fx.TK (fx.FO _) (m_var 1)) (ma_cons (m_fld fx.TK (fx.FO _) (m_var 1)) ma_nil))))))))))
theorem weq41 : FnM P w K mg base (tab K) 2 (ma K (adr K 41) "__eq__") (Feq41 (tab K)) 2 := by
  obtain ⟨fd, F⟩ := fx.fun_ 60 d60 rfl
  refine FnMd.m (ps := ["self", "other"]) (okN (N := ["self", "other"]) (k := 1) (beq41 (tab K)) F ⟨rfl, rfl, rfl, by decide +kernel, rfl, by decide +kernel, by decide +kernel⟩ (FunD.bindsN F fun _ _ _ _ _ _ us hl => match us, hl with | [_, _], _ => rfl) fun cdv A outer s H E C => ?_)
  exact (mss_one (ms_ret (m_and (m_isiO fx.TK (fx.free 6 rfl) (fx.cls 41 rfl) (m_var 1)) (m_and (m_cmp (c_eq C fx.TK eqOk0) (m_fld fx.TK (fx.FO _) (m_var 0)) (m_fld fx.TK (fx.FO _) (m_var 1))) (m_one (m_cmp (c_eq C fx.TK eqOk0) (m_fld fx.TK (fx.FO _) (m_var 0)) (m_fld fx.TK (fx.FO _) (m_var 1))))))))
theorem weq42 : FnM P w K mg base (tab K) 2 (ma K (adr K 42) "__eq__") (Feq42 (tab K)) 2 := by
  obtain ⟨fd, F⟩ := fx.fun_ 61 d61 rfl
  refine FnMd.m (ps := ["self", "other"]) (okN (N := ["self", "other"]) (k := 1) (beq42 (tab K)) F ⟨rfl, rfl, rfl, by decide +kernel, rfl, by decide +kernel, by decide +kernel⟩ (FunD.bindsN F fun _ _ _ _ _ _ us hl => match us, hl with | [_, _], _ => rfl) fun cdv A outer s H E C => ?_)
  exact (mss_one (ms_ret (m_and (m_isiO fx.TK (fx.free 6 rfl) (fx.cls 42 rfl) (m_var 1)) (m_one (m_cmp (c_eq C fx.TK eqOk0) (m_fld fx.TK (fx.FO _) (m_var 0)) (m_fld fx.TK (fx.FO _) (m_var 1)))))))
theorem weq43 : FnM P w K mg base (tab K) 2 (ma K (adr K 43) "__eq__") (Feq43 (tab K)) 2 := by
  obtain ⟨fd, F⟩ := fx.fun_ 62 d62 rfl
  refine FnMd.m (ps := ["self", "other"]) (okN (N := ["self", "other"]) (k := 1) (beq43 (tab K)) F ⟨rfl, rfl, rfl, by decide +kernel, rfl, by decide +kernel, by decide +kernel⟩ (FunD.bindsN F fun _ _ _ _ _ _ us hl => match us, hl with | [_, _], _ => rfl) fun cdv A outer s H E C => ?_)
  exact (mss_one (ms_ret (m_and (m_isiO fx.TK (fx.free 6 rfl) (fx.cls 43 rfl) (m_var 1)) (m_and (m_cmp (c_eq C fx.TK eqOk0) (m_fld fx.TK (fx.FO _) (m_var 0)) (m_fld fx.TK (fx.FO _) (m_var 1))) (m_one (m_cmp (c_eq C fx.TK eqOk0) (m_fld fx.TK (fx.FO _) (m_var 0)) (m_fld fx.TK (fx.FO _) (m_var 1))))))))
theorem weq44 : FnM P w K mg base (tab K) 2 (ma K (adr K 44) "__eq__") (Feq44 (tab K)) 2 := by
  obtain ⟨fd, F⟩ := fx.fun_ 63 d63 rfl
  refine FnMd.m (ps := ["self", "other"]) (okN (N := ["self", "other"]) (k := 1) (beq44 (tab K)) F ⟨rfl, rfl, rfl, by decide +kernel, rfl, by decide +kernel, by decide +kernel⟩ (FunD.bindsN F fun _ _ _ _ _ _ us hl => match us, hl with | [_, _], _ => rfl) fun cdv A outer s H E C => ?_)
  exact (mss_one (ms_ret (m_and (m_isiO fx.TK (fx.free 6 rfl) (fx.cls 44 rfl) (m_var 1)) (m_and (m_cmp (c_eq C fx.TK eqOk0) (m_fld fx.TK (fx.FO _) (m_var 0)) (m_fld fx.TK (fx.FO _) (m_var 1))) (m_one (m_cmp (c_eq C fx.TK eqOk0) (m_fld fx.TK (fx.FO _) (m_var 0)) (m_fld fx.TK (fx.FO _) (m_var 1))))))))
theorem weq45 : FnM P w K mg base (tab K) 2 (ma K (adr K 45) "__eq__") (Feq45 (tab K)) 2 := by
  obtain ⟨fd, F⟩ := fx.fun_ 64 d64 rfl
  refine FnMd.m (ps := ["self", "other"]) (okN (N := ["self", "other"]) (k := 1) (beq45 (tab K)) F ⟨rfl, rfl, rfl, by decide +kernel, rfl, by decide +kernel, by decide +kernel⟩ (FunD.bindsN F fun _ _ _ _ _ _ us hl => match us, hl with | [_, _], _ => rfl) fun cdv A outer s H E C => ?_)
  exact (mss_one (ms_ret (m_and (m_isiO fx.TK (fx.free 6 rfl) (fx.cls 45 rfl) (m_var 1)) (m_one (m_cmp (c_eq C fx.TK eqOk0) (m_tup (ma_cons (m_fld fx.TK (fx.FO _) (m_var 0)) (ma_cons (m_fld fx.TK (fx.FO _) (m_var 0)) ma_nil))) (m_tup (ma_cons (m_fld fx.TK (fx.FO _) (m_var 1)) (ma_cons (m_fld fx.TK (fx.FO _) (m_var 1)) ma_nil))))))))
theorem weq46 : FnM P w K mg base (tab K) 2 (ma K (adr K 46) "__eq__") (Feq46 (tab K)) 2 := by
  obtain ⟨fd, F⟩ := fx.fun_ 65 d65 rfl
  refine FnMd.m (ps := ["self", "other"]) (okN (N := ["self", "other"]) (k := 1) (beq46 (tab K)) F ⟨rfl, rfl, rfl, by decide +kernel, rfl, by decide +kernel, by decide +kernel⟩ (FunD.bindsN F fun _ _ _ _ _ _ us hl => match us, hl with | [_, _], _ => rfl) fun cdv A outer s H E C => ?_)
  exact (mss_one (ms_ret (m_and (m_isiO fx.TK (fx.free 6 rfl) (fx.cls 46 rfl) (m_var 1)) (m_and (m_cmp (c_eq C fx.TK eqOk0) (m_fld fx.TK (fx.FO _) (m_var 0)) (m_fld fx.TK (fx.FO _) (m_var 1))) (m_and (m_cmp (c_eq C fx.TK eqOk0) (m_fld fx.TK (fx.FO _) (m_var 0)) (m_fld fx.TK (fx.FO _) (m_var 1))) (m_one (m_cmp (c_eq C fx.TK eqOk0) (m_fld fx.TK (fx.FO _) (m_var 0)) (m_fld fx.TK (fx.FO _) (m_var 1)))))))))
theorem weq47 : FnM P w K mg base (tab K) 2 (ma K (adr K 47) "__eq__") (Feq47 (tab K)) 2 := by
  obtain ⟨fd, F⟩ := fx.fun_ 66 d66 rfl
  refine FnMd.m (ps := ["self", "other"]) (okN (N := ["self", "other"]) (k := 1) (beq47 (tab K)) F ⟨rfl, rfl, rfl, by decide +kernel, rfl, by decide +kernel, by decide +kernel⟩ (FunD.bindsN F fun _ _ _ _ _ _ us hl => match us, hl with | [_, _], _ => rfl) fun cdv A outer s H E C => ?_)
  exact (mss_one (ms_ret (m_and (m_isiO fx.TK (fx.free 6 rfl) (fx.cls 47 rfl) (m_var 1)) (m_one (m_cmp (c_eq C fx.TK eqOk0) (m_tup (ma_cons (m_fld fx.TK (fx.FO _) (m_var 0)) (ma_cons (m_fld fx.TK (fx.FO _) (m_var 0)) (ma_cons (m_fld fx.TK (fx.FO _) (m_var 0)) ma_nil)))) (m_tup (ma_cons (m_fld fx.TK (fx.FO _) (m_var 1)) (ma_cons (m_fld fx.TK (fx.FO _) (m_var 1)) (ma_cons (m_fld fx.TK (fx.FO _) (m_var 1)) ma_nil)))))))))
theorem weq48 : FnM P w K mg base (tab K) 2 (ma K (adr K 48) "__eq__") (Feq48 (tab K)) 2 := by
  obtain ⟨fd, F⟩ := fx.fun_ 67 d67 rfl
  refine FnMd.m (ps := ["self", "other"]) (okN (N := ["self", "other"]) (k := 1) (beq48 (tab K)) F ⟨rfl, rfl, rfl, by decide +kernel, rfl, by decide +kernel, by decide +kernel⟩ (FunD.bindsN F fun _ _ _ _ _ _ us hl => match us, hl with | [_, _], _ => rfl) fun cdv A outer s H E C => ?_)
  exact (mss_cons (ms_if (mw_or (mt_not (mt_val (m_isiO fx.TK (fx.free 6 rfl) (fx.cls 48 rfl) (m_var 1)))) (mw_or (mt_cmp (c_ne C fx.TK eqOk0) (m_fld fx.TK (fx.FO _) (m_var 0)) (m_fld fx.TK (fx.FO _) (m_var 1))) (mw_or1 (mt_cmp (c_ne C fx.TK eqOk0) (m_fld fx.TK (fx.FO _) (m_var 0)) (m_fld fx.TK (fx.FO _) (m_var 1)))))).t
 (mss_one (ms_ret m_bl)) mss_nil)
 (mss_one (ms_ret (m_and (m_cmp (c_eq C fx.TK eqOk0) (m_fld fx.TK (fx.FO _) (m_var 0)) (m_fld fx.TK (fx.FO _) (m_var 1))) (m_one (m_cmp (c_eq C fx.TK eqOk0) (m_fld fx.TK (fx.FO _) (m_var 0)) (m_fld fx.TK (fx.FO _) (m_var 1))))))))
theorem weq49 : FnM P w K mg base (tab K) 2 (ma K (adr K 49) "__eq__") (Feq49 (tab K)) 2 := by
  obtain ⟨fd, F⟩ := fx.fun_ 68 d68 rfl
  refine FnMd.m (ps := ["self", "other"]) (okN (N := ["self", "other"]) (k := 1) (beq49 (tab K)) F ⟨rfl, rfl, rfl, by decide +kernel, rfl, by decide +kernel, by decide +kernel⟩ (FunD.bindsN F fun _ _ _ _ _ _ us hl => match us, hl with | [_, _], _ => rfl) fun cdv A outer s H E C => ?_)
  exact (mss_cons (ms_if (mw_or (mt_not (mt_val (m_isiO fx.TK (fx.free 6 rfl) (fx.cls 49 rfl) (m_var 1)))) (mw_or (mt_cmp (c_ne C fx.TK eqOk0) (m_fld fx.TK (fx.FO _) (m_var 0)) (m_fld fx.TK (fx.FO _) (m_var 1))) (mw_or1 (mt_cmp (c_ne C fx.TK eqOk0) (m_fld fx.TK (fx.FO _) (m_var 0)) (m_fld fx.TK (fx.FO _) (m_var 1)))))).t
 (mss_one (ms_ret m_bl)) mss_nil)
 (mss_one (ms_ret (m_and (m_cmp (c_eq C fx.TK eqOk0) (m_fld fx.TK (fx.FO _) (m_var 0)) (m_fld fx.TK (fx.FO _) (m_var 1))) (m_one (m_cmp (c_eq C fx.TK eqOk0) (m_fld fx.TK (fx.FO _) (m_var 0)) (m_fld fx.TK (fx.FO _) (m_var 1))))))))
theorem weq50 : FnM P w K mg base (tab K) 2 (ma K (adr K 50) "__eq__") (Feq50 (tab K)) 2 := by
  obtain ⟨fd, F⟩ := fx.fun_ 69 d69 rfl
  refine FnMd.m (ps := ["self", "other"]) (okN (N := ["self", "other"]) (k := 1) (beq50 (tab K)) F ⟨rfl, rfl, rfl, by decide +kernel, rfl, by decide +kernel, by decide +kernel⟩ (FunD.bindsN F fun _ _ _ _ _ _ us hl => match us, hl with | [_, _], _ => rfl) fun cdv A outer s H E C => ?_)
  exact (mss_one (ms_ret (m_and (m_isiO fx.TK (fx.free 6 rfl) (fx.cls 50 rfl) (m_var 1)) (m_and (m_cmp (c_eq C fx.TK eqOk0) (m_fld fx.TK (fx.FO _) (m_var 0)) (m_fld fx.TK (fx.FO _) (m_var 1))) (m_one (m_cmp (c_eq C fx.TK eqOk0) (m_fld fx.TK (fx.FO _) (m_var 0)) (m_fld fx.TK (fx.FO _) (m_var 1))))))))
theorem weq51 : FnM P w K mg base (tab K) 2 (ma K (adr K 51) "__eq__") (Feq51 (tab K)) 2 := by
  obtain ⟨fd, F⟩ := fx.fun_ 70 d70 rfl
  refine FnMd.m (ps := ["self", "other"]) (okN (N := ["self", "other"]) (k := 1) (beq51 (tab K)) F ⟨rfl, rfl, rfl, by decide +kernel, rfl, by decide +kernel, by decide +kernel⟩ (FunD.bindsN F fun _ _ _ _ _ _ us hl => match us, hl with | [_, _], _ => rfl) fun cdv A outer s H E C => ?_)
  exact (mss_cons (ms_if (mw_or (mt_not (mt_val (m_isiO fx.TK (fx.free 6 rfl) (fx.cls 51 rfl) (m_var 1)))) (mw_or (mt_cmp (c_ne C fx.TK eqOk0) (m_fld fx.TK (fx.FO _) (m_var 0)) (m_fld fx.TK (fx.FO _) (m_var 1))) (mw_or1 (mt_cmp (c_ne C fx.TK eqOk0) (m_fld fx.TK (fx.FO _) (m_var 0)) (m_fld fx.TK (fx.FO _) (m_var 1)))))).t
 (mss_one (ms_ret m_bl)) mss_nil)
 (mss_one (ms_ret (m_and (m_cmp (c_eq C fx.TK eqOk0) (m_fld fx.TK (fx.FO _) (m_var 0)) (m_fld fx.TK (fx.FO _) (m_var 1))) (m_one (m_cmp (c_eq C fx.TK eqOk0) (m_fld fx.TK (fx.FO _) (m_var 0)) (m_fld fx.TK (fx.FO _) (m_var 1))))))))
theorem weq52 : FnM P w K mg base (tab K) 2 (ma K (adr K 52) "__eq__") (Feq52 (tab K)) 2 := by
  obtain ⟨fd, F⟩ := fx.fun_ 71 d71 rfl
  refine FnMd.m (ps := ["self", "other"]) (okN (N := ["self", "other"]) (k := 1) (beq52 (tab K)) F ⟨rfl, rfl, rfl, by decide +kernel, rfl, by decide +kernel, by decide +kernel⟩ (FunD.bindsN F fun _ _ _ _ _ _ us hl => match us, hl with | [_, _], _ => rfl) fun cdv A outer s H E C => ?_)
  exact (mss_one (ms_ret (m_and (m_isiO fx.TK (fx.free 6 rfl) (fx.cls 52 rfl) (m_var 1)) (m_and (m_cmp (c_eq C fx.TK eqOk0) (m_fld fx.TK (fx.FO _) (m_var 0)) (m_fld fx.TK (fx.FO _) (m_var 1))) (m_one (m_cmp (c_eq C fx.TK eqOk0) (m_fld fx.TK (fx.FO _) (m_var 0)) (m_fld fx.TK (fx.FO _) (m_var 1))))))))
theorem weq53 : FnM P w K mg base (tab K) 2 (ma K (adr K 53) "__eq__") (Feq53 (tab K)) 2 := by
  obtain ⟨fd, F⟩ := fx.fun_ 72 d72 rfl
  refine FnMd.m (ps := ["self", "other"]) (okN (N := ["self", "other"]) (k := 1) (beq53 (tab K)) F ⟨rfl, rfl, rfl, by decide +kernel, rfl, by decide +kernel, by decide +kernel⟩ (FunD.bindsN F fun _ _ _ _ _ _ us hl => match us, hl with | [_, _], _ => rfl) fun cdv A outer s H E C => ?_)
  exact (mss_cons (ms_if (mw_or (mt_not (mt_val (m_isiO fx.TK (fx.free 6 rfl) (fx.cls 53 rfl) (m_var 1)))) (mw_or1 (mt_cmp (c_ne C fx.TK eqOk0) (m_fld fx.TK (fx.FO _) (m_var 0)) (m_fld fx.TK (fx.FO _) (m_var 1))))).t
 (mss_one (ms_ret m_bl)) mss_nil)
 (mss_one (ms_ret (m_and (m_cmp (c_eq C fx.TK eqOk0) (m_fld fx.TK (fx.FO _) (m_var 0)) (m_fld fx.TK (fx.FO _) (m_var 1))) (m_one (m_cmp (c_eq C fx.TK eqOk0) (m_fld fx.TK (fx.FO _) (m_var 0)) (m_fld fx.TK (fx.FO _) (m_var 1))))))))
theorem weq54 : FnM P w K mg base (tab K) 2 (ma K (adr K 54) "__eq__") (Feq54 (tab K)) 2 := by
  obtain ⟨fd, F⟩ := fx.fun_ 73 d73 rfl
  refine FnMd.m (ps := ["self", "other"]) (okN (N := ["self", "other"]) (k := 1) (beq54 (tab K)) F ⟨rfl, rfl, rfl, by decide +kernel, rfl, by decide +kernel, by decide +kernel⟩ (FunD.bindsN F fun _ _ _ _ _ _ us hl => match us, hl with | [_, _], _ => rfl) fun cdv A outer s H E C => ?_)
  exact (mss_one (ms_ret (m_and (m_isiO fx.TK (fx.free 6 rfl) (fx.cls 54 rfl) (m_var 1)) (m_one (m_cmp (c_eq C fx.TK eqOk0) (m_tup (ma_cons (m_fld fx.TK (fx.FO _) (m_var 0)) (ma_cons (m_fld fx.TK (fx.FO _) (m_var 0)) (ma_cons (m_fld fx.TK (fx.FO _) (m_var 0)) (ma_cons (m_fld fx.TK (fx.FO _) (m_var 0)) ma_nil))))) (m_tup (ma_cons (m_fld fx.TK (fx.FO _) (m_var 1)) (ma_cons (m_fld fx.TK (fx.FO _) (m_var 1)) (ma_cons (m_fld fx.TK (fx.FO _) (m_var 1)) (ma_cons (m_fld fx.TK (fx.FO _) (m_var 1)) ma_nil))))))))))
theorem weq55 : FnM P w K mg base (tab K) 2 (ma K (adr K 55) "__eq__") (Feq55 (tab K)) 2 := by
  obtain ⟨fd, F⟩ := fx.fun_ 74 d74 rfl
  refine FnMd.m (ps := ["self", "other"]) (okN (N := ["self", "other"]) (k := 1) (beq55 (tab K)) F ⟨rfl, rfl, rfl, by decide +kernel, rfl, by decide +kernel, by decide +kernel⟩ (FunD.bindsN F fun _ _ _ _ _ _ us hl => match us, hl with | [_, _], _ => rfl) fun cdv A outer s H E C => ?_)
  exact (mss_one (ms_ret (m_and (m_isiO fx.TK (fx.free 6 rfl) (fx.cls 55 rfl) (m_var 1)) (m_one (m_cmp (c_eq C fx.TK eqOk0) (m_tup (ma_cons (m_fld fx.TK (fx.FO _) (m_var 0)) (ma_cons (m_fld fx.TK (fx.FO _) (m_var 0)) ma_nil))) (m_tup (ma_cons (m_fld fx.TK (fx.FO _) (m_var 1)) (ma_cons (m_fld fx.TK (fx.FO _) (m_var 1)) ma_nil))))))))
theorem weq56 : FnM P w K mg base (tab K) 2 (ma K (adr K 56) "__eq__") (Feq56 (tab K)) 2 := by
  obtain ⟨fd, F⟩ := fx.fun_ 75 d75 rfl
  refine FnMd.m (ps := ["self", "other"]) (okN (N := ["self", "other"]) (k := 1) (beq56 (tab K)) F ⟨rfl, rfl, rfl, by decide +kernel, rfl, by decide +kernel, by decide +kernel⟩ (FunD.bindsN F fun _ _ _ _ _ _ us hl => match us, hl with | [_, _], _ => rfl) fun cdv A outer s H E C => ?_)
  exact (mss_one (ms_ret (m_and (m_isiO fx.TK (fx.free 6 rfl) (fx.cls 56 rfl) (m_var 1)) (m_one (m_cmp (c_eq C fx.TK eqOk0) (m_fld fx.TK (fx.FO _) (m_var 0)) (m_fld fx.TK (fx.FO _) (m_var 1)))))))
theorem weq57 : FnM P w K mg base (tab K) 2 (ma K (adr K 57) "__eq__") (Feq57 (tab K)) 2 := by
  obtain ⟨fd, F⟩ := fx.fun_ 76 d76 rfl
  refine FnMd.m (ps := ["self", "other"]) (okN (N := ["self", "other"]) (k := 1) (beq57 (tab K)) F ⟨rfl, rfl, rfl, by decide +kernel, rfl, by decide +kernel, by decide +kernel⟩ (FunD.bindsN F fun _ _ _ _ _ _ us hl => match us, hl with | [_, _], _ => rfl) fun cdv A outer s H E C => ?_)
  exact (mss_one (ms_ret (m_and (m_isiO fx.TK (fx.free 6 rfl) (fx.cls 57 rfl) (m_var 1)) (m_one (m_cmp (c_eq C fx.TK eqOk0) (m_tup (ma_cons (m_fld fx.TK (fx.FO _) (m_var 0)) (ma_cons (m_fld fx.TK (fx.FO _) (m_var 0)) (ma_cons (m_fld fx.TK (fx.FO _) (m_var 0)) ma_nil)))) (m_tup (ma_cons (m_fld fx.TK (fx.FO _) (m_var 1)) (ma_cons (m_fld fx.TK (fx.FO _) (m_var 1)) (ma_cons (m_fld fx.TK (fx.FO _) (m_var 1)) ma_nil)))))))))
theorem weq58 : FnM P w K mg base (tab K) 2 (ma K (adr K 58) "__eq__") (Feq58 (tab K)) 2 := by
  obtain ⟨fd, F⟩ := fx.fun_ 77 d77 rfl
  refine FnMd.m (ps := ["self", "other"]) (okN (N := ["self", "other"]) (k := 1) (beq58 (tab K)) F ⟨rfl, rfl, rfl, by decide +kernel, rfl, by decide +kernel, by decide +kernel⟩ (FunD.bindsN F fun _ _ _ _ _ _ us hl => match us, hl with | [_, _], _ => rfl) fun cdv A outer s H E C => ?_)
  exact (mss_one (ms_ret (m_and (m_isiO fx.TK (fx.free 6 rfl) (fx.cls 58 rfl) (m_var 1)) (m_and (m_cmp (c_eq C fx.TK eqOk0) (m_fld fx.TK (fx.FO _) (m_var 0)) (m_fld fx.TK (fx.FO _) (m_var 1))) (m_one (m_cmp (c_eq C fx.TK eqOk0) (m_fld fx.TK (fx.FO _) (m_var 0)) (m_fld fx.TK (fx.FO _) (m_var 1))))))))
theorem weq59 : FnM P w K mg base (tab K) 2 (ma K (adr K 59) "__eq__") (Feq59 (tab K)) 2 := by
  obtain ⟨fd, F⟩ := fx.fun_ 78 d78 rfl
  refine FnMd.m (ps := ["self", "other"]) (okN (N := ["self", "other"]) (k := 1) (beq59 (tab K)) F ⟨rfl, rfl, rfl, by decide +kernel, rfl, by decide +kernel, by decide +kernel⟩ (FunD.bindsN F fun _ _ _ _ _ _ us hl => match us, hl with | [_, _], _ => rfl) fun cdv A outer s H E C => ?_)
  exact (mss_one (ms_ret (m_and (m_isiO fx.TK (fx.free 6 rfl) (fx.cls 59 rfl) (m_var 1)) (m_and (m_cmp (c_eq C fx.TK eqOk0) (m_fld fx.TK (fx.FO _) (m_var 0)) (m_fld fx.TK (fx.FO _) (m_var 1))) (m_and (m_cmp (c_eq C fx.TK eqOk0) (m_fld fx.TK (fx.FO _) (m_var 0)) (m_fld fx.TK (fx.FO _) (m_var 1))) (m_and (m_cmp (c_eq C fx.TK eqOk0) (m_fld fx.TK (fx.FO _) (m_var 0)) (m_fld fx.TK (fx.FO _) (m_var 1))) (m_one (m_cmp (c_eq C fx.TK eqOk0) (m_fld fx.TK (fx.FO _) (m_var 0)) (m_fld fx.TK (fx.FO _) (m_var 1))))))))))
theorem weq60 : FnM P w K mg base (tab K) 2 (ma K (adr K 60) "__eq__") (Feq60 (tab K)) 2 := by
  obtain ⟨fd, F⟩ := fx.fun_ 79 d79 rfl
  refine FnMd.m (ps := ["self", "other"]) (okN (N := ["self", "other"]) (k := 1) (beq60 (tab K)) F ⟨rfl, rfl, rfl, by decide +kernel, rfl, by decide +kernel, by decide +kernel⟩ (FunD.bindsN F fun _ _ _ _ _ _ us hl => match us, hl with | [_, _], _ => rfl) fun cdv A outer s H E C => ?_)
  exact (mss_one (ms_ret (m_and (m_isiO fx.TK (fx.free 6 rfl) (fx.cls 60 rfl) (m_var 1)) (m_one (m_cmp (c_eq C fx.TK eqOk0) (m_tup (ma_cons (m_fld fx.TK (fx.FO _) (m_var 0)) (ma_cons (m_fld fx.TK (fx.FO _) (m_var 0)) (ma_cons (m_fld fx.TK (fx.FO _) (m_var 0)) (ma_cons (m_fld fx.TK (fx.FO _) (m_var 0)) (ma_cons (m_fld fx.TK (fx.FO _) (m_var 0)) ma_nil)))))) (m_tup (ma_cons (m_fld fx.TK (fx.FO _) (m_var 1)) (ma_cons (m_fld fx.TK (fx.FO _) (m_var 1)) (ma_cons (m_fld fx.TK (fx.FO _) (m_var 1)) (ma_cons (m_fld fx.TK (fx.FO _) (m_var 1)) (ma_cons (m_fld fx.TK (fx.FO _) (m_var 1)) ma_nil)))))))))))
omit fx in
theorem fnMono {T : Tab} {j k n : Nat} {f : Addr} {F : FnF} (h : FnM P w K mg base T j f F n) (hk : j ≤ k) : FnM P w K mg base T k f F n := by
  obtain ⟨fd, ps, h1, h2, h3⟩ := h.ex
  exact ⟨fd, ps, h1, h2.mono hk, h3⟩
theorem eo (k : Nat) (hk : 2 ≤ k) : EqOk P w K mg base (tab K) k (et (tab K)) := by
  have one : ∀ (j : Nat) F, (etL (tab K))[j]? = some F → ∃ f, EqC K ((tab K).adr (j + 40)) f ∧ FnM P w K mg base (tab K) 2 f F 2 := fun j F h => match j, h with
    | 0, h => by cases h; exact ⟨_, (fx.ins 40 (by decide)).2.2, weq40 fx P w base⟩
    | 1, h => by cases h; exact ⟨_, (fx.ins 41 (by decide)).2.2, weq41 fx P w base⟩
    | 2, h => by cases h; exact ⟨_, (fx.ins 42 (by decide)).2.2, weq42 fx P w base⟩
    | 3, h => by cases h; exact ⟨_, (fx.ins 43 (by decide)).2.2, weq43 fx P w base⟩
    | 4, h => by cases h; exact ⟨_, (fx.ins 44 (by decide)).2.2, weq44 fx P w base⟩
    | 5, h => by cases h; exact ⟨_, (fx.ins 45 (by decide)).2.2, weq45 fx P w base⟩
    | 6, h => by cases h; exact ⟨_, (fx.ins 46 (by decide)).2.2, weq46 fx P w base⟩
    | 7, h => by cases h; exact ⟨_, (fx.ins 47 (by decide)).2.2, weq47 fx P w base⟩
    | 8, h => by cases h; exact ⟨_, (fx.ins 48 (by decide)).2.2, weq48 fx P w base⟩
    | 9, h => by cases h; exact ⟨_, (fx.ins 49 (by decide)).2.2, weq49 fx P w base⟩
    | 10, h => by cases h; exact ⟨_, (fx.ins 50 (by decide)).2.2, weq50 fx P w base⟩
    | 11, h => by cases h; exact ⟨_, (fx.ins 51 (by decide)).2.2, weq51 fx P w base⟩
    | 12, h => by cases h; exact ⟨_, (fx.ins 52 (by decide)).2.2, weq52 fx P w base⟩
    | 13, h => by cases h; exact ⟨_, (fx.ins 53 (by decide)).2.2, weq53 fx P w base⟩
    | 14, h => by cases h; exact ⟨_, (fx.ins 54 (by decide)).2.2, weq54 fx P w base⟩
    | 15, h => by cases h; exact ⟨_, (fx.ins 55 (by decide)).2.2, weq55 fx P w base⟩
    | 16, h => by cases h; exact ⟨_, (fx.ins 56 (by decide)).2.2, weq56 fx P w base⟩
    | 17, h => by cases h; exact ⟨_, (fx.ins 57 (by decide)).2.2, weq57 fx P w base⟩
    | 18, h => by cases h; exact ⟨_, (fx.ins 58 (by decide)).2.2, weq58 fx P w base⟩
    | 19, h => by cases h; exact ⟨_, (fx.ins 59 (by decide)).2.2, weq59 fx P w base⟩
    | 20, h => by cases h; exact ⟨_, (fx.ins 60 (by decide)).2.2, weq60 fx P w base⟩
    | n + 21, h => by
      have h2 : ([] : List FnF)[n]? = some F := h
      cases h2
  intro c F h
  unfold et at h
  split at h
  · cases h
  · rename_i hc
    obtain ⟨f, e, m⟩ := one _ _ h
    rw [show c - 40 + 40 = c by omega] at e
    exact ⟨f, e, fnMono P w base m hk⟩
end
end Wk
/-! Wk4: the law's defs. -/
namespace Wk
open PySem PySem.Spec PyProof.Rows L2 Vm He
section
variable {K : PySem.W.Frag} {mg : Str → Option Value} (fx : Fx K mg) (P : Program) (w : World) (base : Heap)
include fx
theorem w_law_mix : CalM P w K mg base (tab K) "_law_mix" 1 2 (F_law_mix (tab K)) := by
  obtain ⟨fd, F⟩ := fx.fun_ 81 d81 rfl
  refine ⟨_, fd, ["number", "turn"], rfl, fx.def_ 1 rfl, okN (N := ["number", "turn", "once", "twice"]) (k := 0) (b_law_mix (tab K)) F ⟨rfl, rfl, rfl, by decide +kernel, rfl, by decide +kernel, by decide +kernel⟩ (FunD.bindsN F fun _ _ _ _ _ _ us hl => match us, hl with | [_, _], _ => rfl) fun cdv A outer s H E C => ?_⟩
  exact (mss_cons (ms_asg (m_mod (m_cint (fx.free 2 rfl) (ma_cons (m_add (m_add (m_mul (m_var 0) m_int) (m_mul (m_var 1) m_int)) m_int) ma_nil)) m_int) (mg_name 2 C.nd))
 (mss_cons (ms_asg (m_mod (m_cint (fx.free 2 rfl) (ma_cons (m_add (m_add (m_mul (m_var 2) (m_var 2)) (m_mul (m_div (m_var 2) m_int) m_int)) (m_mul (m_var 1) m_int)) ma_nil)) m_int) (mg_name 3 C.nd))
 (mss_one (ms_ret (m_div (m_mod (m_cint (fx.free 2 rfl) (ma_cons (m_add (m_div (m_mul (m_var 3) (m_var 3)) m_int) (m_mul (m_var 2) m_int)) ma_nil)) m_int) m_int)))))
theorem w_law_draw (eo : ∀ k, 2 ≤ k → EqOk P w K mg base (tab K) k (et (tab K))) : CalM P w K mg base (tab K) "_law_draw" 4 2 (F_law_draw (tab K)) := by
  obtain ⟨fd, F⟩ := fx.fun_ 80 d80 rfl
  refine ⟨_, fd, ["hand", "many"], rfl, fx.def_ 0 rfl, okN (N := ["hand", "many", "cell", "rest"]) (k := 3) (b_law_draw (tab K)) F ⟨rfl, rfl, rfl, by decide +kernel, rfl, by decide +kernel, by decide +kernel⟩ (FunD.bindsN F fun _ _ _ _ _ _ us hl => match us, hl with | [_, _], _ => rfl) fun cdv A outer s H E C => ?_⟩
  exact (mss_cons (ms_if (mw_and (mt_cmp (c_eq C fx.TK (eo _ (by decide))) (m_ix (m_var 0) m_int) m_int) (mw_and1 (mt_cmp c_lt (m_ix (m_var 0) m_int) (m_len (fx.free 0 rfl) (ma_cons (m_ix (m_var 0) m_int) ma_nil))))).t
 (mss_cons (ms_asg (m_ix (m_ix (m_var 0) m_int) (m_ix (m_var 0) m_int)) (mg_name 2 C.nd))
 (mss_cons (ms_set (m_add (m_ix (m_var 0) m_int) m_int) (m_var 0) m_int)
 (mss_cons (ms_if (mt_cmp c_lt (m_var 2) (m_pow m_int m_int))
 (mss_one (ms_ret (m_mod (m_cint (fx.free 2 rfl) (ma_cons (m_fn C (w_law_mix fx _ _ _) (by decide) (ma_cons (m_mod (m_cint (fx.free 2 rfl) (ma_cons (m_var 2) ma_nil)) m_int) (ma_cons (m_ix (m_var 0) m_int) ma_nil))) ma_nil)) (m_var 1)))) mss_nil)
 (mss_one (ms_set (m_var 2) (m_var 0) m_int))))) mss_nil)
 (mss_cons (ms_if (mt_cmp c_gt (m_ix (m_var 0) m_int) m_int)
 (mss_cons (ms_asg (m_ix (m_var 0) m_int) (mg_name 3 C.nd))
 (mss_cons (ms_set (m_div (m_var 3) (m_var 1)) (m_var 0) m_int)
 (mss_one (ms_ret (m_mod (m_cint (fx.free 2 rfl) (ma_cons (m_var 3) ma_nil)) (m_var 1)))))) mss_nil)
 (mss_cons (ms_set (m_mod (m_cint (fx.free 2 rfl) (ma_cons (m_add (m_ix (m_var 0) m_int) m_int) ma_nil)) m_int) (m_var 0) m_int)
 (mss_one (ms_ret (m_mod (m_cint (fx.free 2 rfl) (ma_cons (m_fn C (w_law_mix fx _ _ _) (by decide) (ma_cons (m_ix (m_var 0) m_int) (ma_cons (m_ix (m_var 0) m_int) ma_nil))) ma_nil)) (m_var 1)))))))
theorem w_law_hand : CalM P w K mg base (tab K) "_law_hand" 1 1 (F_law_hand (tab K)) := by
  obtain ⟨fd, F⟩ := fx.fun_ 82 d82 rfl
  refine ⟨_, fd, ["script"], rfl, fx.def_ 2 rfl, okN (N := ["script", "total", "k", "cell"]) (k := 0) (b_law_hand (tab K)) F ⟨rfl, rfl, rfl, by decide +kernel, rfl, by decide +kernel, by decide +kernel⟩ (FunD.bindsN F fun _ _ _ _ _ _ us hl => match us, hl with | [_], _ => rfl) fun cdv A outer s H E C => ?_⟩
  exact (mss_cons (ms_asg m_int (mg_name 1 C.nd))
 (mss_cons (ms_for C (mi_enum (fx.free 8 rfl) (ma_cons (m_var 0) ma_nil)) (mg_tup 2 C.calm (mgs_cons (mg_name 2 C.nd) (mgs_cons (mg_name 3 C.nd) mgs_nil)))
 (mss_one (ms_asg (m_mod (m_cint (fx.free 2 rfl) (ma_cons (m_add (m_mul (m_var 1) m_int) (m_mul (m_cint (fx.free 2 rfl) (ma_cons (m_var 3) ma_nil)) (m_add (m_var 2) m_int))) ma_nil)) m_int) (mg_name 1 C.nd))))
 (mss_one (ms_ret (m_lst (ma_cons (m_lc [("cell", 3)] C (mi_seq (m_var 0)) (by kernel_rfl) (fun s H Ca cl fp => (mg_name 3 C.nd)) (by decide) (fun s H Ca cl fp => mts_nil) (fun s H Ca cl fp C => (m_abs (fx.free 1 rfl) (ma_cons (m_cint (fx.free 2 rfl) (ma_cons (m_var 3) ma_nil)) ma_nil)))) (ma_cons m_int (ma_cons m_int (ma_cons (m_var 1) ma_nil)))))))))
theorem w_law_errors : CalM P w K mg base (tab K) "_law_errors" 3 6 (F_law_errors (tab K)) := by
  obtain ⟨fd, F⟩ := fx.fun_ 83 d83 rfl
  refine ⟨_, fd, ["t", "n", "prime_one", "w", "x", "y"], rfl, fx.def_ 3 rfl, okN (N := ["t", "n", "prime_one", "w", "x", "y", "first"]) (k := 2) (b_law_errors (tab K)) F ⟨rfl, rfl, rfl, by decide +kernel, rfl, by decide +kernel, by decide +kernel⟩ (FunD.bindsN F fun _ _ _ _ _ _ us hl => match us, hl with | [_, _, _, _, _, _], _ => rfl) fun cdv A outer s H E C => ?_⟩
  exact (mss_cons (ms_asg (m_lst (ma_cons (x_err C fx.TK (mk1 fx _ _ _) (by decide) (ma_cons (m_var 4) ma_nil)) (ma_cons (x_err C fx.TK (mk2 fx _ _ _) (by decide) (ma_cons (m_var 4) ma_nil)) (ma_cons (x_err C fx.TK (mk4 fx _ _ _) (by decide) (ma_cons (m_var 1) ma_nil)) (ma_cons (x_err C fx.TK (mk5 fx _ _ _) (by decide) (ma_cons (m_var 0) ma_nil)) (ma_cons (x_err C fx.TK (mk6 fx _ _ _) (by decide) (ma_cons (m_var 0) ma_nil)) (ma_cons (x_err C fx.TK (mk7 fx _ _ _) (by decide) (ma_cons (m_var 0) (ma_cons (m_var 1) ma_nil))) (ma_cons (x_err C fx.TK (mk8 fx _ _ _) (by decide) (ma_cons (m_var 4) ma_nil)) ma_nil)))))))) (mg_name 6 C.nd))
 (mss_cons (ms_asg (m_add (m_var 6) (m_lst (ma_cons (x_err C fx.TK (mk9 fx _ _ _) (by decide) (ma_cons (m_var 0) ma_nil)) (ma_cons (x_err C fx.TK (mk10 fx _ _ _) (by decide) (ma_cons (m_var 4) (ma_cons (m_var 5) ma_nil))) (ma_cons (x_err C fx.TK (mk11 fx _ _ _) (by decide) (ma_cons (m_var 4) ma_nil)) (ma_cons (x_err C fx.TK (mk13 fx _ _ _) (by decide) (ma_cons (m_var 4) ma_nil)) (ma_cons (x_err C fx.TK (mk14 fx _ _ _) (by decide) (ma_cons (m_var 0) ma_nil)) (ma_cons (x_err C fx.TK (mk15 fx _ _ _) (by decide) (ma_cons (m_var 3) ma_nil)) ma_nil)))))))) (mg_name 6 C.nd))
 (mss_cons (ms_asg (m_add (m_var 6) (m_lst (ma_cons (x_err C fx.TK (mk16 fx _ _ _) (by decide) (ma_cons (m_var 1) ma_nil)) (ma_cons (x_err C fx.TK (mk17 fx _ _ _) (by decide) (ma_cons (m_var 0) ma_nil)) (ma_cons (x_err C fx.TK (mk18 fx _ _ _) (by decide) (ma_cons (m_var 0) ma_nil)) (ma_cons (x_err C fx.TK (mk19 fx _ _ _) (by decide) (ma_cons (m_var 0) ma_nil)) (ma_cons (x_err C fx.TK (mk20 fx _ _ _) (by decide) (ma_cons (m_var 0) ma_nil)) (ma_cons (x_err C fx.TK (mk22 fx _ _ _) (by decide) (ma_cons (m_var 0) ma_nil)) ma_nil)))))))) (mg_name 6 C.nd))
 (mss_cons (ms_asg (m_add (m_var 6) (m_lst (ma_cons (x_err C fx.TK (mk23 fx _ _ _) (by decide) (ma_cons (m_var 2) ma_nil)) (ma_cons (x_err C fx.TK (mk24 fx _ _ _) (by decide) (ma_cons (m_var 0) (ma_cons (m_var 1) ma_nil))) (ma_cons (x_err C fx.TK (mk25 fx _ _ _) (by decide) (ma_cons (m_var 0) ma_nil)) (ma_cons (x_err C fx.TK (mk26 fx _ _ _) (by decide) (ma_cons (m_var 4) ma_nil)) (ma_cons (x_err C fx.TK (mk27 fx _ _ _) (by decide) (ma_cons (m_var 0) ma_nil)) (ma_cons (x_err C fx.TK (mk28 fx _ _ _) (by decide) (ma_cons (m_var 0) ma_nil)) ma_nil)))))))) (mg_name 6 C.nd))
 (mss_cons (ms_asg (m_add (m_var 6) (m_lst (ma_cons (x_err C fx.TK (mk29 fx _ _ _) (by decide) (ma_cons (m_var 1) ma_nil)) (ma_cons (x_err C fx.TK (mk30 fx _ _ _) (by decide) (ma_cons (m_var 0) (ma_cons (m_var 1) ma_nil))) (ma_cons (x_err C fx.TK (mk31 fx _ _ _) (by decide) (ma_cons (m_var 0) ma_nil)) (ma_cons (x_err C fx.TK (mk32 fx _ _ _) (by decide) (ma_cons (m_var 0) ma_nil)) (ma_cons (x_err C fx.TK (mk33 fx _ _ _) (by decide) (ma_cons (m_var 0) ma_nil)) ma_nil))))))) (mg_name 6 C.nd))
 (mss_one (ms_ret (m_add (m_var 6) (m_lst (ma_cons (x_err0 C fx.TK (mk3 fx _ _ _) (by decide)) (ma_cons (x_err0 C fx.TK (mk12 fx _ _ _) (by decide)) (ma_cons (m_errN fx.TK (fx.bare 21 (by decide)) (fx.cls 21 rfl)) (ma_cons (x_err0 C fx.TK (mk34 fx _ _ _) (by decide)) (ma_cons (x_err0 C fx.TK (mk35 fx _ _ _) (by decide)) (ma_cons (x_err0 C fx.TK (mk36 fx _ _ _) (by decide)) (ma_cons (x_err0 C fx.TK (mk37 fx _ _ _) (by decide)) (ma_cons (x_err0 C fx.TK (mk38 fx _ _ _) (by decide)) (ma_cons (x_err0 C fx.TK (mk39 fx _ _ _) (by decide)) ma_nil))))))))))))))))))
theorem w_law_named_errors : CalM P w K mg base (tab K) "_law_named_errors" 3 6 (F_law_named_errors (tab K)) := by
  obtain ⟨fd, F⟩ := fx.fun_ 84 d84 rfl
  refine ⟨_, fd, ["t", "n", "prime_one", "w", "x", "y"], rfl, fx.def_ 4 rfl, okN (N := ["t", "n", "prime_one", "w", "x", "y", "first"]) (k := 2) (b_law_named_errors (tab K)) F ⟨rfl, rfl, rfl, by decide +kernel, rfl, by decide +kernel, by decide +kernel⟩ (FunD.bindsN F fun _ _ _ _ _ _ us hl => match us, hl with | [_, _, _, _, _, _], _ => rfl) fun cdv A outer s H E C => ?_⟩
  exact (mss_cons (ms_asg (m_lst (ma_cons (x_errK C fx.TK (mk1 fx _ _ _) (by decide) (mk_cons (m_var 4) mk_nil)) (ma_cons (x_errK C fx.TK (mk2 fx _ _ _) (by decide) (mk_cons (m_var 4) mk_nil)) (ma_cons (x_errK C fx.TK (mk4 fx _ _ _) (by decide) (mk_cons (m_var 1) mk_nil)) (ma_cons (x_errK C fx.TK (mk5 fx _ _ _) (by decide) (mk_cons (m_var 0) mk_nil)) (ma_cons (x_errK C fx.TK (mk6 fx _ _ _) (by decide) (mk_cons (m_var 0) mk_nil)) ma_nil)))))) (mg_name 6 C.nd))
 (mss_cons (ms_asg (m_add (m_var 6) (m_lst (ma_cons (x_errK C fx.TK (mk7 fx _ _ _) (by decide) (mk_cons (m_var 1) (mk_cons (m_var 0) mk_nil))) (ma_cons (x_errK C fx.TK (mk8 fx _ _ _) (by decide) (mk_cons (m_var 4) mk_nil)) (ma_cons (x_errK C fx.TK (mk9 fx _ _ _) (by decide) (mk_cons (m_var 0) mk_nil)) (ma_cons (x_errK C fx.TK (mk10 fx _ _ _) (by decide) (mk_cons (m_var 5) (mk_cons (m_var 4) mk_nil))) ma_nil)))))) (mg_name 6 C.nd))
 (mss_cons (ms_asg (m_add (m_var 6) (m_lst (ma_cons (x_errK C fx.TK (mk11 fx _ _ _) (by decide) (mk_cons (m_var 4) mk_nil)) (ma_cons (x_errK C fx.TK (mk13 fx _ _ _) (by decide) (mk_cons (m_var 4) mk_nil)) (ma_cons (x_errK C fx.TK (mk14 fx _ _ _) (by decide) (mk_cons (m_var 0) mk_nil)) (ma_cons (x_errK C fx.TK (mk15 fx _ _ _) (by decide) (mk_cons (m_var 3) mk_nil)) (ma_cons (x_errK C fx.TK (mk16 fx _ _ _) (by decide) (mk_cons (m_var 1) mk_nil)) ma_nil))))))) (mg_name 6 C.nd))
 (mss_cons (ms_asg (m_add (m_var 6) (m_lst (ma_cons (x_errK C fx.TK (mk17 fx _ _ _) (by decide) (mk_cons (m_var 0) mk_nil)) (ma_cons (x_errK C fx.TK (mk18 fx _ _ _) (by decide) (mk_cons (m_var 0) mk_nil)) (ma_cons (x_errK C fx.TK (mk19 fx _ _ _) (by decide) (mk_cons (m_var 0) mk_nil)) (ma_cons (x_errK C fx.TK (mk20 fx _ _ _) (by decide) (mk_cons (m_var 0) mk_nil)) (ma_cons (x_errK C fx.TK (mk22 fx _ _ _) (by decide) (mk_cons (m_var 0) mk_nil)) ma_nil))))))) (mg_name 6 C.nd))
 (mss_cons (ms_asg (m_add (m_var 6) (m_lst (ma_cons (x_errK C fx.TK (mk23 fx _ _ _) (by decide) (mk_cons (m_var 2) mk_nil)) (ma_cons (x_errK C fx.TK (mk24 fx _ _ _) (by decide) (mk_cons (m_var 1) (mk_cons (m_var 0) mk_nil))) (ma_cons (x_errK C fx.TK (mk25 fx _ _ _) (by decide) (mk_cons (m_var 0) mk_nil)) (ma_cons (x_errK C fx.TK (mk26 fx _ _ _) (by decide) (mk_cons (m_var 4) mk_nil)) ma_nil)))))) (mg_name 6 C.nd))
 (mss_cons (ms_asg (m_add (m_var 6) (m_lst (ma_cons (x_errK C fx.TK (mk27 fx _ _ _) (by decide) (mk_cons (m_var 0) mk_nil)) (ma_cons (x_errK C fx.TK (mk28 fx _ _ _) (by decide) (mk_cons (m_var 0) mk_nil)) (ma_cons (x_errK C fx.TK (mk29 fx _ _ _) (by decide) (mk_cons (m_var 1) mk_nil)) (ma_cons (x_errK C fx.TK (mk30 fx _ _ _) (by decide) (mk_cons (m_var 1) (mk_cons (m_var 0) mk_nil))) ma_nil)))))) (mg_name 6 C.nd))
 (mss_cons (ms_asg (m_add (m_var 6) (m_lst (ma_cons (x_errK C fx.TK (mk31 fx _ _ _) (by decide) (mk_cons (m_var 0) mk_nil)) (ma_cons (x_errK C fx.TK (mk32 fx _ _ _) (by decide) (mk_cons (m_var 0) mk_nil)) (ma_cons (x_errK C fx.TK (mk33 fx _ _ _) (by decide) (mk_cons (m_var 0) mk_nil)) ma_nil))))) (mg_name 6 C.nd))
 (mss_one (ms_ret (m_add (m_var 6) (m_lst (ma_cons (x_err0 C fx.TK (mk3 fx _ _ _) (by decide)) (ma_cons (x_err0 C fx.TK (mk12 fx _ _ _) (by decide)) (ma_cons (m_errN fx.TK (fx.bare 21 (by decide)) (fx.cls 21 rfl)) (ma_cons (x_err0 C fx.TK (mk34 fx _ _ _) (by decide)) (ma_cons (x_err0 C fx.TK (mk35 fx _ _ _) (by decide)) (ma_cons (x_err0 C fx.TK (mk36 fx _ _ _) (by decide)) (ma_cons (x_err0 C fx.TK (mk37 fx _ _ _) (by decide)) (ma_cons (x_err0 C fx.TK (mk38 fx _ _ _) (by decide)) (ma_cons (x_err0 C fx.TK (mk39 fx _ _ _) (by decide)) ma_nil))))))))))))))))))))
theorem w_law_due_fields : CalM P w K mg base (tab K) "_law_due_fields" 1 6 (F_law_due_fields (tab K)) := by
  obtain ⟨fd, F⟩ := fx.fun_ 85 d85 rfl
  refine ⟨_, fd, ["t", "n", "prime_one", "w", "x", "y"], rfl, fx.def_ 5 rfl, okN (N := ["t", "n", "prime_one", "w", "x", "y", "due"]) (k := 0) (b_law_due_fields (tab K)) F ⟨rfl, rfl, rfl, by decide +kernel, rfl, by decide +kernel, by decide +kernel⟩ (FunD.bindsN F fun _ _ _ _ _ _ us hl => match us, hl with | [_, _, _, _, _, _], _ => rfl) fun cdv A outer s H E C => ?_⟩
  exact (mss_cons (ms_asg (m_lst (ma_cons (m_lst (ma_cons (m_var 4) ma_nil)) (ma_cons (m_lst (ma_cons (m_var 4) ma_nil)) (ma_cons (m_lst (ma_cons (m_var 1) ma_nil)) (ma_cons (m_lst (ma_cons (m_var 0) ma_nil)) (ma_cons (m_lst (ma_cons (m_var 0) ma_nil)) (ma_cons (m_lst (ma_cons (m_var 0) (ma_cons (m_var 1) ma_nil))) (ma_cons (m_lst (ma_cons (m_var 4) ma_nil)) (ma_cons (m_lst (ma_cons (m_var 0) ma_nil)) (ma_cons (m_lst (ma_cons (m_var 4) (ma_cons (m_var 5) ma_nil))) (ma_cons (m_lst (ma_cons (m_var 4) ma_nil)) (ma_cons (m_lst (ma_cons (m_var 4) ma_nil)) (ma_cons (m_lst (ma_cons (m_var 0) ma_nil)) (ma_cons (m_lst (ma_cons (m_var 3) ma_nil)) (ma_cons (m_lst (ma_cons (m_var 1) ma_nil)) (ma_cons (m_lst (ma_cons (m_var 0) ma_nil)) (ma_cons (m_lst (ma_cons (m_var 0) ma_nil)) (ma_cons (m_lst (ma_cons (m_var 0) ma_nil)) (ma_cons (m_lst (ma_cons (m_var 0) ma_nil)) (ma_cons (m_lst (ma_cons (m_var 0) ma_nil)) ma_nil)))))))))))))))))))) (mg_name 6 C.nd))
 (mss_one (ms_ret (m_add (m_var 6) (m_lst (ma_cons (m_lst (ma_cons (m_var 2) ma_nil)) (ma_cons (m_lst (ma_cons (m_var 0) (ma_cons (m_var 1) ma_nil))) (ma_cons (m_lst (ma_cons (m_var 0) ma_nil)) (ma_cons (m_lst (ma_cons (m_var 4) ma_nil)) (ma_cons (m_lst (ma_cons (m_var 0) ma_nil)) (ma_cons (m_lst (ma_cons (m_var 0) ma_nil)) (ma_cons (m_lst (ma_cons (m_var 1) ma_nil)) (ma_cons (m_lst (ma_cons (m_var 0) (ma_cons (m_var 1) ma_nil))) (ma_cons (m_lst (ma_cons (m_var 0) ma_nil)) (ma_cons (m_lst (ma_cons (m_var 0) ma_nil)) (ma_cons (m_lst (ma_cons (m_var 0) ma_nil)) ma_nil))))))))))))))))
theorem w_law_fields : CalM P w K mg base (tab K) "_law_fields" 1 1 (F_law_fields (tab K)) := by
  obtain ⟨fd, F⟩ := fx.fun_ 86 d86 rfl
  refine ⟨_, fd, ["e"], rfl, fx.def_ 6 rfl, okN (N := ["e", "told"]) (k := 0) (b_law_fields (tab K)) F ⟨rfl, rfl, rfl, by decide +kernel, rfl, by decide +kernel, by decide +kernel⟩ (FunD.bindsN F fun _ _ _ _ _ _ us hl => match us, hl with | [_], _ => rfl) fun cdv A outer s H E C => ?_⟩
  exact (mss_cons (ms_asg (m_lst (ma_cons (m_lst (ma_cons (m_fld fx.TK (fx.FO _) (m_ix (m_var 0) m_int)) ma_nil)) (ma_cons (m_lst (ma_cons (m_fld fx.TK (fx.FO _) (m_ix (m_var 0) m_int)) ma_nil)) (ma_cons (m_lst (ma_cons (m_fld fx.TK (fx.FO _) (m_ix (m_var 0) m_int)) ma_nil)) (ma_cons (m_lst (ma_cons (m_fld fx.TK (fx.FO _) (m_ix (m_var 0) m_int)) ma_nil)) (ma_cons (m_lst (ma_cons (m_fld fx.TK (fx.FO _) (m_ix (m_var 0) m_int)) ma_nil)) (ma_cons (m_lst (ma_cons (m_fld fx.TK (fx.FO _) (m_ix (m_var 0) m_int)) (ma_cons (m_fld fx.TK (fx.FO _) (m_ix (m_var 0) m_int)) ma_nil))) (ma_cons (m_lst (ma_cons (m_fld fx.TK (fx.FO _) (m_ix (m_var 0) m_int)) ma_nil)) ma_nil)))))))) (mg_name 1 C.nd))
 (mss_cons (ms_asg (m_add (m_var 1) (m_lst (ma_cons (m_lst (ma_cons (m_fld fx.TK (fx.FO _) (m_ix (m_var 0) m_int)) ma_nil)) (ma_cons (m_lst (ma_cons (m_fld fx.TK (fx.FO _) (m_ix (m_var 0) m_int)) (ma_cons (m_fld fx.TK (fx.FO _) (m_ix (m_var 0) m_int)) ma_nil))) (ma_cons (m_lst (ma_cons (m_fld fx.TK (fx.FO _) (m_ix (m_var 0) m_int)) ma_nil)) (ma_cons (m_lst (ma_cons (m_fld fx.TK (fx.FO _) (m_ix (m_var 0) m_int)) ma_nil)) (ma_cons (m_lst (ma_cons (m_fld fx.TK (fx.FO _) (m_ix (m_var 0) m_int)) ma_nil)) (ma_cons (m_lst (ma_cons (m_fld fx.TK (fx.FO _) (m_ix (m_var 0) m_int)) ma_nil)) ma_nil)))))))) (mg_name 1 C.nd))
 (mss_cons (ms_asg (m_add (m_var 1) (m_lst (ma_cons (m_lst (ma_cons (m_fld fx.TK (fx.FO _) (m_ix (m_var 0) m_int)) ma_nil)) (ma_cons (m_lst (ma_cons (m_fld fx.TK (fx.FO _) (m_ix (m_var 0) m_int)) ma_nil)) (ma_cons (m_lst (ma_cons (m_fld fx.TK (fx.FO _) (m_ix (m_var 0) m_int)) ma_nil)) (ma_cons (m_lst (ma_cons (m_fld fx.TK (fx.FO _) (m_ix (m_var 0) m_int)) ma_nil)) (ma_cons (m_lst (ma_cons (m_fld fx.TK (fx.FO _) (m_ix (m_var 0) m_int)) ma_nil)) (ma_cons (m_lst (ma_cons (m_fld fx.TK (fx.FO _) (m_ix (m_var 0) m_int)) ma_nil)) ma_nil)))))))) (mg_name 1 C.nd))
 (mss_cons (ms_asg (m_add (m_var 1) (m_lst (ma_cons (m_lst (ma_cons (m_fld fx.TK (fx.FO _) (m_ix (m_var 0) m_int)) ma_nil)) (ma_cons (m_lst (ma_cons (m_fld fx.TK (fx.FO _) (m_ix (m_var 0) m_int)) (ma_cons (m_fld fx.TK (fx.FO _) (m_ix (m_var 0) m_int)) ma_nil))) (ma_cons (m_lst (ma_cons (m_fld fx.TK (fx.FO _) (m_ix (m_var 0) m_int)) ma_nil)) (ma_cons (m_lst (ma_cons (m_fld fx.TK (fx.FO _) (m_ix (m_var 0) m_int)) ma_nil)) (ma_cons (m_lst (ma_cons (m_fld fx.TK (fx.FO _) (m_ix (m_var 0) m_int)) ma_nil)) (ma_cons (m_lst (ma_cons (m_fld fx.TK (fx.FO _) (m_ix (m_var 0) m_int)) ma_nil)) ma_nil)))))))) (mg_name 1 C.nd))
 (mss_one (ms_ret (m_add (m_var 1) (m_lst (ma_cons (m_lst (ma_cons (m_fld fx.TK (fx.FO _) (m_ix (m_var 0) m_int)) ma_nil)) (ma_cons (m_lst (ma_cons (m_fld fx.TK (fx.FO _) (m_ix (m_var 0) m_int)) (ma_cons (m_fld fx.TK (fx.FO _) (m_ix (m_var 0) m_int)) ma_nil))) (ma_cons (m_lst (ma_cons (m_fld fx.TK (fx.FO _) (m_ix (m_var 0) m_int)) ma_nil)) (ma_cons (m_lst (ma_cons (m_fld fx.TK (fx.FO _) (m_ix (m_var 0) m_int)) ma_nil)) (ma_cons (m_lst (ma_cons (m_fld fx.TK (fx.FO _) (m_ix (m_var 0) m_int)) ma_nil)) ma_nil)))))))))))))
theorem w_law_kinds : CalM P w K mg base (tab K) "_law_kinds" 1 1 (F_law_kinds (tab K)) := by
  obtain ⟨fd, F⟩ := fx.fun_ 87 d87 rfl
  refine ⟨_, fd, ["one"], rfl, fx.def_ 7 rfl, okN (N := ["one", "found"]) (k := 0) (b_law_kinds (tab K)) F ⟨rfl, rfl, rfl, by decide +kernel, rfl, by decide +kernel, by decide +kernel⟩ (FunD.bindsN F fun _ _ _ _ _ _ us hl => match us, hl with | [_], _ => rfl) fun cdv A outer s H E C => ?_⟩
  exact (mss_cons (ms_asg (m_lst (ma_cons (m_isiO fx.TK (fx.free 6 rfl) (fx.cls 1 rfl) (m_var 0)) (ma_cons (m_isiO fx.TK (fx.free 6 rfl) (fx.cls 2 rfl) (m_var 0)) (ma_cons (m_isiO fx.TK (fx.free 6 rfl) (fx.cls 4 rfl) (m_var 0)) (ma_cons (m_isiO fx.TK (fx.free 6 rfl) (fx.cls 5 rfl) (m_var 0)) ma_nil))))) (mg_name 1 C.nd))
 (mss_cons (ms_asg (m_add (m_var 1) (m_lst (ma_cons (m_isiO fx.TK (fx.free 6 rfl) (fx.cls 6 rfl) (m_var 0)) (ma_cons (m_isiO fx.TK (fx.free 6 rfl) (fx.cls 7 rfl) (m_var 0)) (ma_cons (m_isiO fx.TK (fx.free 6 rfl) (fx.cls 8 rfl) (m_var 0)) (ma_cons (m_isiO fx.TK (fx.free 6 rfl) (fx.cls 9 rfl) (m_var 0)) ma_nil)))))) (mg_name 1 C.nd))
 (mss_cons (ms_asg (m_add (m_var 1) (m_lst (ma_cons (m_isiO fx.TK (fx.free 6 rfl) (fx.cls 10 rfl) (m_var 0)) (ma_cons (m_isiO fx.TK (fx.free 6 rfl) (fx.cls 11 rfl) (m_var 0)) (ma_cons (m_isiO fx.TK (fx.free 6 rfl) (fx.cls 13 rfl) (m_var 0)) (ma_cons (m_isiO fx.TK (fx.free 6 rfl) (fx.cls 14 rfl) (m_var 0)) ma_nil)))))) (mg_name 1 C.nd))
 (mss_cons (ms_asg (m_add (m_var 1) (m_lst (ma_cons (m_isiO fx.TK (fx.free 6 rfl) (fx.cls 15 rfl) (m_var 0)) (ma_cons (m_isiO fx.TK (fx.free 6 rfl) (fx.cls 16 rfl) (m_var 0)) (ma_cons (m_isiO fx.TK (fx.free 6 rfl) (fx.cls 17 rfl) (m_var 0)) (ma_cons (m_isiO fx.TK (fx.free 6 rfl) (fx.cls 18 rfl) (m_var 0)) ma_nil)))))) (mg_name 1 C.nd))
 (mss_cons (ms_asg (m_add (m_var 1) (m_lst (ma_cons (m_isiO fx.TK (fx.free 6 rfl) (fx.cls 19 rfl) (m_var 0)) (ma_cons (m_isiO fx.TK (fx.free 6 rfl) (fx.cls 20 rfl) (m_var 0)) (ma_cons (m_isiO fx.TK (fx.free 6 rfl) (fx.cls 22 rfl) (m_var 0)) (ma_cons (m_isiO fx.TK (fx.free 6 rfl) (fx.cls 23 rfl) (m_var 0)) ma_nil)))))) (mg_name 1 C.nd))
 (mss_cons (ms_asg (m_add (m_var 1) (m_lst (ma_cons (m_isiO fx.TK (fx.free 6 rfl) (fx.cls 24 rfl) (m_var 0)) (ma_cons (m_isiO fx.TK (fx.free 6 rfl) (fx.cls 25 rfl) (m_var 0)) (ma_cons (m_isiO fx.TK (fx.free 6 rfl) (fx.cls 26 rfl) (m_var 0)) (ma_cons (m_isiO fx.TK (fx.free 6 rfl) (fx.cls 27 rfl) (m_var 0)) ma_nil)))))) (mg_name 1 C.nd))
 (mss_cons (ms_asg (m_add (m_var 1) (m_lst (ma_cons (m_isiO fx.TK (fx.free 6 rfl) (fx.cls 28 rfl) (m_var 0)) (ma_cons (m_isiO fx.TK (fx.free 6 rfl) (fx.cls 29 rfl) (m_var 0)) (ma_cons (m_isiO fx.TK (fx.free 6 rfl) (fx.cls 30 rfl) (m_var 0)) ma_nil))))) (mg_name 1 C.nd))
 (mss_cons (ms_asg (m_add (m_var 1) (m_lst (ma_cons (m_isiO fx.TK (fx.free 6 rfl) (fx.cls 31 rfl) (m_var 0)) (ma_cons (m_isiO fx.TK (fx.free 6 rfl) (fx.cls 32 rfl) (m_var 0)) (ma_cons (m_isiO fx.TK (fx.free 6 rfl) (fx.cls 33 rfl) (m_var 0)) (ma_cons (m_isiO fx.TK (fx.free 6 rfl) (fx.cls 3 rfl) (m_var 0)) ma_nil)))))) (mg_name 1 C.nd))
 (mss_cons (ms_asg (m_add (m_var 1) (m_lst (ma_cons (m_isiO fx.TK (fx.free 6 rfl) (fx.cls 12 rfl) (m_var 0)) (ma_cons (m_isiO fx.TK (fx.free 6 rfl) (fx.cls 21 rfl) (m_var 0)) (ma_cons (m_isiO fx.TK (fx.free 6 rfl) (fx.cls 34 rfl) (m_var 0)) (ma_cons (m_isiO fx.TK (fx.free 6 rfl) (fx.cls 35 rfl) (m_var 0)) ma_nil)))))) (mg_name 1 C.nd))
 (mss_one (ms_ret (m_add (m_var 1) (m_lst (ma_cons (m_isiO fx.TK (fx.free 6 rfl) (fx.cls 36 rfl) (m_var 0)) (ma_cons (m_isiO fx.TK (fx.free 6 rfl) (fx.cls 37 rfl) (m_var 0)) (ma_cons (m_isiO fx.TK (fx.free 6 rfl) (fx.cls 38 rfl) (m_var 0)) (ma_cons (m_isiO fx.TK (fx.free 6 rfl) (fx.cls 39 rfl) (m_var 0)) ma_nil)))))))))))))))))
theorem w_law_results : CalM P w K mg base (tab K) "_law_results" 3 1 (F_law_results (tab K)) := by
  obtain ⟨fd, F⟩ := fx.fun_ 88 d88 rfl
  refine ⟨_, fd, ["v"], rfl, fx.def_ 8 rfl, okN (N := ["v", "made"]) (k := 2) (b_law_results (tab K)) F ⟨rfl, rfl, rfl, by decide +kernel, rfl, by decide +kernel, by decide +kernel⟩ (FunD.bindsN F fun _ _ _ _ _ _ us hl => match us, hl with | [_], _ => rfl) fun cdv A outer s H E C => ?_⟩
  exact (mss_cons (ms_asg (m_lst (ma_cons (x_ins C (mk54 fx _ _ _) (by decide) (ma_cons (m_ix (m_var 0) m_int) (ma_cons (m_ix (m_var 0) m_int) (ma_cons (m_ix (m_var 0) m_int) (ma_cons (m_ix (m_var 0) m_int) ma_nil))))) (ma_cons (x_ins C (mk47 fx _ _ _) (by decide) (ma_cons (m_ix (m_var 0) m_int) (ma_cons (m_ix (m_var 0) m_int) (ma_cons (m_ix (m_var 0) m_int) ma_nil)))) (ma_cons (x_ins C (mk55 fx _ _ _) (by decide) (ma_cons (m_ix (m_var 0) m_int) (ma_cons (m_ix (m_var 0) m_int) ma_nil))) (ma_cons (x_ins C (mk56 fx _ _ _) (by decide) (ma_cons (m_ix (m_var 0) m_int) ma_nil)) (ma_cons (x_ins C (mk57 fx _ _ _) (by decide) (ma_cons (m_ix (m_var 0) m_int) (ma_cons (m_ix (m_var 0) m_int) (ma_cons (m_ix (m_var 0) m_int) ma_nil)))) ma_nil)))))) (mg_name 1 C.nd))
 (mss_cons (ms_asg (m_add (m_var 1) (m_lst (ma_cons (x_ins C (mk60 fx _ _ _) (by decide) (ma_cons (m_ix (m_var 0) m_int) (ma_cons (m_ix (m_var 0) m_int) (ma_cons (m_ix (m_var 0) m_int) (ma_cons (m_ix (m_var 0) m_int) (ma_cons (m_ix (m_var 0) m_int) ma_nil)))))) (ma_cons (x_ins C (mk40 fx _ _ _) (by decide) (ma_cons (m_ix (m_var 0) m_int) (ma_cons (m_ix (m_var 0) m_int) (ma_cons (m_ix (m_var 0) m_int) (ma_cons (m_ix (m_var 0) m_int) ma_nil))))) (ma_cons (x_ins C (mk45 fx _ _ _) (by decide) (ma_cons (m_ix (m_var 0) m_int) (ma_cons (m_ix (m_var 0) m_int) ma_nil))) (ma_cons (x_ins C (mk41 fx _ _ _) (by decide) (ma_cons (m_ix (m_var 0) m_int) (ma_cons (m_ix (m_var 0) m_int) ma_nil))) ma_nil)))))) (mg_name 1 C.nd))
 (mss_cons (ms_asg (m_add (m_var 1) (m_lst (ma_cons (x_ins C (mk42 fx _ _ _) (by decide) (ma_cons (m_ix (m_var 0) m_int) ma_nil)) (ma_cons (x_ins C (mk43 fx _ _ _) (by decide) (ma_cons (m_ix (m_var 0) m_int) (ma_cons (m_ix (m_var 0) m_int) ma_nil))) (ma_cons (x_ins C (mk48 fx _ _ _) (by decide) (ma_cons (m_ix (m_var 0) m_int) (ma_cons (m_ix (m_var 0) m_int) (ma_cons (m_ix (m_var 0) m_int) (ma_cons (m_ix (m_var 0) m_int) ma_nil))))) (ma_cons (x_ins C (mk49 fx _ _ _) (by decide) (ma_cons (m_ix (m_var 0) m_int) (ma_cons (m_ix (m_var 0) m_int) (ma_cons (m_ix (m_var 0) m_int) (ma_cons (m_ix (m_var 0) m_int) ma_nil))))) ma_nil)))))) (mg_name 1 C.nd))
 (mss_cons (ms_asg (m_add (m_var 1) (m_lst (ma_cons (x_ins C (mk50 fx _ _ _) (by decide) (ma_cons (m_ix (m_var 0) m_int) (ma_cons (m_ix (m_var 0) m_int) ma_nil))) (ma_cons (x_ins C (mk51 fx _ _ _) (by decide) (ma_cons (m_ix (m_var 0) m_int) (ma_cons (m_ix (m_var 0) m_int) (ma_cons (m_ix (m_var 0) m_int) (ma_cons (m_ix (m_var 0) m_int) ma_nil))))) (ma_cons (x_ins C (mk52 fx _ _ _) (by decide) (ma_cons (m_ix (m_var 0) m_int) (ma_cons (m_ix (m_var 0) m_int) ma_nil))) (ma_cons (x_ins C (mk53 fx _ _ _) (by decide) (ma_cons (m_ix (m_var 0) m_int) (ma_cons (m_ix (m_var 0) m_int) (ma_cons (m_ix (m_var 0) m_int) ma_nil)))) (ma_cons (x_ins C (mk58 fx _ _ _) (by decide) (ma_cons (m_ix (m_var 0) m_int) (ma_cons (m_ix (m_var 0) m_int) ma_nil))) ma_nil))))))) (mg_name 1 C.nd))
 (mss_one (ms_ret (m_add (m_var 1) (m_lst (ma_cons (x_ins C (mk46 fx _ _ _) (by decide) (ma_cons (m_ix (m_var 0) m_int) (ma_cons (m_ix (m_var 0) m_int) (ma_cons (m_ix (m_var 0) m_int) ma_nil)))) (ma_cons (x_ins C (mk59 fx _ _ _) (by decide) (ma_cons (m_ix (m_var 0) m_int) (ma_cons (m_ix (m_var 0) m_int) (ma_cons (m_ix (m_var 0) m_int) (ma_cons (m_ix (m_var 0) m_int) ma_nil))))) (ma_cons (x_ins C (mk44 fx _ _ _) (by decide) (ma_cons (m_ix (m_var 0) m_int) (ma_cons (m_ix (m_var 0) m_int) ma_nil))) ma_nil)))))))))))
theorem w_law_named_results : CalM P w K mg base (tab K) "_law_named_results" 3 1 (F_law_named_results (tab K)) := by
  obtain ⟨fd, F⟩ := fx.fun_ 89 d89 rfl
  refine ⟨_, fd, ["v"], rfl, fx.def_ 9 rfl, okN (N := ["v", "made"]) (k := 2) (b_law_named_results (tab K)) F ⟨rfl, rfl, rfl, by decide +kernel, rfl, by decide +kernel, by decide +kernel⟩ (FunD.bindsN F fun _ _ _ _ _ _ us hl => match us, hl with | [_], _ => rfl) fun cdv A outer s H E C => ?_⟩
  exact (mss_cons (ms_asg (m_lst (ma_cons (x_insK C (mk54 fx _ _ _) (by decide) (mk_cons (m_ix (m_var 0) m_int) (mk_cons (m_ix (m_var 0) m_int) (mk_cons (m_ix (m_var 0) m_int) (mk_cons (m_ix (m_var 0) m_int) mk_nil))))) (ma_cons (x_insK C (mk47 fx _ _ _) (by decide) (mk_cons (m_ix (m_var 0) m_int) (mk_cons (m_ix (m_var 0) m_int) (mk_cons (m_ix (m_var 0) m_int) mk_nil)))) ma_nil))) (mg_name 1 C.nd))
 (mss_cons (ms_asg (m_add (m_var 1) (m_lst (ma_cons (x_insK C (mk55 fx _ _ _) (by decide) (mk_cons (m_ix (m_var 0) m_int) (mk_cons (m_ix (m_var 0) m_int) mk_nil))) (ma_cons (x_insK C (mk56 fx _ _ _) (by decide) (mk_cons (m_ix (m_var 0) m_int) mk_nil)) (ma_cons (x_insK C (mk57 fx _ _ _) (by decide) (mk_cons (m_ix (m_var 0) m_int) (mk_cons (m_ix (m_var 0) m_int) (mk_cons (m_ix (m_var 0) m_int) mk_nil)))) ma_nil))))) (mg_name 1 C.nd))
 (mss_cons (ms_asg (m_add (m_var 1) (m_lst (ma_cons (x_insK C (mk60 fx _ _ _) (by decide) (mk_cons (m_ix (m_var 0) m_int) (mk_cons (m_ix (m_var 0) m_int) (mk_cons (m_ix (m_var 0) m_int) (mk_cons (m_ix (m_var 0) m_int) (mk_cons (m_ix (m_var 0) m_int) mk_nil)))))) ma_nil))) (mg_name 1 C.nd))
 (mss_cons (ms_asg (m_add (m_var 1) (m_lst (ma_cons (x_insK C (mk40 fx _ _ _) (by decide) (mk_cons (m_ix (m_var 0) m_int) (mk_cons (m_ix (m_var 0) m_int) (mk_cons (m_ix (m_var 0) m_int) (mk_cons (m_ix (m_var 0) m_int) mk_nil))))) (ma_cons (x_insK C (mk45 fx _ _ _) (by decide) (mk_cons (m_ix (m_var 0) m_int) (mk_cons (m_ix (m_var 0) m_int) mk_nil))) ma_nil)))) (mg_name 1 C.nd))
 (mss_cons (ms_asg (m_add (m_var 1) (m_lst (ma_cons (x_insK C (mk41 fx _ _ _) (by decide) (mk_cons (m_ix (m_var 0) m_int) (mk_cons (m_ix (m_var 0) m_int) mk_nil))) (ma_cons (x_insK C (mk42 fx _ _ _) (by decide) (mk_cons (m_ix (m_var 0) m_int) mk_nil)) (ma_cons (x_insK C (mk43 fx _ _ _) (by decide) (mk_cons (m_ix (m_var 0) m_int) (mk_cons (m_ix (m_var 0) m_int) mk_nil))) ma_nil))))) (mg_name 1 C.nd))
 (mss_cons (ms_asg (m_add (m_var 1) (m_lst (ma_cons (x_insK C (mk48 fx _ _ _) (by decide) (mk_cons (m_ix (m_var 0) m_int) (mk_cons (m_ix (m_var 0) m_int) (mk_cons (m_ix (m_var 0) m_int) (mk_cons (m_ix (m_var 0) m_int) mk_nil))))) (ma_cons (x_insK C (mk49 fx _ _ _) (by decide) (mk_cons (m_ix (m_var 0) m_int) (mk_cons (m_ix (m_var 0) m_int) (mk_cons (m_ix (m_var 0) m_int) (mk_cons (m_ix (m_var 0) m_int) mk_nil))))) ma_nil)))) (mg_name 1 C.nd))
 (mss_cons (ms_asg (m_add (m_var 1) (m_lst (ma_cons (x_insK C (mk50 fx _ _ _) (by decide) (mk_cons (m_ix (m_var 0) m_int) (mk_cons (m_ix (m_var 0) m_int) mk_nil))) (ma_cons (x_insK C (mk51 fx _ _ _) (by decide) (mk_cons (m_ix (m_var 0) m_int) (mk_cons (m_ix (m_var 0) m_int) (mk_cons (m_ix (m_var 0) m_int) (mk_cons (m_ix (m_var 0) m_int) mk_nil))))) (ma_cons (x_insK C (mk52 fx _ _ _) (by decide) (mk_cons (m_ix (m_var 0) m_int) (mk_cons (m_ix (m_var 0) m_int) mk_nil))) ma_nil))))) (mg_name 1 C.nd))
 (mss_cons (ms_asg (m_add (m_var 1) (m_lst (ma_cons (x_insK C (mk53 fx _ _ _) (by decide) (mk_cons (m_ix (m_var 0) m_int) (mk_cons (m_ix (m_var 0) m_int) (mk_cons (m_ix (m_var 0) m_int) mk_nil)))) (ma_cons (x_insK C (mk58 fx _ _ _) (by decide) (mk_cons (m_ix (m_var 0) m_int) (mk_cons (m_ix (m_var 0) m_int) mk_nil))) ma_nil)))) (mg_name 1 C.nd))
 (mss_cons (ms_asg (m_add (m_var 1) (m_lst (ma_cons (x_insK C (mk46 fx _ _ _) (by decide) (mk_cons (m_ix (m_var 0) m_int) (mk_cons (m_ix (m_var 0) m_int) (mk_cons (m_ix (m_var 0) m_int) mk_nil)))) (ma_cons (x_insK C (mk59 fx _ _ _) (by decide) (mk_cons (m_ix (m_var 0) m_int) (mk_cons (m_ix (m_var 0) m_int) (mk_cons (m_ix (m_var 0) m_int) (mk_cons (m_ix (m_var 0) m_int) mk_nil))))) ma_nil)))) (mg_name 1 C.nd))
 (mss_one (ms_ret (m_add (m_var 1) (m_lst (ma_cons (x_insK C (mk44 fx _ _ _) (by decide) (mk_cons (m_ix (m_var 0) m_int) (mk_cons (m_ix (m_var 0) m_int) mk_nil))) ma_nil))))))))))))))
theorem w_law_things : CalM P w K mg base (tab K) "_law_things" 1 1 (F_law_things (tab K)) := by
  obtain ⟨fd, F⟩ := fx.fun_ 90 d90 rfl
  refine ⟨_, fd, ["r"], rfl, fx.def_ 10 rfl, okN (N := ["r", "told"]) (k := 0) (b_law_things (tab K)) F ⟨rfl, rfl, rfl, by decide +kernel, rfl, by decide +kernel, by decide +kernel⟩ (FunD.bindsN F fun _ _ _ _ _ _ us hl => match us, hl with | [_], _ => rfl) fun cdv A outer s H E C => ?_⟩
  exact (mss_cons (ms_asg (m_lst (ma_cons (m_lst (ma_cons (m_fld fx.TK (fx.FO _) (m_ix (m_var 0) m_int)) (ma_cons (m_fld fx.TK (fx.FO _) (m_ix (m_var 0) m_int)) (ma_cons (m_fld fx.TK (fx.FO _) (m_ix (m_var 0) m_int)) (ma_cons (m_fld fx.TK (fx.FO _) (m_ix (m_var 0) m_int)) ma_nil))))) (ma_cons (m_lst (ma_cons (m_fld fx.TK (fx.FO _) (m_ix (m_var 0) m_int)) (ma_cons (m_fld fx.TK (fx.FO _) (m_ix (m_var 0) m_int)) (ma_cons (m_fld fx.TK (fx.FO _) (m_ix (m_var 0) m_int)) ma_nil)))) (ma_cons (m_lst (ma_cons (m_fld fx.TK (fx.FO _) (m_ix (m_var 0) m_int)) (ma_cons (m_fld fx.TK (fx.FO _) (m_ix (m_var 0) m_int)) ma_nil))) ma_nil)))) (mg_name 1 C.nd))
 (mss_cons (ms_asg (m_add (m_var 1) (m_lst (ma_cons (m_lst (ma_cons (m_fld fx.TK (fx.FO _) (m_ix (m_var 0) m_int)) ma_nil)) (ma_cons (m_lst (ma_cons (m_fld fx.TK (fx.FO _) (m_ix (m_var 0) m_int)) (ma_cons (m_fld fx.TK (fx.FO _) (m_ix (m_var 0) m_int)) (ma_cons (m_fld fx.TK (fx.FO _) (m_ix (m_var 0) m_int)) ma_nil)))) ma_nil)))) (mg_name 1 C.nd))
 (mss_cons (ms_asg (m_add (m_var 1) (m_lst (ma_cons (m_lst (ma_cons (m_fld fx.TK (fx.FO _) (m_ix (m_var 0) m_int)) (ma_cons (m_fld fx.TK (fx.FO _) (m_ix (m_var 0) m_int)) (ma_cons (m_fld fx.TK (fx.FO _) (m_ix (m_var 0) m_int)) (ma_cons (m_fld fx.TK (fx.FO _) (m_ix (m_var 0) m_int)) (ma_cons (m_fld fx.TK (fx.FO _) (m_ix (m_var 0) m_int)) ma_nil)))))) ma_nil))) (mg_name 1 C.nd))
 (mss_cons (ms_asg (m_add (m_var 1) (m_lst (ma_cons (m_lst (ma_cons (m_fld fx.TK (fx.FO _) (m_ix (m_var 0) m_int)) (ma_cons (m_fld fx.TK (fx.FO _) (m_ix (m_var 0) m_int)) (ma_cons (m_fld fx.TK (fx.FO _) (m_ix (m_var 0) m_int)) (ma_cons (m_fld fx.TK (fx.FO _) (m_ix (m_var 0) m_int)) ma_nil))))) (ma_cons (m_lst (ma_cons (m_fld fx.TK (fx.FO _) (m_ix (m_var 0) m_int)) (ma_cons (m_fld fx.TK (fx.FO _) (m_ix (m_var 0) m_int)) ma_nil))) (ma_cons (m_lst (ma_cons (m_fld fx.TK (fx.FO _) (m_ix (m_var 0) m_int)) (ma_cons (m_fld fx.TK (fx.FO _) (m_ix (m_var 0) m_int)) ma_nil))) ma_nil))))) (mg_name 1 C.nd))
 (mss_cons (ms_asg (m_add (m_var 1) (m_lst (ma_cons (m_lst (ma_cons (m_fld fx.TK (fx.FO _) (m_ix (m_var 0) m_int)) ma_nil)) (ma_cons (m_lst (ma_cons (m_fld fx.TK (fx.FO _) (m_ix (m_var 0) m_int)) (ma_cons (m_fld fx.TK (fx.FO _) (m_ix (m_var 0) m_int)) ma_nil))) (ma_cons (m_lst (ma_cons (m_fld fx.TK (fx.FO _) (m_ix (m_var 0) m_int)) (ma_cons (m_fld fx.TK (fx.FO _) (m_ix (m_var 0) m_int)) (ma_cons (m_fld fx.TK (fx.FO _) (m_ix (m_var 0) m_int)) (ma_cons (m_fld fx.TK (fx.FO _) (m_ix (m_var 0) m_int)) ma_nil))))) ma_nil))))) (mg_name 1 C.nd))
 (mss_cons (ms_asg (m_add (m_var 1) (m_lst (ma_cons (m_lst (ma_cons (m_fld fx.TK (fx.FO _) (m_ix (m_var 0) m_int)) (ma_cons (m_fld fx.TK (fx.FO _) (m_ix (m_var 0) m_int)) (ma_cons (m_fld fx.TK (fx.FO _) (m_ix (m_var 0) m_int)) (ma_cons (m_fld fx.TK (fx.FO _) (m_ix (m_var 0) m_int)) ma_nil))))) (ma_cons (m_lst (ma_cons (m_fld fx.TK (fx.FO _) (m_ix (m_var 0) m_int)) (ma_cons (m_fld fx.TK (fx.FO _) (m_ix (m_var 0) m_int)) ma_nil))) ma_nil)))) (mg_name 1 C.nd))
 (mss_cons (ms_asg (m_add (m_var 1) (m_lst (ma_cons (m_lst (ma_cons (m_fld fx.TK (fx.FO _) (m_ix (m_var 0) m_int)) (ma_cons (m_fld fx.TK (fx.FO _) (m_ix (m_var 0) m_int)) (ma_cons (m_fld fx.TK (fx.FO _) (m_ix (m_var 0) m_int)) (ma_cons (m_fld fx.TK (fx.FO _) (m_ix (m_var 0) m_int)) ma_nil))))) (ma_cons (m_lst (ma_cons (m_fld fx.TK (fx.FO _) (m_ix (m_var 0) m_int)) (ma_cons (m_fld fx.TK (fx.FO _) (m_ix (m_var 0) m_int)) ma_nil))) ma_nil)))) (mg_name 1 C.nd))
 (mss_cons (ms_asg (m_add (m_var 1) (m_lst (ma_cons (m_lst (ma_cons (m_fld fx.TK (fx.FO _) (m_ix (m_var 0) m_int)) (ma_cons (m_fld fx.TK (fx.FO _) (m_ix (m_var 0) m_int)) (ma_cons (m_fld fx.TK (fx.FO _) (m_ix (m_var 0) m_int)) ma_nil)))) (ma_cons (m_lst (ma_cons (m_fld fx.TK (fx.FO _) (m_ix (m_var 0) m_int)) (ma_cons (m_fld fx.TK (fx.FO _) (m_ix (m_var 0) m_int)) ma_nil))) ma_nil)))) (mg_name 1 C.nd))
 (mss_cons (ms_asg (m_add (m_var 1) (m_lst (ma_cons (m_lst (ma_cons (m_fld fx.TK (fx.FO _) (m_ix (m_var 0) m_int)) (ma_cons (m_fld fx.TK (fx.FO _) (m_ix (m_var 0) m_int)) (ma_cons (m_fld fx.TK (fx.FO _) (m_ix (m_var 0) m_int)) ma_nil)))) (ma_cons (m_lst (ma_cons (m_fld fx.TK (fx.FO _) (m_ix (m_var 0) m_int)) (ma_cons (m_fld fx.TK (fx.FO _) (m_ix (m_var 0) m_int)) (ma_cons (m_fld fx.TK (fx.FO _) (m_ix (m_var 0) m_int)) (ma_cons (m_fld fx.TK (fx.FO _) (m_ix (m_var 0) m_int)) ma_nil))))) ma_nil)))) (mg_name 1 C.nd))
 (mss_one (ms_ret (m_add (m_var 1) (m_lst (ma_cons (m_lst (ma_cons (m_fld fx.TK (fx.FO _) (m_ix (m_var 0) m_int)) (ma_cons (m_fld fx.TK (fx.FO _) (m_ix (m_var 0) m_int)) ma_nil))) ma_nil))))))))))))))
theorem w_law_drawn (eo : ∀ k, 2 ≤ k → EqOk P w K mg base (tab K) k (et (tab K))) : CalM P w K mg base (tab K) "_law_drawn" 5 1 (F_law_drawn (tab K)) := by
  obtain ⟨fd, F⟩ := fx.fun_ 91 d91 rfl
  refine ⟨_, fd, ["hand"], rfl, fx.def_ 11 rfl, okN (N := ["hand", "found", "k", "number", "pick"]) (k := 4) (b_law_drawn (tab K)) F ⟨rfl, rfl, rfl, by decide +kernel, rfl, by decide +kernel, by decide +kernel⟩ (FunD.bindsN F fun _ _ _ _ _ _ us hl => match us, hl with | [_], _ => rfl) fun cdv A outer s H E C => ?_⟩
  exact (mss_cons (ms_asg (m_lst ma_nil) (mg_name 1 C.nd))
 (mss_cons (ms_for C (mi_rng1 (fx.free 7 rfl) (ma_cons m_int ma_nil)) (mg_name 2 C.nd)
 (mss_cons (ms_asg (m_add (m_add (m_mul m_int (m_fn C (w_law_draw fx _ _ _ eo) (by decide) (ma_cons (m_var 0) (ma_cons (m_pow m_int m_int) ma_nil)))) (m_var 2)) m_int) (mg_name 3 C.nd))
 (mss_cons (ms_asg (m_fn C (w_law_draw fx _ _ _ eo) (by decide) (ma_cons (m_var 0) (ma_cons m_int ma_nil))) (mg_name 4 C.nd))
 (mss_one (ms_if (mw_and (mt_cmp (c_eq C fx.TK (eo _ (by decide))) (m_var 4) m_int) (mw_and1 (mt_cmp (c_nin C) m_non (m_var 1)))).t
 (mss_one (ms_expr (m_app (m_var 1) m_non))) (mss_one (ms_if (mt_cmp (c_eq C fx.TK (eo _ (by decide))) (m_var 4) m_int)
 (mss_one (ms_expr (m_app (m_var 1) (m_add (m_cstr (fx.free 3 rfl) (ma_cons (m_var 3) ma_nil)) m_str)))) (mss_one (ms_if (mt_cmp (c_eq C fx.TK (eo _ (by decide))) (m_var 4) m_int)
 (mss_one (ms_expr (m_app (m_var 1) (m_tup (ma_cons (m_tup (ma_cons (m_var 3) (ma_cons m_int ma_nil))) (ma_cons (m_tup (ma_cons m_int (ma_cons m_int ma_nil))) ma_nil)))))) (mss_one (ms_if (mt_cmp (c_eq C fx.TK (eo _ (by decide))) (m_var 4) m_int)
 (mss_one (ms_expr (m_app (m_var 1) (m_sub m_int (m_var 3))))) (mss_one (ms_expr (m_app (m_var 1) (m_var 3)))))))))))))))
 (mss_one (ms_ret (m_var 1)))))
theorem w_law_word (eo : ∀ k, 2 ≤ k → EqOk P w K mg base (tab K) k (et (tab K))) : CalM P w K mg base (tab K) "_law_word" 5 1 (F_law_word (tab K)) := by
  obtain ⟨fd, F⟩ := fx.fun_ 92 d92 rfl
  refine ⟨_, fd, ["hand"], rfl, fx.def_ 12 rfl, okN (N := ["hand", "letters", "k", "at"]) (k := 4) (b_law_word (tab K)) F ⟨rfl, rfl, rfl, by decide +kernel, rfl, by decide +kernel, by decide +kernel⟩ (FunD.bindsN F fun _ _ _ _ _ _ us hl => match us, hl with | [_], _ => rfl) fun cdv A outer s H E C => ?_⟩
  exact (mss_cons (ms_asg (m_lst ma_nil) (mg_name 1 C.nd))
 (mss_cons (ms_for C (mi_rng1 (fx.free 7 rfl) (ma_cons (m_add m_int (m_fn C (w_law_draw fx _ _ _ eo) (by decide) (ma_cons (m_var 0) (ma_cons m_int ma_nil)))) ma_nil)) (mg_name 2 C.nd)
 (mss_cons (ms_asg (m_fn C (w_law_draw fx _ _ _ eo) (by decide) (ma_cons (m_var 0) (ma_cons m_int ma_nil))) (mg_name 3 C.nd))
 (mss_one (ms_expr (m_app (m_var 1) (m_sl m_str (mo_some (m_var 3)) (mo_some (m_add (m_var 3) m_int))))))))
 (mss_one (ms_ret (m_join m_str (m_var 1))))))
theorem w_law_errors_right (eo : ∀ k, 2 ≤ k → EqOk P w K mg base (tab K) k (et (tab K))) : CalM P w K mg base (tab K) "_law_errors_right" 6 2 (F_law_errors_right (tab K)) := by
  obtain ⟨fd, F⟩ := fx.fun_ 93 d93 rfl
  refine ⟨_, fd, ["hand", "v"], rfl, fx.def_ 13 rfl, okN (N := ["hand", "v", "t", "n", "prime_one", "w", "made", "named", "told", "k", "due", "j"]) (k := 5) (b_law_errors_right (tab K)) F ⟨rfl, rfl, rfl, by decide +kernel, rfl, by decide +kernel, by decide +kernel⟩ (FunD.bindsN F fun _ _ _ _ _ _ us hl => match us, hl with | [_, _], _ => rfl) fun cdv A outer s H E C => ?_⟩
  exact (mss_cons (ms_asg (m_fn C (w_law_word fx _ _ _ eo) (by decide) (ma_cons (m_var 0) ma_nil)) (mg_name 2 C.nd))
 (mss_cons (ms_asg (m_fn C (w_law_draw fx _ _ _ eo) (by decide) (ma_cons (m_var 0) (ma_cons m_int ma_nil))) (mg_name 3 C.nd))
 (mss_cons (ms_asg (m_ix (m_tup (ma_cons m_int (ma_cons m_int (ma_cons m_int (ma_cons m_int (ma_cons m_int ma_nil)))))) (m_fn C (w_law_draw fx _ _ _ eo) (by decide) (ma_cons (m_var 0) (ma_cons m_int ma_nil)))) (mg_name 4 C.nd))
 (mss_cons (ms_asg (m_ctup (fx.free 5 rfl) (ma_cons (m_lc [("k", 9)] C (mi_rng1 (fx.free 7 rfl) (ma_cons (m_add m_int (m_fn C (w_law_draw fx _ _ _ eo) (by decide) (ma_cons (m_var 0) (ma_cons m_int ma_nil)))) ma_nil)) (by kernel_rfl) (fun s H Ca cl fp => (mg_name 9 C.nd)) (by decide) (fun s H Ca cl fp => mts_nil) (fun s H Ca cl fp C => (m_tup (ma_cons (m_sub (m_fn C (w_law_draw fx _ _ _ eo) (by decide) (ma_cons (m_var 0) (ma_cons m_int ma_nil))) m_int) (ma_cons m_int ma_nil))))) ma_nil)) (mg_name 5 C.nd))
 (mss_cons (ms_asg (m_fn C (w_law_errors fx _ _ _) (by decide) (ma_cons (m_var 2) (ma_cons (m_var 3) (ma_cons (m_var 4) (ma_cons (m_var 5) (ma_cons (m_ix (m_var 1) m_int) (ma_cons (m_ix (m_var 1) m_int) ma_nil))))))) (mg_name 6 C.nd))
 (mss_cons (ms_asg (m_fn C (w_law_named_errors fx _ _ _) (by decide) (ma_cons (m_var 2) (ma_cons (m_var 3) (ma_cons (m_var 4) (ma_cons (m_var 5) (ma_cons (m_ix (m_var 1) m_int) (ma_cons (m_ix (m_var 1) m_int) ma_nil))))))) (mg_name 7 C.nd))
 (mss_cons (ms_asg (m_fn C (w_law_fields fx _ _ _) (by decide) (ma_cons (m_var 6) ma_nil)) (mg_name 8 C.nd))
 (mss_cons (ms_if (mw_or (mt_cmp (c_ne C fx.TK (eo _ (by decide))) (m_var 8) (m_fn C (w_law_due_fields fx _ _ _) (by decide) (ma_cons (m_var 2) (ma_cons (m_var 3) (ma_cons (m_var 4) (ma_cons (m_var 5) (ma_cons (m_ix (m_var 1) m_int) (ma_cons (m_ix (m_var 1) m_int) ma_nil)))))))) (mw_or (mt_cmp (c_ne C fx.TK (eo _ (by decide))) (m_fn C (w_law_fields fx _ _ _) (by decide) (ma_cons (m_var 7) ma_nil)) (m_var 8)) (mw_or1 (mt_cmp (c_ne C fx.TK (eo _ (by decide))) (m_len (fx.free 0 rfl) (ma_cons (m_var 6) ma_nil)) m_int)))).t
 (mss_one (ms_ret m_bl)) mss_nil)
 (mss_cons (ms_for C (mi_rng1 (fx.free 7 rfl) (ma_cons m_int ma_nil)) (mg_name 9 C.nd)
 (mss_cons (m_setLc 10 [("j", 11)] C (mi_rng1 (fx.free 7 rfl) (ma_cons m_int ma_nil)) (by kernel_rfl) (fun s H Ca cl fp => (mg_name 11 C.nd)) (by decide) (fun s H Ca cl fp => mts_nil) (fun s H Ca cl fp C => (m_cmp (c_eq C fx.TK (eo _ (by decide))) (m_var 11) (m_var 9))) (by rfl))
 (mss_cons (ms_if (mw_or (mt_cmp (c_ne C fx.TK (eo _ (by decide))) (m_fn C (w_law_kinds fx _ _ _) (by decide) (ma_cons (m_ix (m_var 6) (m_var 9)) ma_nil)) (m_var 10)) (mw_or1 (mt_cmp (c_ne C fx.TK (eo _ (by decide))) (m_fn C (w_law_kinds fx _ _ _) (by decide) (ma_cons (m_ix (m_var 7) (m_var 9)) ma_nil)) (m_var 10)))).t
 (mss_one (ms_ret m_bl)) mss_nil)
 (mss_one (ms_if (mw_or (mt_not (mt_val (m_isiO fx.TK (fx.free 6 rfl) (fx.cls 0 rfl) (m_ix (m_var 6) (m_var 9))))) (mw_or (mt_not (mt_val (m_isiB fx.TK (fx.free 6 rfl) (fx.free 9 rfl) (by decide +kernel) (m_ix (m_var 6) (m_var 9))))) (mw_or1 (mt_not (mt_val (m_isiO fx.TK (fx.free 6 rfl) (fx.cls 0 rfl) (m_ix (m_var 7) (m_var 9)))))))).t
 (mss_one (ms_ret m_bl)) mss_nil)))))
 (mss_one (ms_ret m_bl)))))))))))
theorem w_law_results_right (eo : ∀ k, 2 ≤ k → EqOk P w K mg base (tab K) k (et (tab K))) : CalM P w K mg base (tab K) "_law_results_right" 5 2 (F_law_results_right (tab K)) := by
  obtain ⟨fd, F⟩ := fx.fun_ 94 d94 rfl
  refine ⟨_, fd, ["hand", "v"], rfl, fx.def_ 14 rfl, okN (N := ["hand", "v", "made", "named", "told", "k", "changed", "unlike", "j"]) (k := 4) (b_law_results_right (tab K)) F ⟨rfl, rfl, rfl, by decide +kernel, rfl, by decide +kernel, by decide +kernel⟩ (FunD.bindsN F fun _ _ _ _ _ _ us hl => match us, hl with | [_, _], _ => rfl) fun cdv A outer s H E C => ?_⟩
  exact (mss_cons (ms_asg (m_fn C (w_law_results fx _ _ _) (by decide) (ma_cons (m_var 1) ma_nil)) (mg_name 2 C.nd))
 (mss_cons (ms_asg (m_fn C (w_law_named_results fx _ _ _) (by decide) (ma_cons (m_var 1) ma_nil)) (mg_name 3 C.nd))
 (mss_cons (ms_asg (m_fn C (w_law_things fx _ _ _) (by decide) (ma_cons (m_var 2) ma_nil)) (mg_name 4 C.nd))
 (mss_cons (ms_if (mt_cmp (c_ne C fx.TK (eo _ (by decide))) (m_fn C (w_law_things fx _ _ _) (by decide) (ma_cons (m_var 3) ma_nil)) (m_var 4))
 (mss_one (ms_ret m_bl)) mss_nil)
 (mss_cons (ms_for C (mi_rng1 (fx.free 7 rfl) (ma_cons m_int ma_nil)) (mg_name 5 C.nd)
 (mss_cons (ms_if (mw_or (mt_cmp (c_ne C fx.TK (eo _ (by decide))) (m_ix (m_var 4) (m_var 5)) (m_sl (m_var 1) mo_none (mo_some (m_len (fx.free 0 rfl) (ma_cons (m_ix (m_var 4) (m_var 5)) ma_nil))))) (mw_or (mt_not (mt_cmp (c_eq C fx.TK (eo _ (by decide))) (m_ix (m_var 2) (m_var 5)) (m_ix (m_var 3) (m_var 5)))) (mw_or1 (mt_cmp (c_ne C fx.TK (eo _ (by decide))) (m_ix (m_var 2) (m_var 5)) (m_ix (m_var 3) (m_var 5)))))).t
 (mss_one (ms_ret m_bl)) mss_nil)
 (mss_cons (ms_asg (m_clist (fx.free 4 rfl) (ma_cons (m_var 1) ma_nil)) (mg_name 6 C.nd))
 (mss_cons (ms_set (m_tup (ma_cons m_str (ma_cons m_int ma_nil))) (m_var 6) (m_fn C (w_law_draw fx _ _ _ eo) (by decide) (ma_cons (m_var 0) (ma_cons (m_len (fx.free 0 rfl) (ma_cons (m_ix (m_var 4) (m_var 5)) ma_nil)) ma_nil))))
 (mss_cons (ms_asg (m_ix (m_fn C (w_law_results fx _ _ _) (by decide) (ma_cons (m_var 6) ma_nil)) (m_var 5)) (mg_name 7 C.nd))
 (mss_cons (ms_if (mw_or (mt_cmp (c_eq C fx.TK (eo _ (by decide))) (m_ix (m_var 2) (m_var 5)) (m_var 7)) (mw_or1 (mt_not (mt_cmp (c_ne C fx.TK (eo _ (by decide))) (m_ix (m_var 2) (m_var 5)) (m_var 7))))).t
 (mss_one (ms_ret m_bl)) mss_nil)
 (mss_one (ms_for C (mi_rng1 (fx.free 7 rfl) (ma_cons m_int ma_nil)) (mg_name 8 C.nd)
 (mss_one (ms_if (mw_or (mt_cmp (c_ne C fx.TK (eo _ (by decide))) (m_cmp (c_eq C fx.TK (eo _ (by decide))) (m_ix (m_var 2) (m_var 5)) (m_ix (m_var 2) (m_var 8))) (m_cmp (c_eq C fx.TK (eo _ (by decide))) (m_var 5) (m_var 8))) (mw_or1 (mt_cmp (c_ne C fx.TK (eo _ (by decide))) (m_cmp (c_ne C fx.TK (eo _ (by decide))) (m_ix (m_var 2) (m_var 5)) (m_ix (m_var 2) (m_var 8))) (m_cmp (c_ne C fx.TK (eo _ (by decide))) (m_var 5) (m_var 8))))).t
 (mss_one (ms_ret m_bl)) mss_nil))))))))))
 (mss_one (ms_ret (m_cmp (c_eq C fx.TK (eo _ (by decide))) (m_fn C (w_law_things fx _ _ _) (by decide) (ma_cons (m_var 2) ma_nil)) (m_var 4)))))))))
theorem wlawF (eo : ∀ k, 2 ≤ k → EqOk P w K mg base (tab K) k (et (tab K))) {fd : FuncData} (F : FunD K d95.name d95.qual d95.params d95.body d95.scope (d95.dvs K) (d95.kws K) (fAd K d95.at_) fd) : FnMd P w K mg base (tab K) 7 (ga K "law") fd ["script"] (Flaw (tab K)) := by
  refine okN (N := ["script", "hand", "turn", "v"]) (k := 6) (blaw (tab K)) F ⟨rfl, rfl, rfl, by decide +kernel, rfl, by decide +kernel, by decide +kernel⟩ (FunD.bindsN F fun _ _ _ _ _ _ us hl => match us, hl with | [_], _ => rfl) fun cdv A outer s H E C => ?_
  exact (mss_cons (ms_asg (m_fn C (w_law_hand fx _ _ _) (by decide) (ma_cons (m_var 0) ma_nil)) (mg_name 1 C.nd))
 (mss_cons (ms_for C (mi_rng1 (fx.free 7 rfl) (ma_cons m_int ma_nil)) (mg_name 2 C.nd)
 (mss_cons (ms_asg (m_fn C (w_law_drawn fx _ _ _ eo) (by decide) (ma_cons (m_var 1) ma_nil)) (mg_name 3 C.nd))
 (mss_one (ms_if (mw_or (mt_not (mt_val (m_fn C (w_law_errors_right fx _ _ _ eo) (by decide) (ma_cons (m_var 1) (ma_cons (m_var 3) ma_nil))))) (mw_or1 (mt_not (mt_val (m_fn C (w_law_results_right fx _ _ _ eo) (by decide) (ma_cons (m_var 1) (ma_cons (m_var 3) ma_nil))))))).t
 (mss_one (ms_ret m_bl)) mss_nil))))
 (mss_one (ms_ret m_bl))))
end
end Wk
/-! Wk5: the bundle of facts from what the Hook tells. -/
namespace Wk
open PySem PySem.Spec PyProof.Rows L2 Vm He
theorem ba {a b : Bool} (h : (a && b) = true) : a = true ∧ b = true := Bool.and_eq_true_iff.mp h
theorem oex_ok {K : PySem.W.Frag} {C : Addr} (q : oexB K C = true) : ∃ nm qn N bs bm sn sub ab col dd k0 k1 k2 k3 k5, K.lookup C = some (excClassObj nm qn C N bs bm true sn sub ab col dd k0 k1 k2 k3 k5 "ValueError.__new__") ∧ PySem.HandSPX.refsVE bm = true := by
  unfold oexB at q
  split at q
  · rename_i dd cd sl ho
    split at q
    · rename_i C' bm k0 k1 k2 k3 n k5 hm hs
      simp only [Bool.and_eq_true, decide_eq_true_eq, Bool.not_eq_true'] at q
      obtain ⟨rfl, rfl, hdel, hdct, ht⟩ := q
      obtain ⟨nm, bs, mro, ns, qn, hd, sn, sub, ab, col, del⟩ := cd
      dsimp only at hm hdel hdct
      subst hm hdel hdct
      have hsl : sl = #[k0, k1, k2, k3, some (.builtin "ValueError.__new__"), k5] := by
        obtain ⟨l⟩ := sl
        simp only at hs
        rw [hs]
      subst hsl
      exact ⟨nm, qn, ns, bs, bm, sn, sub, ab, col, dd, k0, k1, k2, k3, k5, ho, ht⟩
    · cases q
  · cases q
theorem own_ok {K : PySem.W.Frag} {C : Addr} {m : PySem.Str} (h : own K C m = true) : PySem.W.findIn K (.ref C) m = some (some (.ref (ma K C m))) ∧ PySem.W.typeIn K (.ref (ma K C m)) = some (.type "function") := by
  obtain ⟨h1, h2⟩ := ba h
  exact ⟨eqO_ok h1, of_decide_eq_true h2⟩
theorem exc_ok {K : PySem.W.Frag} {C : Addr} (g : gsB K = true) (h : excB K C = true) : ExcC K C ∧ OexC K C := by
  obtain ⟨g1, g2⟩ := ba g
  obtain ⟨h1, h⟩ := ba h
  obtain ⟨h2, h⟩ := ba h
  obtain ⟨h3, h⟩ := ba h
  obtain ⟨h4, h⟩ := ba h
  obtain ⟨h5, h⟩ := ba h
  obtain ⟨h6, h⟩ := ba h
  obtain ⟨h7, h⟩ := ba h
  obtain ⟨h8, h⟩ := ba h
  obtain ⟨h9, h10⟩ := ba h
  exact ⟨⟨eqO_ok h1, eqO_ok h2, of_decide_eq_true h3, h4, eqO_ok h5, eqO_ok g1, of_decide_eq_true g2, of_decide_eq_true h6⟩, ⟨oex_ok h10, eqO_ok h7, of_decide_eq_true h3, of_decide_eq_true h8, h9⟩⟩
theorem ins_ok {K : PySem.W.Frag} {C : Addr} (g : gsB K = true) (h : insB K C = true) : InsC K C ∧ Mk K C (ma K C "__init__") ∧ EqC K C (ma K C "__eq__") := by
  obtain ⟨g1, g2⟩ := ba g
  obtain ⟨h1, h⟩ := ba h
  obtain ⟨h2, h⟩ := ba h
  obtain ⟨h3, h⟩ := ba h
  obtain ⟨h4, h⟩ := ba h
  obtain ⟨h5, h⟩ := ba h
  obtain ⟨h6, h⟩ := ba h
  obtain ⟨h7, h⟩ := ba h
  obtain ⟨h8, h⟩ := ba h
  obtain ⟨h9, h⟩ := ba h
  obtain ⟨h10, h⟩ := ba h
  obtain ⟨h11, h⟩ := ba h
  obtain ⟨h12, h13⟩ := ba h
  exact ⟨⟨⟨h1, h2, h3, eqO_ok h4⟩, eqO_ok h5, eqO_ok g1, of_decide_eq_true g2, of_decide_eq_true h6⟩, ⟨h7, (own_ok h8).1, h9, h10⟩, ⟨(own_ok h11).1, h12, eqO_ok h13⟩⟩
theorem clsi_ok {K : PySem.W.Frag} {C : Addr} (h : clsiB K C = true) : ClsI K C := by
  obtain ⟨h1, h⟩ := ba h
  obtain ⟨h2, h⟩ := ba h
  refine ⟨eqO_ok h1, h2, ?_⟩
  split at h
  · rename_i x e
    rw [e, of_decide_eq_true h]
  · cases h
theorem fx_of {K : PySem.W.Frag} {h : Heap} {mg : Str → Option Value} (X : K.In h) (G : h.Ns mainGlobals mg) (c : Says K) : Fx K mg := by
  have e1 : (fcts K && fn.all fun d => d.ok K) = true := congrArg (fun z : AlF => z.1) c
  have e2 : fn.map (fun d => fnW K d.at_) = fn.map DefD.val := congrArg (fun z : AlF => z.2) c
  obtain ⟨f, hok⟩ := ba e1
  obtain ⟨fA, f⟩ := ba f
  obtain ⟨fKit, fC⟩ := ba f
  obtain ⟨fGlo, fA⟩ := ba fA
  obtain ⟨fFree, fA⟩ := ba fA
  obtain ⟨fErr, fIns⟩ := ba fA
  obtain ⟨fFld, fC⟩ := ba fC
  obtain ⟨fInit, fC⟩ := ba fC
  obtain ⟨fGs, fCi⟩ := ba fC
  obtain ⟨k1, k23⟩ := ba fKit
  obtain ⟨k2, k3⟩ := ba k23
  obtain ⟨i1, i2⟩ := ba fInit
  have glo : ∀ x ∈ clsN ++ defN, mg x = some (.ref (ga K x)) := fun x hx => PySem.W.mg_of X G (eqO_ok (List.all_eq_true.mp fGlo x hx))
  have insM : ∀ c, (tab K).isIns c = true → c ∈ insR := fun c hc => by
    have hc' : (decide (40 ≤ c) && decide (c < 61)) = true := hc
    simp only [Bool.and_eq_true, decide_eq_true_eq] at hc'
    show c ∈ List.range' 40 21
    rw [List.mem_range'_1]
    omega
  have errM : ∀ c, (tab K).isErr c = true → c ∈ errR := fun c hc => by
    have hc' : decide (c < 40) = true := hc
    exact List.mem_range.mpr (of_decide_eq_true hc')
  have fld : ∀ c < 61, ∀ n ∈ fldN.getD c [], PySem.W.findIn K (.ref (adr K c)) n = some none := fun c hc n hn => eqO_ok (List.all_eq_true.mp (List.all_eq_true.mp fFld c (List.mem_range.mpr hc)) n hn)
  have insF : ∀ c ∈ insR, InsC K (adr K c) ∧ Mk K (adr K c) (ma K (adr K c) "__init__") ∧ EqC K (adr K c) (ma K (adr K c) "__eq__") := fun c hc => ins_ok fGs (List.all_eq_true.mp fIns c hc)
  have clsAt : ∀ (i : Nat) (x : Str), clsN[i]? = some x → clsN.getD i "" = x := fun i x e => by
    rw [List.getD_eq_getElem?_getD, e]
    rfl
  refine { TK := ⟨fun c hc => (insF c (insM c hc)).1, fun c hc => exc_ok fGs (List.all_eq_true.mp fErr c (errM c hc)), fun t d b e => ?_⟩, FO := fun f c j e q => ?_, free := fun i x e => PySem.W.mg_none_of X G (eqO_ok (List.all_eq_true.mp fFree x (List.mem_of_getElem? e))), cls := fun i x e => ?_, def_ := fun i x e => glo x (List.mem_append_right _ (List.mem_of_getElem? e)), fun_ := fun i d e => ?_, init := fun c hc => own_ok (List.all_eq_true.mp i1 c hc), bare := fun c hc => ?_, fld := fld, ins := fun c hc => ⟨(insF c hc).2.1, (insF c hc).1.cl, (insF c hc).2.2⟩, ci := clsi_ok fCi }
  · have e' : isiT t d = some b := e
    unfold isiT at e'
    split at e'
    · split at e'
      · rename_i q
        cases e'
        exact of_decide_eq_true (List.all_eq_true.mp (List.all_eq_true.mp k1 _ (List.mem_range.mpr q.1)) _ (List.mem_range.mpr q.2))
      · cases e'
    · split at e'
      · rename_i q
        cases e'
        obtain ⟨q1, rfl⟩ := q
        exact of_decide_eq_true (List.all_eq_true.mp k2 _ (List.mem_range.mpr q1))
      · cases e'
    · split at e'
      · rename_i q
        cases e'
        refine of_decide_eq_true (List.all_eq_true.mp (List.all_eq_true.mp k3 _ ?_) _ ?_)
        · show _ ∈ List.range' 40 21
          rw [List.mem_range'_1]
          omega
        · show _ ∈ List.range' 40 21
          rw [List.mem_range'_1]
          omega
      · cases e'
    · cases e'
  · have hlt : c < 61 := by
      rcases q with q | q
      · have := insM c q
        have : c ∈ List.range' 40 21 := this
        rw [List.mem_range'_1] at this
        omega
      · have := List.mem_range.mp (errM c q)
        omega
    exact fld c hlt f (List.mem_of_getElem? (nmIx_get e))
  · have g := glo x (List.mem_append_left _ (List.mem_of_getElem? e))
    rw [g]
    show some (Value.ref (ga K x)) = some (.ref (ga K (clsN.getD i "")))
    rw [clsAt i x e]
  · have e3 : (fn.map fun d => fnW K d.at_)[i]? = (fn.map DefD.val)[i]? := by rw [e2]
    rw [List.getElem?_map, List.getElem?_map, e] at e3
    exact DefD.funD (Option.some.inj e3) (List.all_eq_true.mp hok d (List.mem_of_getElem? e))
  · have i := eqO_ok (List.all_eq_true.mp i2 c hc)
    have hc2 : c = 0 ∨ c = 21 := by simpa [bareR] using hc
    rcases hc2 with rfl | rfl <;> exact ⟨rfl, rfl, i⟩
end Wk
/-! Pl1: plain data and ==; the store's fixed lists; pure expressions. -/
namespace Pl
open PySem PySem.Spec PyProof.Rows L2 Vm Wk
/-! ### plain data -/
structure Pd (n : Nat) (d : D) (p : PyData) : Prop where
  to : ∀ st k, n ≤ k → toPD st k d = some p
  sh : PyData.canLay0 p = true
  dp : p.depth ≤ n
  rf : PyData.eqv p p = true
  self : d ≠ .self
  ni : ∀ c ds, d ≠ .ins c ds
inductive PdL (n : Nat) : List D → List PyData → Prop
  | nil : PdL n [] []
  | cons {d : D} {ds : List D} {p : PyData} {ps : List PyData} : Pd n d p → PdL n ds ps → PdL n (d :: ds) (p :: ps)
theorem Pd.mono {n m : Nat} {d : D} {p : PyData} (h : Pd n d p) (hm : n ≤ m) : Pd m d p := ⟨fun st k hk => h.to st k (Nat.le_trans hm hk), h.sh, Nat.le_trans h.dp hm, h.rf, h.self, h.ni⟩
theorem allO_cons {α β : Type} {f : α → Option β} {a : α} {r : List α} {b : β} {bs : List β} (h1 : f a = some b) (h2 : allO f r = some bs) : allO f (a :: r) = some (b :: bs) := by
  show (match f a, allO f r with
    | some b, some bs => some (b :: bs)
    | _, _ => none) = _
  rw [h1, h2]
theorem PdL.all {n : Nat} {ds : List D} {ps : List PyData} (h : PdL n ds ps) (st : Sto) (k : Nat) (hk : n ≤ k) : allO (toPD st k) ds = some ps := by
  induction h with
  | nil => rfl
  | cons a _ ih => exact allO_cons (a.to st k hk) ih
theorem PdL.sh {n : Nat} {ds : List D} {ps : List PyData} (h : PdL n ds ps) : PyData.canLayAll0 ps = true := by
  induction h with
  | nil => simp only [PyData.canLayAll0]
  | cons a _ ih =>
    simp only [PyData.canLayAll0, Bool.and_eq_true]
    exact ⟨a.sh, ih⟩
theorem PdL.dp {n : Nat} {ds : List D} {ps : List PyData} (h : PdL n ds ps) : PyData.depthAll ps ≤ n := by
  induction h with
  | nil => simp [PyData.depthAll]
  | cons a _ ih =>
    simp only [PyData.depthAll]
    exact Nat.max_le.mpr ⟨a.dp, ih⟩
theorem PdL.rf {n : Nat} {ds : List D} {ps : List PyData} (h : PdL n ds ps) : PyData.eqvAll ps ps = true := by
  induction h with
  | nil => simp only [PyData.eqvAll]
  | cons a _ ih =>
    simp only [PyData.eqvAll, Bool.and_eq_true]
    exact ⟨a.rf, ih⟩
theorem toPD_tup {st : Sto} {k : Nat} {ds : List D} : toPD st (k + 1) (.tup ds) = (allO (toPD st k) ds).map .tuple := rfl
theorem pd_tup {n : Nat} {ds : List D} {ps : List PyData} (h : PdL n ds ps) : Pd (n + 1) (.tup ds) (.tuple ps) := by
  refine ⟨fun st k hk => ?_, ?_, ?_, ?_, (fun z => nomatch z), fun _ _ z => nomatch z⟩
  · obtain ⟨j, rfl⟩ : ∃ j, k = j + 1 := ⟨k - 1, by omega⟩
    rw [toPD_tup, h.all st j (by omega)]
    rfl
  · simp only [PyData.canLay0]
    exact h.sh
  · simp only [PyData.depth]
    have := h.dp
    omega
  · simp only [PyData.eqv]
    exact h.rf
theorem pd_int (i : Int) : Pd 1 (.int i) (.int i) := by
  refine ⟨fun st k hk => ?_, ?_, ?_, ?_, (fun z => nomatch z), fun _ _ z => nomatch z⟩
  · obtain ⟨j, rfl⟩ : ∃ j, k = j + 1 := ⟨k - 1, by omega⟩
    rfl
  · simp only [PyData.canLay0]
  · simp [PyData.depth]
  · simp [PyData.eqv]
theorem pd_bl (b : Bool) : Pd 1 (.bl b) (.bool b) := by
  refine ⟨fun st k hk => ?_, ?_, ?_, ?_, (fun z => nomatch z), fun _ _ z => nomatch z⟩
  · obtain ⟨j, rfl⟩ : ∃ j, k = j + 1 := ⟨k - 1, by omega⟩
    rfl
  · simp only [PyData.canLay0]
  · simp [PyData.depth]
  · simp [PyData.eqv]
theorem pd_non : Pd 1 .non .none := by
  refine ⟨fun st k hk => ?_, ?_, ?_, ?_, (fun z => nomatch z), fun _ _ z => nomatch z⟩
  · obtain ⟨j, rfl⟩ : ∃ j, k = j + 1 := ⟨k - 1, by omega⟩
    rfl
  · simp only [PyData.canLay0]
  · simp [PyData.depth]
  · simp [PyData.eqv]
theorem pd_str {x : Str} (hx : PySem.PyData.strOk x = true) : Pd 1 (.str x) (.str x) := by
  refine ⟨fun st k hk => ?_, ?_, ?_, ?_, (fun z => nomatch z), fun _ _ z => nomatch z⟩
  · obtain ⟨j, rfl⟩ : ∃ j, k = j + 1 := ⟨k - 1, by omega⟩
    rfl
  · simpa only [PyData.canLay0] using hx
  · simp [PyData.depth]
  · simp [PyData.eqv]
/-- a value as == reads it -/
structure Rd (st : Sto) (d : D) (p : PyData) : Prop where
  to : toPD st 20 d = some p
  sh : SeqAt.shaped p = true
theorem eq_of {st : Sto} {neg : Bool} {x y : D} {p q : PyData} (h1 : Rd st x p) (h2 : Rd st y q) : eqPD neg st x y = some (if neg then !PyData.eqv p q else PyData.eqv p q) := by
  unfold eqPD depthPD
  rw [h1.to, h2.to]
  dsimp only
  rw [if_pos (by rw [h1.sh, h2.sh]; rfl)]
theorem Pd.rd {n : Nat} {d : D} {p : PyData} (h : Pd n d p) (st : Sto) (hn : n ≤ 20) : Rd st d p := ⟨h.to st 20 hn, by
  unfold SeqAt.shaped
  rw [h.sh, Bool.true_and]
  exact decide_eq_true (Nat.le_trans h.dp (by omega))⟩
theorem toPD_ptr {st : Sto} {k p : Nat} {ds : List D} (h : At st p ds) : toPD st (k + 1) (.ptr p) = (allO (toPD st k) ds).map .list := by
  have h' : st.l[p]? = some ds := h
  show (match st.l[p]? with
    | some ds => (allO (toPD st k) ds).map PyData.list
    | none => none) = _
  rw [h']
theorem rd_list {st : Sto} {n p : Nat} {ds : List D} {ps : List PyData} (h : At st p ds) (hl : PdL n ds ps) (hn : n ≤ 19) : Rd st (.ptr p) (.list ps) := by
  refine ⟨by rw [toPD_ptr h, hl.all st 19 hn]; rfl, ?_⟩
  unfold SeqAt.shaped
  simp only [PyData.canLay0, PyData.depth]
  rw [hl.sh, Bool.true_and]
  have := hl.dp
  exact decide_eq_true (by omega)
theorem eqL {ps : List PyData} {n : Nat} {ds : List D} (h : PdL n ds ps) : PyData.eqv (.list ps) (.list ps) = true := by
  simp only [PyData.eqv]
  exact h.rf

/-! ### the store: the hand at 1, its ints at 0; the other lists stay -/
def HandOk (st : Sto) : Prop := ∃ (cells : List Int) (i r t : Int), 0 ≤ i ∧ At st 0 (cells.map .int) ∧ At st 1 [.ptr 0, .int i, .int r, .int t]
def Af (st : Sto) (p : Nat) (ds : List D) : Prop := p ≠ 1 ∧ At st p ds
structure Go (st st' : Sto) : Prop where
  af : ∀ p ds, Af st p ds → Af st' p ds
  hand : HandOk st → HandOk st'
  len : st.l.length ≤ st'.l.length
theorem Go.refl (st : Sto) : Go st st := ⟨fun _ _ h => h, fun h => h, Nat.le_refl _⟩
theorem Go.trans {a b c : Sto} (h1 : Go a b) (h2 : Go b c) : Go a c := ⟨fun p ds h => h2.af p ds (h1.af p ds h), fun h => h2.hand (h1.hand h), Nat.le_trans h1.len h2.len⟩
theorem Sub.go {a b : Sto} (h : Sub a b) : Go a b := ⟨fun p ds q => ⟨q.1, q.2.sub h⟩, fun ⟨cells, i, r, t, h0, h1, h2⟩ => ⟨cells, i, r, t, h0, h1.sub h, h2.sub h⟩, by
  obtain ⟨g, e⟩ := h
  rw [e, List.length_append]
  exact Nat.le_add_right _ _⟩
theorem HandOk.lt {st : Sto} (h : HandOk st) : 2 ≤ st.l.length := by
  obtain ⟨cells, i, r, t, h0, h1, h2⟩ := h
  have := h2.lt
  omega
theorem Af.new {st : Sto} (h : HandOk st) (ds : List D) : Af (push st ds) st.l.length ds := ⟨by
  have := h.lt
  omega, At.new st ds⟩
theorem Go.push (st : Sto) (ds : List D) : Go st (push st ds) := Sub.go (Sub.push st ds)
/-- lists of lists -/
inductive AfL (st : Sto) : List Nat → List (List D) → Prop
  | nil : AfL st [] []
  | cons {q : Nat} {qs : List Nat} {ds : List D} {dss : List (List D)} : Af st q ds → AfL st qs dss → AfL st (q :: qs) (ds :: dss)
theorem AfL.go {st st' : Sto} (g : Go st st') : ∀ {qs : List Nat} {dss : List (List D)}, AfL st qs dss → AfL st' qs dss
  | _, _, .nil => .nil
  | _, _, .cons a r => .cons (g.af _ _ a) (AfL.go g r)
theorem AfL.app {st : Sto} : ∀ {qs rs : List Nat} {dss ess : List (List D)}, AfL st qs dss → AfL st rs ess → AfL st (qs ++ rs) (dss ++ ess)
  | _, _, _, _, .nil, s => s
  | _, _, _, _, .cons a r, s => .cons a (AfL.app r s)
theorem AfL.length {st : Sto} : ∀ {qs : List Nat} {dss : List (List D)}, AfL st qs dss → qs.length = dss.length
  | _, _, .nil => rfl
  | _, _, .cons _ r => by rw [List.length_cons, List.length_cons, AfL.length r]
theorem AfL.get {st : Sto} : ∀ {qs : List Nat} {dss : List (List D)}, AfL st qs dss → ∀ (k : Nat) ds, dss[k]? = some ds → ∃ q, qs[k]? = some q ∧ Af st q ds
  | _, _, .nil, k, ds, h => by simp at h
  | _, _, .cons a r, 0, ds, h => by
    simp at h
    subst h
    exact ⟨_, rfl, a⟩
  | _, _, .cons a r, k + 1, ds, h => by
    simp at h
    obtain ⟨q, h1, h2⟩ := AfL.get r k ds h
    exact ⟨q, by simpa using h1, h2⟩
def LL (st : Sto) (p : Nat) (dss : List (List D)) : Prop := ∃ qs, Af st p (qs.map .ptr) ∧ AfL st qs dss
theorem LL.go {st st' : Sto} {p : Nat} {dss : List (List D)} (g : Go st st') (h : LL st p dss) : LL st' p dss := by
  obtain ⟨qs, h1, h2⟩ := h
  exact ⟨qs, g.af _ _ h1, h2.go g⟩
inductive PdLL (n : Nat) : List (List D) → List PyData → Prop
  | nil : PdLL n [] []
  | cons {ds : List D} {dss : List (List D)} {ps : List PyData} {pss : List PyData} : PdL n ds ps → PdLL n dss pss → PdLL n (ds :: dss) (.list ps :: pss)
theorem PdLL.rf {n : Nat} {dss : List (List D)} {pss : List PyData} (h : PdLL n dss pss) : PyData.eqvAll pss pss = true := by
  induction h with
  | nil => simp only [PyData.eqvAll]
  | cons a _ ih =>
    simp only [PyData.eqvAll, Bool.and_eq_true]
    exact ⟨eqL a, ih⟩
theorem PdLL.sh {n : Nat} {dss : List (List D)} {pss : List PyData} (h : PdLL n dss pss) : PyData.canLayAll0 pss = true ∧ PyData.depthAll pss ≤ n + 1 := by
  induction h with
  | nil => simp [PyData.canLayAll0, PyData.depthAll]
  | cons a _ ih =>
    have h1 := a.sh
    have h2 := a.dp
    simp only [PyData.canLayAll0, PyData.depthAll, PyData.canLay0, PyData.depth, Bool.and_eq_true]
    exact ⟨⟨h1, ih.1⟩, by omega⟩
theorem rd_LL {st : Sto} {n p : Nat} {dss : List (List D)} {pss : List PyData} (h : LL st p dss) (hp : PdLL n dss pss) (hn : n ≤ 18) : Rd st (.ptr p) (.list pss) := by
  obtain ⟨qs, ⟨_, h1⟩, h2⟩ := h
  have e : allO (toPD st 19) (qs.map .ptr) = some pss := by
    clear h1
    induction h2 generalizing pss with
    | nil =>
      cases hp
      rfl
    | cons a _ ih =>
      cases hp with
      | cons b bs => exact allO_cons (by rw [toPD_ptr a.2, b.all st 18 hn]; rfl) (ih bs)
  refine ⟨by rw [toPD_ptr h1, e]; rfl, ?_⟩
  unfold SeqAt.shaped
  simp only [PyData.canLay0, PyData.depth]
  rw [hp.sh.1, Bool.true_and]
  have := hp.sh.2
  exact decide_eq_true (by omega)
theorem eqLL {n : Nat} {dss : List (List D)} {pss : List PyData} (h : PdLL n dss pss) : PyData.eqv (.list pss) (.list pss) = true := by
  simp only [PyData.eqv]
  exact h.rf

/-! ### expressions that leave the store alone -/
def Pu (G : Sto → Prop) (f : EF) (e : Vm.Env) (d : D) : Prop := ∀ st, G st → f e st = some (.ok d, st)
def PuA (G : Sto → Prop) (f : AF) (e : Vm.Env) (ds : List D) : Prop := ∀ st, G st → f e st = some (.ok ds, st)
section
variable {G : Sto → Prop} {e : Vm.Env} {T : Tab} {f g : EF} {fa : AF} {d : D} {ds : List D}
theorem bind_eq {α β : Type} {x : M α} {k : α → M β} {st st1 : Sto} {a : α} {r : Option (Except Er β × Sto)} (h1 : x st = some (.ok a, st1)) (h2 : k a st1 = r) : mbind x k st = r := by
  unfold mbind
  rw [h1]
  exact h2
theorem pu_var {i : Nat} (he : e[i]? = some (some d)) (hd : d ≠ .self) : Pu G (fVar i) e d := fun st _ => by
  obtain ⟨a, st', h, rfl, rfl⟩ := wx_var (st := st) (Q := fun a s => a = d ∧ s = st) he hd ⟨rfl, rfl⟩
  exact h
theorem pu_c : Pu G (fC d) e d := fun st _ => rfl
theorem pua_nil : PuA G fNil e [] := fun st _ => rfl
theorem pua_cons (h1 : Pu G f e d) (h2 : PuA G fa e ds) : PuA G (fCons f fa) e (d :: ds) := fun st hs => bind_eq (h1 st hs) (bind_eq (h2 st hs) rfl)
theorem pu_err {c : Nat} (h : PuA G fa e ds) (hl : ds.length = (T.names c).length) (hb : ds.length ≤ 1000) : Pu G (fCB (gErr T c) fa) e (.err c ds) := fun st hs => bind_eq (h st hs) (if_pos ⟨hl, hb⟩)
theorem pu_errK {c m : Nat} {pp : List Nat} {es : List D} (h : PuA G fa e es) (hm : es.length = m) (hp : pick pp es = ds) (hl : ds.length = (T.names c).length) (hb : ds.length ≤ 1000) : Pu G (fCB (gErrK T c m pp) fa) e (.err c ds) := fun st hs => bind_eq (h st hs) (by
  unfold gErrK
  rw [if_pos hm, hp]
  exact if_pos ⟨hl, hb⟩)
theorem pu_ins {c : Nat} (h : PuA G fa e ds) (hl : ds.length = (T.names c).length) : Pu G (fCB (gIns T c) fa) e (.ins c ds) := fun st hs => bind_eq (h st hs) (if_pos hl)
theorem pu_insK {c m : Nat} {pp : List Nat} {es : List D} (h : PuA G fa e es) (hm : es.length = m) (hp : pick pp es = ds) (hl : ds.length = (T.names c).length) : Pu G (fCB (gInsK T c m pp) fa) e (.ins c ds) := fun st hs => bind_eq (h st hs) (by
  unfold gInsK
  rw [if_pos hm, hp]
  exact if_pos hl)
theorem pu_ix {p : Nat} {k : Int} {xs : List D} (h1 : Pu G f e (.ptr p)) (h2 : Pu G g e (.int k)) (h3 : ∀ st, G st → Af st p xs) (h4 : atI xs k = some d) : Pu G (fOp gIx f g) e d := fun st hs => bind_eq (h1 st hs) (bind_eq (h2 st hs) (by
  have h : st.l[p]? = some xs := (h3 st hs).2
  unfold gIx
  dsimp only
  rw [h]
  dsimp only
  rw [h4]
  rfl))
theorem pu_fldE {c j : Nat} {n : Str} {xs : List D} (h1 : Pu G f e (.err c xs)) (h2 : nmIx (T.names c) n = some j) (h3 : xs[j]? = some d) : Pu G (fFld T n f) e d := fun st hs => bind_eq (h1 st hs) (by
  unfold gFld
  dsimp only
  rw [h2]
  dsimp only
  rw [h3])
theorem pu_fldI {c j : Nat} {n : Str} {xs : List D} (h1 : Pu G f e (.ins c xs)) (h2 : nmIx (T.names c) n = some j) (h3 : xs[j]? = some d) : Pu G (fFld T n f) e d := fun st hs => bind_eq (h1 st hs) (by
  unfold gFld
  dsimp only
  rw [h2]
  dsimp only
  rw [h3])
theorem pu_isD {c : Cl} {t : Ty} {b : Bool} (h1 : Pu G f e d) (h2 : d.ty = some t) (h3 : T.isi t c = some b) : Pu G (fIsD T c f) e (.bl b) := fun st hs => bind_eq (h1 st hs) (by
  rw [h2]
  dsimp only
  rw [h3]
  rfl)
theorem Pu.wx {st : Sto} {Q : D → Sto → Prop} (h : Pu G f e d) (hs : G st) (q : Q d st) : Wx (f e) st Q := ⟨_, _, h st hs, q⟩
theorem PuA.wx {st : Sto} {Q : List D → Sto → Prop} (h : PuA G fa e ds) (hs : G st) (q : Q ds st) : Wx (fa e) st Q := ⟨_, _, h st hs, q⟩
/-! lists put together -/
theorem acc0 {QS : SR → Sto → Prop} {i : Nat} {st : Sto} (h : PuA G fa e ds) (hs : G st) (hh : HandOk st) (hl : ds.length ≤ bnd) (q : ∀ p st', Go st st' → Af st' p ds → QS (.nx (e.set i (some (.ptr p)))) st') : Ws (sAsg (fLst fa) (gN i)) e st QS :=
  ws_asg (wx_lst (h.wx hs ⟨hl, q _ _ (Go.push _ _) (Af.new hh _)⟩))
theorem add1 {Q : D → Sto → Prop} {i p : Nat} {st : Sto} {as : List D} (he : e[i]? = some (some (.ptr p))) (ha : Af st p as) (h : PuA G fa e ds) (hs : G st) (hh : HandOk st) (hl : as.length + ds.length ≤ bnd) (q : ∀ p st', Go st st' → Af st' p (as ++ ds) → Q (.ptr p) st') : Wx (fOp gAdd (fVar i) (fLst fa) e) st Q := by
  have hl1 : ds.length ≤ bnd := by omega
  refine wx_op (wx_var he (fun z => nomatch z) (wx_lst (h.wx hs ⟨hl1, ?_⟩)))
  have g1 := Go.push st ds
  refine wx_addL (g1.af _ _ ha).2 (At.new st ds) hl (q _ _ (g1.trans (Go.push _ _)) (Af.new (g1.hand hh) _))
theorem acc1 {QS : SR → Sto → Prop} {i p : Nat} {st : Sto} {as : List D} (he : e[i]? = some (some (.ptr p))) (ha : Af st p as) (h : PuA G fa e ds) (hs : G st) (hh : HandOk st) (hl : as.length + ds.length ≤ bnd) (q : ∀ p st', Go st st' → Af st' p (as ++ ds) → QS (.nx (e.set i (some (.ptr p)))) st') : Ws (sAsg (fOp gAdd (fVar i) (fLst fa)) (gN i)) e st QS :=
  ws_asg (add1 he ha h hs hh hl q)
theorem accR {QS : SR → Sto → Prop} {i p : Nat} {st : Sto} {as : List D} (he : e[i]? = some (some (.ptr p))) (ha : Af st p as) (h : PuA G fa e ds) (hs : G st) (hh : HandOk st) (hl : as.length + ds.length ≤ bnd) (q : ∀ p st', Go st st' → Af st' p (as ++ ds) → QS (.rt (.ptr p)) st') : Ws (sRet (fOp gAdd (fVar i) (fLst fa))) e st QS :=
  ws_ret (add1 he ha h hs hh hl q)
/-- lists in a display -/
def WL (G : Sto → Prop) (fa : AF) (e : Vm.Env) (dss : List (List D)) : Prop := ∀ st, G st → HandOk st → ∃ qs st', fa e st = some (.ok (qs.map .ptr), st') ∧ Go st st' ∧ AfL st' qs dss
theorem wl_nil : WL G fNil e [] := fun st _ _ => ⟨[], st, rfl, Go.refl st, .nil⟩
theorem wl_cons {dss : List (List D)} (hG : ∀ st st', Go st st' → G st → G st') (h : PuA G fa e ds) (hl : ds.length ≤ bnd) {fr : AF} (hr : WL G fr e dss) : WL G (fCons (fLst fa) fr) e (ds :: dss) := fun st hs hh => by
  have g := Go.push st ds
  obtain ⟨qs, st', h1, h2, h3⟩ := hr (push st ds) (hG _ _ g hs) (g.hand hh)
  refine ⟨st.l.length :: qs, st', ?_, g.trans h2, .cons (h2.af _ _ (Af.new hh ds)) h3⟩
  refine bind_eq (a := D.ptr st.l.length) (st1 := push st ds) (bind_eq (h st hs) ?_) (bind_eq h1 rfl)
  rw [if_pos hl]
  rfl
theorem accL0 {QS : SR → Sto → Prop} {i : Nat} {st : Sto} {dss : List (List D)} (h : WL G fa e dss) (hs : G st) (hh : HandOk st) (hl : dss.length ≤ bnd) (q : ∀ p st', Go st st' → LL st' p dss → QS (.nx (e.set i (some (.ptr p)))) st') : Ws (sAsg (fLst fa) (gN i)) e st QS := by
  obtain ⟨qs, st', h1, h2, h3⟩ := h st hs hh
  refine ws_asg (wx_lst ⟨_, _, h1, by rw [List.length_map, h3.length]; exact hl, ?_⟩)
  exact q _ _ (h2.trans (Go.push _ _)) ⟨qs, Af.new (h2.hand hh) _, h3.go (Go.push _ _)⟩
theorem addL1 {Q : D → Sto → Prop} {i p : Nat} {st : Sto} {ass dss : List (List D)} (he : e[i]? = some (some (.ptr p))) (ha : LL st p ass) (h : WL G fa e dss) (hs : G st) (hh : HandOk st) (hl : ass.length + dss.length ≤ bnd) (q : ∀ p st', Go st st' → LL st' p (ass ++ dss) → Q (.ptr p) st') : Wx (fOp gAdd (fVar i) (fLst fa) e) st Q := by
  obtain ⟨rs, a1, a2⟩ := ha
  obtain ⟨qs, st', h1, h2, h3⟩ := h st hs hh
  have l1 := a2.length
  have l2 := h3.length
  refine wx_op (wx_var he (fun z => nomatch z) (wx_lst ⟨_, _, h1, by rw [List.length_map]; omega, ?_⟩))
  have g1 := Go.push st' (qs.map .ptr)
  refine wx_addL (g1.af _ _ (h2.af _ _ a1)).2 (At.new st' _) (by rw [List.length_map, List.length_map]; omega) ?_
  refine q _ _ (h2.trans (g1.trans (Go.push _ _))) ⟨rs ++ qs, ?_, (((a2.go h2).go g1).go (Go.push _ _)).app ((h3.go g1).go (Go.push _ _))⟩
  rw [List.map_append]
  exact Af.new (g1.hand (h2.hand hh)) _
theorem accL1 {QS : SR → Sto → Prop} {i p : Nat} {st : Sto} {ass dss : List (List D)} (he : e[i]? = some (some (.ptr p))) (ha : LL st p ass) (h : WL G fa e dss) (hs : G st) (hh : HandOk st) (hl : ass.length + dss.length ≤ bnd) (q : ∀ p st', Go st st' → LL st' p (ass ++ dss) → QS (.nx (e.set i (some (.ptr p)))) st') : Ws (sAsg (fOp gAdd (fVar i) (fLst fa)) (gN i)) e st QS := ws_asg (addL1 he ha h hs hh hl q)
theorem accLR {QS : SR → Sto → Prop} {i p : Nat} {st : Sto} {ass dss : List (List D)} (he : e[i]? = some (some (.ptr p))) (ha : LL st p ass) (h : WL G fa e dss) (hs : G st) (hh : HandOk st) (hl : ass.length + dss.length ≤ bnd) (q : ∀ p st', Go st st' → LL st' p (ass ++ dss) → QS (.rt (.ptr p)) st') : Ws (sRet (fOp gAdd (fVar i) (fLst fa))) e st QS := ws_ret (addL1 he ha h hs hh hl q)
end
end Pl
/-! Pl2: the defs that put lists together. -/
namespace Pl
open PySem PySem.Spec PyProof.Rows L2 Vm Wk
theorem nf_1_prime : nmIx (fldN.getD 1 []) "prime" = some 0 := by decide +kernel
theorem nf_2_thing : nmIx (fldN.getD 2 []) "thing" = some 0 := by decide +kernel
theorem nf_4_place : nmIx (fldN.getD 4 []) "place" = some 0 := by decide +kernel
theorem nf_5_what : nmIx (fldN.getD 5 []) "what" = some 0 := by decide +kernel
theorem nf_6_what : nmIx (fldN.getD 6 []) "what" = some 0 := by decide +kernel
theorem nf_7_at : nmIx (fldN.getD 7 []) "at" = some 1 := by decide +kernel
theorem nf_7_what : nmIx (fldN.getD 7 []) "what" = some 0 := by decide +kernel
theorem nf_8_ticks : nmIx (fldN.getD 8 []) "ticks" = some 0 := by decide +kernel
theorem nf_9_what : nmIx (fldN.getD 9 []) "what" = some 0 := by decide +kernel
theorem nf_10_high : nmIx (fldN.getD 10 []) "high" = some 1 := by decide +kernel
theorem nf_10_low : nmIx (fldN.getD 10 []) "low" = some 0 := by decide +kernel
theorem nf_11_lot : nmIx (fldN.getD 11 []) "lot" = some 0 := by decide +kernel
theorem nf_13_wrong : nmIx (fldN.getD 13 []) "wrong" = some 0 := by decide +kernel
theorem nf_14_what : nmIx (fldN.getD 14 []) "what" = some 0 := by decide +kernel
theorem nf_15_weights : nmIx (fldN.getD 15 []) "weights" = some 0 := by decide +kernel
theorem nf_16_tick : nmIx (fldN.getD 16 []) "tick" = some 0 := by decide +kernel
theorem nf_17_what : nmIx (fldN.getD 17 []) "what" = some 0 := by decide +kernel
theorem nf_18_what : nmIx (fldN.getD 18 []) "what" = some 0 := by decide +kernel
theorem nf_19_what : nmIx (fldN.getD 19 []) "what" = some 0 := by decide +kernel
theorem nf_20_what : nmIx (fldN.getD 20 []) "what" = some 0 := by decide +kernel
theorem nf_22_what : nmIx (fldN.getD 22 []) "what" = some 0 := by decide +kernel
theorem nf_23_prime : nmIx (fldN.getD 23 []) "prime" = some 0 := by decide +kernel
theorem nf_24_at : nmIx (fldN.getD 24 []) "at" = some 1 := by decide +kernel
theorem nf_24_what : nmIx (fldN.getD 24 []) "what" = some 0 := by decide +kernel
theorem nf_25_what : nmIx (fldN.getD 25 []) "what" = some 0 := by decide +kernel
theorem nf_26_state : nmIx (fldN.getD 26 []) "state" = some 0 := by decide +kernel
theorem nf_27_what : nmIx (fldN.getD 27 []) "what" = some 0 := by decide +kernel
theorem nf_28_what : nmIx (fldN.getD 28 []) "what" = some 0 := by decide +kernel
theorem nf_29_state : nmIx (fldN.getD 29 []) "state" = some 0 := by decide +kernel
theorem nf_30_at : nmIx (fldN.getD 30 []) "at" = some 1 := by decide +kernel
theorem nf_30_what : nmIx (fldN.getD 30 []) "what" = some 0 := by decide +kernel
theorem nf_31_what : nmIx (fldN.getD 31 []) "what" = some 0 := by decide +kernel
theorem nf_32_what : nmIx (fldN.getD 32 []) "what" = some 0 := by decide +kernel
theorem nf_33_what : nmIx (fldN.getD 33 []) "what" = some 0 := by decide +kernel
theorem nf_40_other : nmIx (fldN.getD 40 []) "other" = some 3 := by decide +kernel
theorem nf_40_plant : nmIx (fldN.getD 40 []) "plant" = some 0 := by decide +kernel
theorem nf_40_silent : nmIx (fldN.getD 40 []) "silent" = some 2 := by decide +kernel
theorem nf_40_start : nmIx (fldN.getD 40 []) "start" = some 1 := by decide +kernel
theorem nf_41_point : nmIx (fldN.getD 41 []) "point" = some 0 := by decide +kernel
theorem nf_41_weights : nmIx (fldN.getD 41 []) "weights" = some 1 := by decide +kernel
theorem nf_42_weights : nmIx (fldN.getD 42 []) "weights" = some 0 := by decide +kernel
theorem nf_43_point : nmIx (fldN.getD 43 []) "point" = some 0 := by decide +kernel
theorem nf_43_ray : nmIx (fldN.getD 43 []) "ray" = some 1 := by decide +kernel
theorem nf_44_box : nmIx (fldN.getD 44 []) "box" = some 0 := by decide +kernel
theorem nf_44_inputs : nmIx (fldN.getD 44 []) "inputs" = some 1 := by decide +kernel
theorem nf_45_rows : nmIx (fldN.getD 45 []) "rows" = some 1 := by decide +kernel
theorem nf_45_space : nmIx (fldN.getD 45 []) "space" = some 0 := by decide +kernel
theorem nf_46_begin : nmIx (fldN.getD 46 []) "begin" = some 0 := by decide +kernel
theorem nf_46_end : nmIx (fldN.getD 46 []) "end" = some 1 := by decide +kernel
theorem nf_46_why : nmIx (fldN.getD 46 []) "why" = some 2 := by decide +kernel
theorem nf_47_plant : nmIx (fldN.getD 47 []) "plant" = some 0 := by decide +kernel
theorem nf_47_rows : nmIx (fldN.getD 47 []) "rows" = some 1 := by decide +kernel
theorem nf_47_table : nmIx (fldN.getD 47 []) "table" = some 2 := by decide +kernel
theorem nf_48_high : nmIx (fldN.getD 48 []) "high" = some 3 := by decide +kernel
theorem nf_48_low : nmIx (fldN.getD 48 []) "low" = some 2 := by decide +kernel
theorem nf_48_parts : nmIx (fldN.getD 48 []) "parts" = some 1 := by decide +kernel
theorem nf_48_state : nmIx (fldN.getD 48 []) "state" = some 0 := by decide +kernel
theorem nf_49_lot : nmIx (fldN.getD 49 []) "lot" = some 1 := by decide +kernel
theorem nf_49_plant : nmIx (fldN.getD 49 []) "plant" = some 2 := by decide +kernel
theorem nf_49_ray : nmIx (fldN.getD 49 []) "ray" = some 3 := by decide +kernel
theorem nf_49_value : nmIx (fldN.getD 49 []) "value" = some 0 := by decide +kernel
theorem nf_50_high : nmIx (fldN.getD 50 []) "high" = some 1 := by decide +kernel
theorem nf_50_low : nmIx (fldN.getD 50 []) "low" = some 0 := by decide +kernel
theorem nf_51_lot : nmIx (fldN.getD 51 []) "lot" = some 0 := by decide +kernel
theorem nf_51_plant : nmIx (fldN.getD 51 []) "plant" = some 1 := by decide +kernel
theorem nf_51_side : nmIx (fldN.getD 51 []) "side" = some 3 := by decide +kernel
theorem nf_51_state : nmIx (fldN.getD 51 []) "state" = some 2 := by decide +kernel
theorem nf_52_place : nmIx (fldN.getD 52 []) "place" = some 0 := by decide +kernel
theorem nf_52_side : nmIx (fldN.getD 52 []) "side" = some 1 := by decide +kernel
theorem nf_53_blows : nmIx (fldN.getD 53 []) "blows" = some 1 := by decide +kernel
theorem nf_53_corner : nmIx (fldN.getD 53 []) "corner" = some 0 := by decide +kernel
theorem nf_53_weights : nmIx (fldN.getD 53 []) "weights" = some 2 := by decide +kernel
theorem nf_54_puts : nmIx (fldN.getD 54 []) "puts" = some 0 := by decide +kernel
theorem nf_54_space : nmIx (fldN.getD 54 []) "space" = some 2 := by decide +kernel
theorem nf_54_states : nmIx (fldN.getD 54 []) "states" = some 1 := by decide +kernel
theorem nf_54_table : nmIx (fldN.getD 54 []) "table" = some 3 := by decide +kernel
theorem nf_55_spaces : nmIx (fldN.getD 55 []) "spaces" = some 1 := by decide +kernel
theorem nf_55_table : nmIx (fldN.getD 55 []) "table" = some 0 := by decide +kernel
theorem nf_56_row : nmIx (fldN.getD 56 []) "row" = some 0 := by decide +kernel
theorem nf_57_plant : nmIx (fldN.getD 57 []) "plant" = some 0 := by decide +kernel
theorem nf_57_rows : nmIx (fldN.getD 57 []) "rows" = some 1 := by decide +kernel
theorem nf_57_table : nmIx (fldN.getD 57 []) "table" = some 2 := by decide +kernel
theorem nf_58_greatest : nmIx (fldN.getD 58 []) "greatest" = some 1 := by decide +kernel
theorem nf_58_least : nmIx (fldN.getD 58 []) "least" = some 0 := by decide +kernel
theorem nf_59_deeds : nmIx (fldN.getD 59 []) "deeds" = some 3 := by decide +kernel
theorem nf_59_field : nmIx (fldN.getD 59 []) "field" = some 0 := by decide +kernel
theorem nf_59_inputs : nmIx (fldN.getD 59 []) "inputs" = some 2 := by decide +kernel
theorem nf_59_size : nmIx (fldN.getD 59 []) "size" = some 1 := by decide +kernel
theorem nf_60_lot : nmIx (fldN.getD 60 []) "lot" = some 2 := by decide +kernel
theorem nf_60_other : nmIx (fldN.getD 60 []) "other" = some 3 := by decide +kernel
theorem nf_60_other_lot : nmIx (fldN.getD 60 []) "other_lot" = some 4 := by decide +kernel
theorem nf_60_plant : nmIx (fldN.getD 60 []) "plant" = some 1 := by decide +kernel
theorem nf_60_record : nmIx (fldN.getD 60 []) "record" = some 0 := by decide +kernel
def errsL (t n pr w x y : D) : List D := ([.err 1 [x], .err 2 [x], .err 4 [n], .err 5 [t], .err 6 [t], .err 7 [t, n], .err 8 [x], .err 9 [t], .err 10 [x, y], .err 11 [x], .err 13 [x], .err 14 [t], .err 15 [w], .err 16 [n], .err 17 [t], .err 18 [t], .err 19 [t], .err 20 [t], .err 22 [t], .err 23 [pr], .err 24 [t, n], .err 25 [t], .err 26 [x], .err 27 [t], .err 28 [t], .err 29 [n], .err 30 [t, n], .err 31 [t], .err 32 [t], .err 33 [t], .err 3 [], .err 12 [], .err 21 [], .err 34 [], .err 35 [], .err 36 [], .err 37 [], .err 38 [], .err 39 []] : List D)
def fldsL (t n pr w x y : D) : List (List D) := [[x], [x], [n], [t], [t], [t, n], [x], [t], [x, y], [x], [x], [t], [w], [n], [t], [t], [t], [t], [t], [pr], [t, n], [t], [x], [t], [t], [n], [t, n], [t], [t], [t]]
def resL (x0 x1 x2 x3 x4 : D) : List D := [.ins 54 [x0, x1, x2, x3], .ins 47 [x0, x1, x2], .ins 55 [x0, x1], .ins 56 [x0], .ins 57 [x0, x1, x2], .ins 60 [x0, x1, x2, x3, x4], .ins 40 [x0, x1, x2, x3], .ins 45 [x0, x1], .ins 41 [x0, x1], .ins 42 [x0], .ins 43 [x0, x1], .ins 48 [x0, x1, x2, x3], .ins 49 [x0, x1, x2, x3], .ins 50 [x0, x1], .ins 51 [x0, x1, x2, x3], .ins 52 [x0, x1], .ins 53 [x0, x1, x2], .ins 58 [x0, x1], .ins 46 [x0, x1, x2], .ins 59 [x0, x1, x2, x3], .ins 44 [x0, x1]]
def thsL (x0 x1 x2 x3 x4 : D) : List (List D) := [[x0, x1, x2, x3], [x0, x1, x2], [x0, x1], [x0], [x0, x1, x2], [x0, x1, x2, x3, x4], [x0, x1, x2, x3], [x0, x1], [x0, x1], [x0], [x0, x1], [x0, x1, x2, x3], [x0, x1, x2, x3], [x0, x1], [x0, x1, x2, x3], [x0, x1], [x0, x1, x2], [x0, x1], [x0, x1, x2], [x0, x1, x2, x3], [x0, x1]]
def kindsL (c : Nat) : List D := [.bl (c == 1 || 1 == 0), .bl (c == 2 || 2 == 0), .bl (c == 4 || 4 == 0), .bl (c == 5 || 5 == 0), .bl (c == 6 || 6 == 0), .bl (c == 7 || 7 == 0), .bl (c == 8 || 8 == 0), .bl (c == 9 || 9 == 0), .bl (c == 10 || 10 == 0), .bl (c == 11 || 11 == 0), .bl (c == 13 || 13 == 0), .bl (c == 14 || 14 == 0), .bl (c == 15 || 15 == 0), .bl (c == 16 || 16 == 0), .bl (c == 17 || 17 == 0), .bl (c == 18 || 18 == 0), .bl (c == 19 || 19 == 0), .bl (c == 20 || 20 == 0), .bl (c == 22 || 22 == 0), .bl (c == 23 || 23 == 0), .bl (c == 24 || 24 == 0), .bl (c == 25 || 25 == 0), .bl (c == 26 || 26 == 0), .bl (c == 27 || 27 == 0), .bl (c == 28 || 28 == 0), .bl (c == 29 || 29 == 0), .bl (c == 30 || 30 == 0), .bl (c == 31 || 31 == 0), .bl (c == 32 || 32 == 0), .bl (c == 33 || 33 == 0), .bl (c == 3 || 3 == 0), .bl (c == 12 || 12 == 0), .bl (c == 21 || 21 == 0), .bl (c == 34 || 34 == 0), .bl (c == 35 || 35 == 0), .bl (c == 36 || 36 == 0), .bl (c == 37 || 37 == 0), .bl (c == 38 || 38 == 0), .bl (c == 39 || 39 == 0)]
theorem isi_ok {c o : Nat} (hc : c < 40) (ho : o < 61) : isiT (.err c) (.own o) = some (c == o || o == 0) := if_pos ⟨hc, ho⟩
theorem ltb {a b : Nat} (h : Nat.ble (a + 1) b = true) : a < b := Nat.le_of_ble_eq_true h
section
variable {K : PySem.W.Frag} {st : Sto} {Q : D → Sto → Prop} {t n pr w x y x0 x1 x2 x3 x4 : D} {c pe pv : Nat} {ds : List D}
theorem hG0 : ∀ a b, Go a b → (fun _ : Sto => True) a → (fun _ : Sto => True) b := fun _ _ _ _ => trivial
theorem sp_errors (ht : t ≠ .self) (hn : n ≠ .self) (hpr : pr ≠ .self) (hw : w ≠ .self) (hx : x ≠ .self) (hy : y ≠ .self) (hh : HandOk st) (q : ∀ p st', Go st st' → Af st' p (errsL t n pr w x y) → Q (.ptr p) st') : Wx (F_law_errors (tab K) [t, n, pr, w, x, y]) st Q := by
  refine wx_fn (ws_seq (acc0 (G := (fun _ => True)) (pua_cons (pu_err (pua_cons (pu_var rfl hx) pua_nil) rfl (Nat.le_of_ble_eq_true rfl)) (pua_cons (pu_err (pua_cons (pu_var rfl hx) pua_nil) rfl (Nat.le_of_ble_eq_true rfl)) (pua_cons (pu_err (pua_cons (pu_var rfl hn) pua_nil) rfl (Nat.le_of_ble_eq_true rfl)) (pua_cons (pu_err (pua_cons (pu_var rfl ht) pua_nil) rfl (Nat.le_of_ble_eq_true rfl)) (pua_cons (pu_err (pua_cons (pu_var rfl ht) pua_nil) rfl (Nat.le_of_ble_eq_true rfl)) (pua_cons (pu_err (pua_cons (pu_var rfl ht) (pua_cons (pu_var rfl hn) pua_nil)) rfl (Nat.le_of_ble_eq_true rfl)) (pua_cons (pu_err (pua_cons (pu_var rfl hx) pua_nil) rfl (Nat.le_of_ble_eq_true rfl)) pua_nil))))))) trivial hh (Nat.le_of_ble_eq_true rfl) fun p1 s1 h1 a1 => ?_))
  have g1 := h1
  refine ws_seq (acc1 (G := (fun _ => True)) rfl a1 (pua_cons (pu_err (pua_cons (pu_var rfl ht) pua_nil) rfl (Nat.le_of_ble_eq_true rfl)) (pua_cons (pu_err (pua_cons (pu_var rfl hx) (pua_cons (pu_var rfl hy) pua_nil)) rfl (Nat.le_of_ble_eq_true rfl)) (pua_cons (pu_err (pua_cons (pu_var rfl hx) pua_nil) rfl (Nat.le_of_ble_eq_true rfl)) (pua_cons (pu_err (pua_cons (pu_var rfl hx) pua_nil) rfl (Nat.le_of_ble_eq_true rfl)) (pua_cons (pu_err (pua_cons (pu_var rfl ht) pua_nil) rfl (Nat.le_of_ble_eq_true rfl)) (pua_cons (pu_err (pua_cons (pu_var rfl hw) pua_nil) rfl (Nat.le_of_ble_eq_true rfl)) pua_nil)))))) trivial (g1.hand hh) (Nat.le_of_ble_eq_true rfl) fun p2 s2 h2 a2 => ?_)
  have g2 := g1.trans h2
  refine ws_seq (acc1 (G := (fun _ => True)) rfl a2 (pua_cons (pu_err (pua_cons (pu_var rfl hn) pua_nil) rfl (Nat.le_of_ble_eq_true rfl)) (pua_cons (pu_err (pua_cons (pu_var rfl ht) pua_nil) rfl (Nat.le_of_ble_eq_true rfl)) (pua_cons (pu_err (pua_cons (pu_var rfl ht) pua_nil) rfl (Nat.le_of_ble_eq_true rfl)) (pua_cons (pu_err (pua_cons (pu_var rfl ht) pua_nil) rfl (Nat.le_of_ble_eq_true rfl)) (pua_cons (pu_err (pua_cons (pu_var rfl ht) pua_nil) rfl (Nat.le_of_ble_eq_true rfl)) (pua_cons (pu_err (pua_cons (pu_var rfl ht) pua_nil) rfl (Nat.le_of_ble_eq_true rfl)) pua_nil)))))) trivial (g2.hand hh) (Nat.le_of_ble_eq_true rfl) fun p3 s3 h3 a3 => ?_)
  have g3 := g2.trans h3
  refine ws_seq (acc1 (G := (fun _ => True)) rfl a3 (pua_cons (pu_err (pua_cons (pu_var rfl hpr) pua_nil) rfl (Nat.le_of_ble_eq_true rfl)) (pua_cons (pu_err (pua_cons (pu_var rfl ht) (pua_cons (pu_var rfl hn) pua_nil)) rfl (Nat.le_of_ble_eq_true rfl)) (pua_cons (pu_err (pua_cons (pu_var rfl ht) pua_nil) rfl (Nat.le_of_ble_eq_true rfl)) (pua_cons (pu_err (pua_cons (pu_var rfl hx) pua_nil) rfl (Nat.le_of_ble_eq_true rfl)) (pua_cons (pu_err (pua_cons (pu_var rfl ht) pua_nil) rfl (Nat.le_of_ble_eq_true rfl)) (pua_cons (pu_err (pua_cons (pu_var rfl ht) pua_nil) rfl (Nat.le_of_ble_eq_true rfl)) pua_nil)))))) trivial (g3.hand hh) (Nat.le_of_ble_eq_true rfl) fun p4 s4 h4 a4 => ?_)
  have g4 := g3.trans h4
  refine ws_seq (acc1 (G := (fun _ => True)) rfl a4 (pua_cons (pu_err (pua_cons (pu_var rfl hn) pua_nil) rfl (Nat.le_of_ble_eq_true rfl)) (pua_cons (pu_err (pua_cons (pu_var rfl ht) (pua_cons (pu_var rfl hn) pua_nil)) rfl (Nat.le_of_ble_eq_true rfl)) (pua_cons (pu_err (pua_cons (pu_var rfl ht) pua_nil) rfl (Nat.le_of_ble_eq_true rfl)) (pua_cons (pu_err (pua_cons (pu_var rfl ht) pua_nil) rfl (Nat.le_of_ble_eq_true rfl)) (pua_cons (pu_err (pua_cons (pu_var rfl ht) pua_nil) rfl (Nat.le_of_ble_eq_true rfl)) pua_nil))))) trivial (g4.hand hh) (Nat.le_of_ble_eq_true rfl) fun p5 s5 h5 a5 => ?_)
  have g5 := g4.trans h5
  exact accR (G := (fun _ => True)) rfl a5 (pua_cons (pu_err pua_nil rfl (Nat.le_of_ble_eq_true rfl)) (pua_cons (pu_err pua_nil rfl (Nat.le_of_ble_eq_true rfl)) (pua_cons pu_c (pua_cons (pu_err pua_nil rfl (Nat.le_of_ble_eq_true rfl)) (pua_cons (pu_err pua_nil rfl (Nat.le_of_ble_eq_true rfl)) (pua_cons (pu_err pua_nil rfl (Nat.le_of_ble_eq_true rfl)) (pua_cons (pu_err pua_nil rfl (Nat.le_of_ble_eq_true rfl)) (pua_cons (pu_err pua_nil rfl (Nat.le_of_ble_eq_true rfl)) (pua_cons (pu_err pua_nil rfl (Nat.le_of_ble_eq_true rfl)) pua_nil))))))))) trivial (g5.hand hh) (Nat.le_of_ble_eq_true rfl) fun p6 s6 h6 a6 => q p6 s6 (g5.trans h6) a6
theorem sp_named_errors (ht : t ≠ .self) (hn : n ≠ .self) (hpr : pr ≠ .self) (hw : w ≠ .self) (hx : x ≠ .self) (hy : y ≠ .self) (hh : HandOk st) (q : ∀ p st', Go st st' → Af st' p (errsL t n pr w x y) → Q (.ptr p) st') : Wx (F_law_named_errors (tab K) [t, n, pr, w, x, y]) st Q := by
  refine wx_fn (ws_seq (acc0 (G := (fun _ => True)) (pua_cons (pu_errK (pua_cons (pu_var rfl hx) pua_nil) rfl rfl rfl (Nat.le_of_ble_eq_true rfl)) (pua_cons (pu_errK (pua_cons (pu_var rfl hx) pua_nil) rfl rfl rfl (Nat.le_of_ble_eq_true rfl)) (pua_cons (pu_errK (pua_cons (pu_var rfl hn) pua_nil) rfl rfl rfl (Nat.le_of_ble_eq_true rfl)) (pua_cons (pu_errK (pua_cons (pu_var rfl ht) pua_nil) rfl rfl rfl (Nat.le_of_ble_eq_true rfl)) (pua_cons (pu_errK (pua_cons (pu_var rfl ht) pua_nil) rfl rfl rfl (Nat.le_of_ble_eq_true rfl)) pua_nil))))) trivial hh (Nat.le_of_ble_eq_true rfl) fun p1 s1 h1 a1 => ?_))
  have g1 := h1
  refine ws_seq (acc1 (G := (fun _ => True)) rfl a1 (pua_cons (pu_errK (pua_cons (pu_var rfl hn) (pua_cons (pu_var rfl ht) pua_nil)) rfl rfl rfl (Nat.le_of_ble_eq_true rfl)) (pua_cons (pu_errK (pua_cons (pu_var rfl hx) pua_nil) rfl rfl rfl (Nat.le_of_ble_eq_true rfl)) (pua_cons (pu_errK (pua_cons (pu_var rfl ht) pua_nil) rfl rfl rfl (Nat.le_of_ble_eq_true rfl)) (pua_cons (pu_errK (pua_cons (pu_var rfl hy) (pua_cons (pu_var rfl hx) pua_nil)) rfl rfl rfl (Nat.le_of_ble_eq_true rfl)) pua_nil)))) trivial (g1.hand hh) (Nat.le_of_ble_eq_true rfl) fun p2 s2 h2 a2 => ?_)
  have g2 := g1.trans h2
  refine ws_seq (acc1 (G := (fun _ => True)) rfl a2 (pua_cons (pu_errK (pua_cons (pu_var rfl hx) pua_nil) rfl rfl rfl (Nat.le_of_ble_eq_true rfl)) (pua_cons (pu_errK (pua_cons (pu_var rfl hx) pua_nil) rfl rfl rfl (Nat.le_of_ble_eq_true rfl)) (pua_cons (pu_errK (pua_cons (pu_var rfl ht) pua_nil) rfl rfl rfl (Nat.le_of_ble_eq_true rfl)) (pua_cons (pu_errK (pua_cons (pu_var rfl hw) pua_nil) rfl rfl rfl (Nat.le_of_ble_eq_true rfl)) (pua_cons (pu_errK (pua_cons (pu_var rfl hn) pua_nil) rfl rfl rfl (Nat.le_of_ble_eq_true rfl)) pua_nil))))) trivial (g2.hand hh) (Nat.le_of_ble_eq_true rfl) fun p3 s3 h3 a3 => ?_)
  have g3 := g2.trans h3
  refine ws_seq (acc1 (G := (fun _ => True)) rfl a3 (pua_cons (pu_errK (pua_cons (pu_var rfl ht) pua_nil) rfl rfl rfl (Nat.le_of_ble_eq_true rfl)) (pua_cons (pu_errK (pua_cons (pu_var rfl ht) pua_nil) rfl rfl rfl (Nat.le_of_ble_eq_true rfl)) (pua_cons (pu_errK (pua_cons (pu_var rfl ht) pua_nil) rfl rfl rfl (Nat.le_of_ble_eq_true rfl)) (pua_cons (pu_errK (pua_cons (pu_var rfl ht) pua_nil) rfl rfl rfl (Nat.le_of_ble_eq_true rfl)) (pua_cons (pu_errK (pua_cons (pu_var rfl ht) pua_nil) rfl rfl rfl (Nat.le_of_ble_eq_true rfl)) pua_nil))))) trivial (g3.hand hh) (Nat.le_of_ble_eq_true rfl) fun p4 s4 h4 a4 => ?_)
  have g4 := g3.trans h4
  refine ws_seq (acc1 (G := (fun _ => True)) rfl a4 (pua_cons (pu_errK (pua_cons (pu_var rfl hpr) pua_nil) rfl rfl rfl (Nat.le_of_ble_eq_true rfl)) (pua_cons (pu_errK (pua_cons (pu_var rfl hn) (pua_cons (pu_var rfl ht) pua_nil)) rfl rfl rfl (Nat.le_of_ble_eq_true rfl)) (pua_cons (pu_errK (pua_cons (pu_var rfl ht) pua_nil) rfl rfl rfl (Nat.le_of_ble_eq_true rfl)) (pua_cons (pu_errK (pua_cons (pu_var rfl hx) pua_nil) rfl rfl rfl (Nat.le_of_ble_eq_true rfl)) pua_nil)))) trivial (g4.hand hh) (Nat.le_of_ble_eq_true rfl) fun p5 s5 h5 a5 => ?_)
  have g5 := g4.trans h5
  refine ws_seq (acc1 (G := (fun _ => True)) rfl a5 (pua_cons (pu_errK (pua_cons (pu_var rfl ht) pua_nil) rfl rfl rfl (Nat.le_of_ble_eq_true rfl)) (pua_cons (pu_errK (pua_cons (pu_var rfl ht) pua_nil) rfl rfl rfl (Nat.le_of_ble_eq_true rfl)) (pua_cons (pu_errK (pua_cons (pu_var rfl hn) pua_nil) rfl rfl rfl (Nat.le_of_ble_eq_true rfl)) (pua_cons (pu_errK (pua_cons (pu_var rfl hn) (pua_cons (pu_var rfl ht) pua_nil)) rfl rfl rfl (Nat.le_of_ble_eq_true rfl)) pua_nil)))) trivial (g5.hand hh) (Nat.le_of_ble_eq_true rfl) fun p6 s6 h6 a6 => ?_)
  have g6 := g5.trans h6
  refine ws_seq (acc1 (G := (fun _ => True)) rfl a6 (pua_cons (pu_errK (pua_cons (pu_var rfl ht) pua_nil) rfl rfl rfl (Nat.le_of_ble_eq_true rfl)) (pua_cons (pu_errK (pua_cons (pu_var rfl ht) pua_nil) rfl rfl rfl (Nat.le_of_ble_eq_true rfl)) (pua_cons (pu_errK (pua_cons (pu_var rfl ht) pua_nil) rfl rfl rfl (Nat.le_of_ble_eq_true rfl)) pua_nil))) trivial (g6.hand hh) (Nat.le_of_ble_eq_true rfl) fun p7 s7 h7 a7 => ?_)
  have g7 := g6.trans h7
  exact accR (G := (fun _ => True)) rfl a7 (pua_cons (pu_err pua_nil rfl (Nat.le_of_ble_eq_true rfl)) (pua_cons (pu_err pua_nil rfl (Nat.le_of_ble_eq_true rfl)) (pua_cons pu_c (pua_cons (pu_err pua_nil rfl (Nat.le_of_ble_eq_true rfl)) (pua_cons (pu_err pua_nil rfl (Nat.le_of_ble_eq_true rfl)) (pua_cons (pu_err pua_nil rfl (Nat.le_of_ble_eq_true rfl)) (pua_cons (pu_err pua_nil rfl (Nat.le_of_ble_eq_true rfl)) (pua_cons (pu_err pua_nil rfl (Nat.le_of_ble_eq_true rfl)) (pua_cons (pu_err pua_nil rfl (Nat.le_of_ble_eq_true rfl)) pua_nil))))))))) trivial (g7.hand hh) (Nat.le_of_ble_eq_true rfl) fun p8 s8 h8 a8 => q p8 s8 (g7.trans h8) a8
theorem sp_due_fields (ht : t ≠ .self) (hn : n ≠ .self) (hpr : pr ≠ .self) (hw : w ≠ .self) (hx : x ≠ .self) (hy : y ≠ .self) (hh : HandOk st) (q : ∀ p st', Go st st' → LL st' p (fldsL t n pr w x y) → Q (.ptr p) st') : Wx (F_law_due_fields (tab K) [t, n, pr, w, x, y]) st Q := by
  have hG := hG0
  refine wx_fn (ws_seq (accL0 (G := (fun _ => True)) (wl_cons hG (pua_cons (pu_var rfl hx) pua_nil) (Nat.le_of_ble_eq_true rfl) (wl_cons hG (pua_cons (pu_var rfl hx) pua_nil) (Nat.le_of_ble_eq_true rfl) (wl_cons hG (pua_cons (pu_var rfl hn) pua_nil) (Nat.le_of_ble_eq_true rfl) (wl_cons hG (pua_cons (pu_var rfl ht) pua_nil) (Nat.le_of_ble_eq_true rfl) (wl_cons hG (pua_cons (pu_var rfl ht) pua_nil) (Nat.le_of_ble_eq_true rfl) (wl_cons hG (pua_cons (pu_var rfl ht) (pua_cons (pu_var rfl hn) pua_nil)) (Nat.le_of_ble_eq_true rfl) (wl_cons hG (pua_cons (pu_var rfl hx) pua_nil) (Nat.le_of_ble_eq_true rfl) (wl_cons hG (pua_cons (pu_var rfl ht) pua_nil) (Nat.le_of_ble_eq_true rfl) (wl_cons hG (pua_cons (pu_var rfl hx) (pua_cons (pu_var rfl hy) pua_nil)) (Nat.le_of_ble_eq_true rfl) (wl_cons hG (pua_cons (pu_var rfl hx) pua_nil) (Nat.le_of_ble_eq_true rfl) (wl_cons hG (pua_cons (pu_var rfl hx) pua_nil) (Nat.le_of_ble_eq_true rfl) (wl_cons hG (pua_cons (pu_var rfl ht) pua_nil) (Nat.le_of_ble_eq_true rfl) (wl_cons hG (pua_cons (pu_var rfl hw) pua_nil) (Nat.le_of_ble_eq_true rfl) (wl_cons hG (pua_cons (pu_var rfl hn) pua_nil) (Nat.le_of_ble_eq_true rfl) (wl_cons hG (pua_cons (pu_var rfl ht) pua_nil) (Nat.le_of_ble_eq_true rfl) (wl_cons hG (pua_cons (pu_var rfl ht) pua_nil) (Nat.le_of_ble_eq_true rfl) (wl_cons hG (pua_cons (pu_var rfl ht) pua_nil) (Nat.le_of_ble_eq_true rfl) (wl_cons hG (pua_cons (pu_var rfl ht) pua_nil) (Nat.le_of_ble_eq_true rfl) (wl_cons hG (pua_cons (pu_var rfl ht) pua_nil) (Nat.le_of_ble_eq_true rfl) wl_nil))))))))))))))))))) trivial hh (Nat.le_of_ble_eq_true rfl) fun p1 s1 h1 a1 => ?_))
  have g1 := h1
  exact accLR (G := (fun _ => True)) rfl a1 (wl_cons hG (pua_cons (pu_var rfl hpr) pua_nil) (Nat.le_of_ble_eq_true rfl) (wl_cons hG (pua_cons (pu_var rfl ht) (pua_cons (pu_var rfl hn) pua_nil)) (Nat.le_of_ble_eq_true rfl) (wl_cons hG (pua_cons (pu_var rfl ht) pua_nil) (Nat.le_of_ble_eq_true rfl) (wl_cons hG (pua_cons (pu_var rfl hx) pua_nil) (Nat.le_of_ble_eq_true rfl) (wl_cons hG (pua_cons (pu_var rfl ht) pua_nil) (Nat.le_of_ble_eq_true rfl) (wl_cons hG (pua_cons (pu_var rfl ht) pua_nil) (Nat.le_of_ble_eq_true rfl) (wl_cons hG (pua_cons (pu_var rfl hn) pua_nil) (Nat.le_of_ble_eq_true rfl) (wl_cons hG (pua_cons (pu_var rfl ht) (pua_cons (pu_var rfl hn) pua_nil)) (Nat.le_of_ble_eq_true rfl) (wl_cons hG (pua_cons (pu_var rfl ht) pua_nil) (Nat.le_of_ble_eq_true rfl) (wl_cons hG (pua_cons (pu_var rfl ht) pua_nil) (Nat.le_of_ble_eq_true rfl) (wl_cons hG (pua_cons (pu_var rfl ht) pua_nil) (Nat.le_of_ble_eq_true rfl) wl_nil))))))))))) trivial (g1.hand hh) (Nat.le_of_ble_eq_true rfl) fun p2 s2 h2 a2 => q p2 s2 (g1.trans h2) a2
theorem sp_fields (ha : Af st pe (errsL t n pr w x y)) (hh : HandOk st) (q : ∀ p st', Go st st' → LL st' p (fldsL t n pr w x y) → Q (.ptr p) st') : Wx (F_law_fields (tab K) [.ptr pe]) st Q := by
  have hG : ∀ a b, Go a b → (fun s => Af s pe (errsL t n pr w x y)) a → (fun s => Af s pe (errsL t n pr w x y)) b := fun _ _ g h => g.af _ _ h
  refine wx_fn (ws_seq (accL0 (G := (fun s => Af s pe (errsL t n pr w x y))) (wl_cons hG (pua_cons (pu_fldE (pu_ix (pu_var rfl (fun z => nomatch z)) pu_c (fun _ h => h) rfl) nf_1_prime rfl) pua_nil) (Nat.le_of_ble_eq_true rfl) (wl_cons hG (pua_cons (pu_fldE (pu_ix (pu_var rfl (fun z => nomatch z)) pu_c (fun _ h => h) rfl) nf_2_thing rfl) pua_nil) (Nat.le_of_ble_eq_true rfl) (wl_cons hG (pua_cons (pu_fldE (pu_ix (pu_var rfl (fun z => nomatch z)) pu_c (fun _ h => h) rfl) nf_4_place rfl) pua_nil) (Nat.le_of_ble_eq_true rfl) (wl_cons hG (pua_cons (pu_fldE (pu_ix (pu_var rfl (fun z => nomatch z)) pu_c (fun _ h => h) rfl) nf_5_what rfl) pua_nil) (Nat.le_of_ble_eq_true rfl) (wl_cons hG (pua_cons (pu_fldE (pu_ix (pu_var rfl (fun z => nomatch z)) pu_c (fun _ h => h) rfl) nf_6_what rfl) pua_nil) (Nat.le_of_ble_eq_true rfl) (wl_cons hG (pua_cons (pu_fldE (pu_ix (pu_var rfl (fun z => nomatch z)) pu_c (fun _ h => h) rfl) nf_7_what rfl) (pua_cons (pu_fldE (pu_ix (pu_var rfl (fun z => nomatch z)) pu_c (fun _ h => h) rfl) nf_7_at rfl) pua_nil)) (Nat.le_of_ble_eq_true rfl) (wl_cons hG (pua_cons (pu_fldE (pu_ix (pu_var rfl (fun z => nomatch z)) pu_c (fun _ h => h) rfl) nf_8_ticks rfl) pua_nil) (Nat.le_of_ble_eq_true rfl) wl_nil))))))) ha hh (Nat.le_of_ble_eq_true rfl) fun p1 s1 h1 a1 => ?_))
  have g1 := h1
  refine ws_seq (accL1 (G := (fun s => Af s pe (errsL t n pr w x y))) rfl a1 (wl_cons hG (pua_cons (pu_fldE (pu_ix (pu_var rfl (fun z => nomatch z)) pu_c (fun _ h => h) rfl) nf_9_what rfl) pua_nil) (Nat.le_of_ble_eq_true rfl) (wl_cons hG (pua_cons (pu_fldE (pu_ix (pu_var rfl (fun z => nomatch z)) pu_c (fun _ h => h) rfl) nf_10_low rfl) (pua_cons (pu_fldE (pu_ix (pu_var rfl (fun z => nomatch z)) pu_c (fun _ h => h) rfl) nf_10_high rfl) pua_nil)) (Nat.le_of_ble_eq_true rfl) (wl_cons hG (pua_cons (pu_fldE (pu_ix (pu_var rfl (fun z => nomatch z)) pu_c (fun _ h => h) rfl) nf_11_lot rfl) pua_nil) (Nat.le_of_ble_eq_true rfl) (wl_cons hG (pua_cons (pu_fldE (pu_ix (pu_var rfl (fun z => nomatch z)) pu_c (fun _ h => h) rfl) nf_13_wrong rfl) pua_nil) (Nat.le_of_ble_eq_true rfl) (wl_cons hG (pua_cons (pu_fldE (pu_ix (pu_var rfl (fun z => nomatch z)) pu_c (fun _ h => h) rfl) nf_14_what rfl) pua_nil) (Nat.le_of_ble_eq_true rfl) (wl_cons hG (pua_cons (pu_fldE (pu_ix (pu_var rfl (fun z => nomatch z)) pu_c (fun _ h => h) rfl) nf_15_weights rfl) pua_nil) (Nat.le_of_ble_eq_true rfl) wl_nil)))))) (g1.af _ _ ha) (g1.hand hh) (Nat.le_of_ble_eq_true rfl) fun p2 s2 h2 a2 => ?_)
  have g2 := g1.trans h2
  refine ws_seq (accL1 (G := (fun s => Af s pe (errsL t n pr w x y))) rfl a2 (wl_cons hG (pua_cons (pu_fldE (pu_ix (pu_var rfl (fun z => nomatch z)) pu_c (fun _ h => h) rfl) nf_16_tick rfl) pua_nil) (Nat.le_of_ble_eq_true rfl) (wl_cons hG (pua_cons (pu_fldE (pu_ix (pu_var rfl (fun z => nomatch z)) pu_c (fun _ h => h) rfl) nf_17_what rfl) pua_nil) (Nat.le_of_ble_eq_true rfl) (wl_cons hG (pua_cons (pu_fldE (pu_ix (pu_var rfl (fun z => nomatch z)) pu_c (fun _ h => h) rfl) nf_18_what rfl) pua_nil) (Nat.le_of_ble_eq_true rfl) (wl_cons hG (pua_cons (pu_fldE (pu_ix (pu_var rfl (fun z => nomatch z)) pu_c (fun _ h => h) rfl) nf_19_what rfl) pua_nil) (Nat.le_of_ble_eq_true rfl) (wl_cons hG (pua_cons (pu_fldE (pu_ix (pu_var rfl (fun z => nomatch z)) pu_c (fun _ h => h) rfl) nf_20_what rfl) pua_nil) (Nat.le_of_ble_eq_true rfl) (wl_cons hG (pua_cons (pu_fldE (pu_ix (pu_var rfl (fun z => nomatch z)) pu_c (fun _ h => h) rfl) nf_22_what rfl) pua_nil) (Nat.le_of_ble_eq_true rfl) wl_nil)))))) (g2.af _ _ ha) (g2.hand hh) (Nat.le_of_ble_eq_true rfl) fun p3 s3 h3 a3 => ?_)
  have g3 := g2.trans h3
  refine ws_seq (accL1 (G := (fun s => Af s pe (errsL t n pr w x y))) rfl a3 (wl_cons hG (pua_cons (pu_fldE (pu_ix (pu_var rfl (fun z => nomatch z)) pu_c (fun _ h => h) rfl) nf_23_prime rfl) pua_nil) (Nat.le_of_ble_eq_true rfl) (wl_cons hG (pua_cons (pu_fldE (pu_ix (pu_var rfl (fun z => nomatch z)) pu_c (fun _ h => h) rfl) nf_24_what rfl) (pua_cons (pu_fldE (pu_ix (pu_var rfl (fun z => nomatch z)) pu_c (fun _ h => h) rfl) nf_24_at rfl) pua_nil)) (Nat.le_of_ble_eq_true rfl) (wl_cons hG (pua_cons (pu_fldE (pu_ix (pu_var rfl (fun z => nomatch z)) pu_c (fun _ h => h) rfl) nf_25_what rfl) pua_nil) (Nat.le_of_ble_eq_true rfl) (wl_cons hG (pua_cons (pu_fldE (pu_ix (pu_var rfl (fun z => nomatch z)) pu_c (fun _ h => h) rfl) nf_26_state rfl) pua_nil) (Nat.le_of_ble_eq_true rfl) (wl_cons hG (pua_cons (pu_fldE (pu_ix (pu_var rfl (fun z => nomatch z)) pu_c (fun _ h => h) rfl) nf_27_what rfl) pua_nil) (Nat.le_of_ble_eq_true rfl) (wl_cons hG (pua_cons (pu_fldE (pu_ix (pu_var rfl (fun z => nomatch z)) pu_c (fun _ h => h) rfl) nf_28_what rfl) pua_nil) (Nat.le_of_ble_eq_true rfl) wl_nil)))))) (g3.af _ _ ha) (g3.hand hh) (Nat.le_of_ble_eq_true rfl) fun p4 s4 h4 a4 => ?_)
  have g4 := g3.trans h4
  exact accLR (G := (fun s => Af s pe (errsL t n pr w x y))) rfl a4 (wl_cons hG (pua_cons (pu_fldE (pu_ix (pu_var rfl (fun z => nomatch z)) pu_c (fun _ h => h) rfl) nf_29_state rfl) pua_nil) (Nat.le_of_ble_eq_true rfl) (wl_cons hG (pua_cons (pu_fldE (pu_ix (pu_var rfl (fun z => nomatch z)) pu_c (fun _ h => h) rfl) nf_30_what rfl) (pua_cons (pu_fldE (pu_ix (pu_var rfl (fun z => nomatch z)) pu_c (fun _ h => h) rfl) nf_30_at rfl) pua_nil)) (Nat.le_of_ble_eq_true rfl) (wl_cons hG (pua_cons (pu_fldE (pu_ix (pu_var rfl (fun z => nomatch z)) pu_c (fun _ h => h) rfl) nf_31_what rfl) pua_nil) (Nat.le_of_ble_eq_true rfl) (wl_cons hG (pua_cons (pu_fldE (pu_ix (pu_var rfl (fun z => nomatch z)) pu_c (fun _ h => h) rfl) nf_32_what rfl) pua_nil) (Nat.le_of_ble_eq_true rfl) (wl_cons hG (pua_cons (pu_fldE (pu_ix (pu_var rfl (fun z => nomatch z)) pu_c (fun _ h => h) rfl) nf_33_what rfl) pua_nil) (Nat.le_of_ble_eq_true rfl) wl_nil))))) (g4.af _ _ ha) (g4.hand hh) (Nat.le_of_ble_eq_true rfl) fun p5 s5 h5 a5 => q p5 s5 (g4.trans h5) a5
theorem sp_results (ha : Af st pv [x0, x1, x2, x3, x4]) (hh : HandOk st) (q : ∀ p st', Go st st' → Af st' p (resL x0 x1 x2 x3 x4) → Q (.ptr p) st') : Wx (F_law_results (tab K) [.ptr pv]) st Q := by
  refine wx_fn (ws_seq (acc0 (G := (fun s => Af s pv [x0, x1, x2, x3, x4])) (pua_cons (pu_ins (pua_cons (pu_ix (pu_var rfl (fun z => nomatch z)) pu_c (fun _ h => h) rfl) (pua_cons (pu_ix (pu_var rfl (fun z => nomatch z)) pu_c (fun _ h => h) rfl) (pua_cons (pu_ix (pu_var rfl (fun z => nomatch z)) pu_c (fun _ h => h) rfl) (pua_cons (pu_ix (pu_var rfl (fun z => nomatch z)) pu_c (fun _ h => h) rfl) pua_nil)))) rfl) (pua_cons (pu_ins (pua_cons (pu_ix (pu_var rfl (fun z => nomatch z)) pu_c (fun _ h => h) rfl) (pua_cons (pu_ix (pu_var rfl (fun z => nomatch z)) pu_c (fun _ h => h) rfl) (pua_cons (pu_ix (pu_var rfl (fun z => nomatch z)) pu_c (fun _ h => h) rfl) pua_nil))) rfl) (pua_cons (pu_ins (pua_cons (pu_ix (pu_var rfl (fun z => nomatch z)) pu_c (fun _ h => h) rfl) (pua_cons (pu_ix (pu_var rfl (fun z => nomatch z)) pu_c (fun _ h => h) rfl) pua_nil)) rfl) (pua_cons (pu_ins (pua_cons (pu_ix (pu_var rfl (fun z => nomatch z)) pu_c (fun _ h => h) rfl) pua_nil) rfl) (pua_cons (pu_ins (pua_cons (pu_ix (pu_var rfl (fun z => nomatch z)) pu_c (fun _ h => h) rfl) (pua_cons (pu_ix (pu_var rfl (fun z => nomatch z)) pu_c (fun _ h => h) rfl) (pua_cons (pu_ix (pu_var rfl (fun z => nomatch z)) pu_c (fun _ h => h) rfl) pua_nil))) rfl) pua_nil))))) ha hh (Nat.le_of_ble_eq_true rfl) fun p1 s1 h1 a1 => ?_))
  have g1 := h1
  refine ws_seq (acc1 (G := (fun s => Af s pv [x0, x1, x2, x3, x4])) rfl a1 (pua_cons (pu_ins (pua_cons (pu_ix (pu_var rfl (fun z => nomatch z)) pu_c (fun _ h => h) rfl) (pua_cons (pu_ix (pu_var rfl (fun z => nomatch z)) pu_c (fun _ h => h) rfl) (pua_cons (pu_ix (pu_var rfl (fun z => nomatch z)) pu_c (fun _ h => h) rfl) (pua_cons (pu_ix (pu_var rfl (fun z => nomatch z)) pu_c (fun _ h => h) rfl) (pua_cons (pu_ix (pu_var rfl (fun z => nomatch z)) pu_c (fun _ h => h) rfl) pua_nil))))) rfl) (pua_cons (pu_ins (pua_cons (pu_ix (pu_var rfl (fun z => nomatch z)) pu_c (fun _ h => h) rfl) (pua_cons (pu_ix (pu_var rfl (fun z => nomatch z)) pu_c (fun _ h => h) rfl) (pua_cons (pu_ix (pu_var rfl (fun z => nomatch z)) pu_c (fun _ h => h) rfl) (pua_cons (pu_ix (pu_var rfl (fun z => nomatch z)) pu_c (fun _ h => h) rfl) pua_nil)))) rfl) (pua_cons (pu_ins (pua_cons (pu_ix (pu_var rfl (fun z => nomatch z)) pu_c (fun _ h => h) rfl) (pua_cons (pu_ix (pu_var rfl (fun z => nomatch z)) pu_c (fun _ h => h) rfl) pua_nil)) rfl) (pua_cons (pu_ins (pua_cons (pu_ix (pu_var rfl (fun z => nomatch z)) pu_c (fun _ h => h) rfl) (pua_cons (pu_ix (pu_var rfl (fun z => nomatch z)) pu_c (fun _ h => h) rfl) pua_nil)) rfl) pua_nil)))) (g1.af _ _ ha) (g1.hand hh) (Nat.le_of_ble_eq_true rfl) fun p2 s2 h2 a2 => ?_)
  have g2 := g1.trans h2
  refine ws_seq (acc1 (G := (fun s => Af s pv [x0, x1, x2, x3, x4])) rfl a2 (pua_cons (pu_ins (pua_cons (pu_ix (pu_var rfl (fun z => nomatch z)) pu_c (fun _ h => h) rfl) pua_nil) rfl) (pua_cons (pu_ins (pua_cons (pu_ix (pu_var rfl (fun z => nomatch z)) pu_c (fun _ h => h) rfl) (pua_cons (pu_ix (pu_var rfl (fun z => nomatch z)) pu_c (fun _ h => h) rfl) pua_nil)) rfl) (pua_cons (pu_ins (pua_cons (pu_ix (pu_var rfl (fun z => nomatch z)) pu_c (fun _ h => h) rfl) (pua_cons (pu_ix (pu_var rfl (fun z => nomatch z)) pu_c (fun _ h => h) rfl) (pua_cons (pu_ix (pu_var rfl (fun z => nomatch z)) pu_c (fun _ h => h) rfl) (pua_cons (pu_ix (pu_var rfl (fun z => nomatch z)) pu_c (fun _ h => h) rfl) pua_nil)))) rfl) (pua_cons (pu_ins (pua_cons (pu_ix (pu_var rfl (fun z => nomatch z)) pu_c (fun _ h => h) rfl) (pua_cons (pu_ix (pu_var rfl (fun z => nomatch z)) pu_c (fun _ h => h) rfl) (pua_cons (pu_ix (pu_var rfl (fun z => nomatch z)) pu_c (fun _ h => h) rfl) (pua_cons (pu_ix (pu_var rfl (fun z => nomatch z)) pu_c (fun _ h => h) rfl) pua_nil)))) rfl) pua_nil)))) (g2.af _ _ ha) (g2.hand hh) (Nat.le_of_ble_eq_true rfl) fun p3 s3 h3 a3 => ?_)
  have g3 := g2.trans h3
  refine ws_seq (acc1 (G := (fun s => Af s pv [x0, x1, x2, x3, x4])) rfl a3 (pua_cons (pu_ins (pua_cons (pu_ix (pu_var rfl (fun z => nomatch z)) pu_c (fun _ h => h) rfl) (pua_cons (pu_ix (pu_var rfl (fun z => nomatch z)) pu_c (fun _ h => h) rfl) pua_nil)) rfl) (pua_cons (pu_ins (pua_cons (pu_ix (pu_var rfl (fun z => nomatch z)) pu_c (fun _ h => h) rfl) (pua_cons (pu_ix (pu_var rfl (fun z => nomatch z)) pu_c (fun _ h => h) rfl) (pua_cons (pu_ix (pu_var rfl (fun z => nomatch z)) pu_c (fun _ h => h) rfl) (pua_cons (pu_ix (pu_var rfl (fun z => nomatch z)) pu_c (fun _ h => h) rfl) pua_nil)))) rfl) (pua_cons (pu_ins (pua_cons (pu_ix (pu_var rfl (fun z => nomatch z)) pu_c (fun _ h => h) rfl) (pua_cons (pu_ix (pu_var rfl (fun z => nomatch z)) pu_c (fun _ h => h) rfl) pua_nil)) rfl) (pua_cons (pu_ins (pua_cons (pu_ix (pu_var rfl (fun z => nomatch z)) pu_c (fun _ h => h) rfl) (pua_cons (pu_ix (pu_var rfl (fun z => nomatch z)) pu_c (fun _ h => h) rfl) (pua_cons (pu_ix (pu_var rfl (fun z => nomatch z)) pu_c (fun _ h => h) rfl) pua_nil))) rfl) (pua_cons (pu_ins (pua_cons (pu_ix (pu_var rfl (fun z => nomatch z)) pu_c (fun _ h => h) rfl) (pua_cons (pu_ix (pu_var rfl (fun z => nomatch z)) pu_c (fun _ h => h) rfl) pua_nil)) rfl) pua_nil))))) (g3.af _ _ ha) (g3.hand hh) (Nat.le_of_ble_eq_true rfl) fun p4 s4 h4 a4 => ?_)
  have g4 := g3.trans h4
  exact accR (G := (fun s => Af s pv [x0, x1, x2, x3, x4])) rfl a4 (pua_cons (pu_ins (pua_cons (pu_ix (pu_var rfl (fun z => nomatch z)) pu_c (fun _ h => h) rfl) (pua_cons (pu_ix (pu_var rfl (fun z => nomatch z)) pu_c (fun _ h => h) rfl) (pua_cons (pu_ix (pu_var rfl (fun z => nomatch z)) pu_c (fun _ h => h) rfl) pua_nil))) rfl) (pua_cons (pu_ins (pua_cons (pu_ix (pu_var rfl (fun z => nomatch z)) pu_c (fun _ h => h) rfl) (pua_cons (pu_ix (pu_var rfl (fun z => nomatch z)) pu_c (fun _ h => h) rfl) (pua_cons (pu_ix (pu_var rfl (fun z => nomatch z)) pu_c (fun _ h => h) rfl) (pua_cons (pu_ix (pu_var rfl (fun z => nomatch z)) pu_c (fun _ h => h) rfl) pua_nil)))) rfl) (pua_cons (pu_ins (pua_cons (pu_ix (pu_var rfl (fun z => nomatch z)) pu_c (fun _ h => h) rfl) (pua_cons (pu_ix (pu_var rfl (fun z => nomatch z)) pu_c (fun _ h => h) rfl) pua_nil)) rfl) pua_nil))) (g4.af _ _ ha) (g4.hand hh) (Nat.le_of_ble_eq_true rfl) fun p5 s5 h5 a5 => q p5 s5 (g4.trans h5) a5
theorem sp_named_results (ha : Af st pv [x0, x1, x2, x3, x4]) (hh : HandOk st) (q : ∀ p st', Go st st' → Af st' p (resL x0 x1 x2 x3 x4) → Q (.ptr p) st') : Wx (F_law_named_results (tab K) [.ptr pv]) st Q := by
  refine wx_fn (ws_seq (acc0 (G := (fun s => Af s pv [x0, x1, x2, x3, x4])) (pua_cons (pu_insK (pua_cons (pu_ix (pu_var rfl (fun z => nomatch z)) pu_c (fun _ h => h) rfl) (pua_cons (pu_ix (pu_var rfl (fun z => nomatch z)) pu_c (fun _ h => h) rfl) (pua_cons (pu_ix (pu_var rfl (fun z => nomatch z)) pu_c (fun _ h => h) rfl) (pua_cons (pu_ix (pu_var rfl (fun z => nomatch z)) pu_c (fun _ h => h) rfl) pua_nil)))) rfl rfl rfl) (pua_cons (pu_insK (pua_cons (pu_ix (pu_var rfl (fun z => nomatch z)) pu_c (fun _ h => h) rfl) (pua_cons (pu_ix (pu_var rfl (fun z => nomatch z)) pu_c (fun _ h => h) rfl) (pua_cons (pu_ix (pu_var rfl (fun z => nomatch z)) pu_c (fun _ h => h) rfl) pua_nil))) rfl rfl rfl) pua_nil)) ha hh (Nat.le_of_ble_eq_true rfl) fun p1 s1 h1 a1 => ?_))
  have g1 := h1
  refine ws_seq (acc1 (G := (fun s => Af s pv [x0, x1, x2, x3, x4])) rfl a1 (pua_cons (pu_insK (pua_cons (pu_ix (pu_var rfl (fun z => nomatch z)) pu_c (fun _ h => h) rfl) (pua_cons (pu_ix (pu_var rfl (fun z => nomatch z)) pu_c (fun _ h => h) rfl) pua_nil)) rfl rfl rfl) (pua_cons (pu_insK (pua_cons (pu_ix (pu_var rfl (fun z => nomatch z)) pu_c (fun _ h => h) rfl) pua_nil) rfl rfl rfl) (pua_cons (pu_insK (pua_cons (pu_ix (pu_var rfl (fun z => nomatch z)) pu_c (fun _ h => h) rfl) (pua_cons (pu_ix (pu_var rfl (fun z => nomatch z)) pu_c (fun _ h => h) rfl) (pua_cons (pu_ix (pu_var rfl (fun z => nomatch z)) pu_c (fun _ h => h) rfl) pua_nil))) rfl rfl rfl) pua_nil))) (g1.af _ _ ha) (g1.hand hh) (Nat.le_of_ble_eq_true rfl) fun p2 s2 h2 a2 => ?_)
  have g2 := g1.trans h2
  refine ws_seq (acc1 (G := (fun s => Af s pv [x0, x1, x2, x3, x4])) rfl a2 (pua_cons (pu_insK (pua_cons (pu_ix (pu_var rfl (fun z => nomatch z)) pu_c (fun _ h => h) rfl) (pua_cons (pu_ix (pu_var rfl (fun z => nomatch z)) pu_c (fun _ h => h) rfl) (pua_cons (pu_ix (pu_var rfl (fun z => nomatch z)) pu_c (fun _ h => h) rfl) (pua_cons (pu_ix (pu_var rfl (fun z => nomatch z)) pu_c (fun _ h => h) rfl) (pua_cons (pu_ix (pu_var rfl (fun z => nomatch z)) pu_c (fun _ h => h) rfl) pua_nil))))) rfl rfl rfl) pua_nil) (g2.af _ _ ha) (g2.hand hh) (Nat.le_of_ble_eq_true rfl) fun p3 s3 h3 a3 => ?_)
  have g3 := g2.trans h3
  refine ws_seq (acc1 (G := (fun s => Af s pv [x0, x1, x2, x3, x4])) rfl a3 (pua_cons (pu_insK (pua_cons (pu_ix (pu_var rfl (fun z => nomatch z)) pu_c (fun _ h => h) rfl) (pua_cons (pu_ix (pu_var rfl (fun z => nomatch z)) pu_c (fun _ h => h) rfl) (pua_cons (pu_ix (pu_var rfl (fun z => nomatch z)) pu_c (fun _ h => h) rfl) (pua_cons (pu_ix (pu_var rfl (fun z => nomatch z)) pu_c (fun _ h => h) rfl) pua_nil)))) rfl rfl rfl) (pua_cons (pu_insK (pua_cons (pu_ix (pu_var rfl (fun z => nomatch z)) pu_c (fun _ h => h) rfl) (pua_cons (pu_ix (pu_var rfl (fun z => nomatch z)) pu_c (fun _ h => h) rfl) pua_nil)) rfl rfl rfl) pua_nil)) (g3.af _ _ ha) (g3.hand hh) (Nat.le_of_ble_eq_true rfl) fun p4 s4 h4 a4 => ?_)
  have g4 := g3.trans h4
  refine ws_seq (acc1 (G := (fun s => Af s pv [x0, x1, x2, x3, x4])) rfl a4 (pua_cons (pu_insK (pua_cons (pu_ix (pu_var rfl (fun z => nomatch z)) pu_c (fun _ h => h) rfl) (pua_cons (pu_ix (pu_var rfl (fun z => nomatch z)) pu_c (fun _ h => h) rfl) pua_nil)) rfl rfl rfl) (pua_cons (pu_insK (pua_cons (pu_ix (pu_var rfl (fun z => nomatch z)) pu_c (fun _ h => h) rfl) pua_nil) rfl rfl rfl) (pua_cons (pu_insK (pua_cons (pu_ix (pu_var rfl (fun z => nomatch z)) pu_c (fun _ h => h) rfl) (pua_cons (pu_ix (pu_var rfl (fun z => nomatch z)) pu_c (fun _ h => h) rfl) pua_nil)) rfl rfl rfl) pua_nil))) (g4.af _ _ ha) (g4.hand hh) (Nat.le_of_ble_eq_true rfl) fun p5 s5 h5 a5 => ?_)
  have g5 := g4.trans h5
  refine ws_seq (acc1 (G := (fun s => Af s pv [x0, x1, x2, x3, x4])) rfl a5 (pua_cons (pu_insK (pua_cons (pu_ix (pu_var rfl (fun z => nomatch z)) pu_c (fun _ h => h) rfl) (pua_cons (pu_ix (pu_var rfl (fun z => nomatch z)) pu_c (fun _ h => h) rfl) (pua_cons (pu_ix (pu_var rfl (fun z => nomatch z)) pu_c (fun _ h => h) rfl) (pua_cons (pu_ix (pu_var rfl (fun z => nomatch z)) pu_c (fun _ h => h) rfl) pua_nil)))) rfl rfl rfl) (pua_cons (pu_insK (pua_cons (pu_ix (pu_var rfl (fun z => nomatch z)) pu_c (fun _ h => h) rfl) (pua_cons (pu_ix (pu_var rfl (fun z => nomatch z)) pu_c (fun _ h => h) rfl) (pua_cons (pu_ix (pu_var rfl (fun z => nomatch z)) pu_c (fun _ h => h) rfl) (pua_cons (pu_ix (pu_var rfl (fun z => nomatch z)) pu_c (fun _ h => h) rfl) pua_nil)))) rfl rfl rfl) pua_nil)) (g5.af _ _ ha) (g5.hand hh) (Nat.le_of_ble_eq_true rfl) fun p6 s6 h6 a6 => ?_)
  have g6 := g5.trans h6
  refine ws_seq (acc1 (G := (fun s => Af s pv [x0, x1, x2, x3, x4])) rfl a6 (pua_cons (pu_insK (pua_cons (pu_ix (pu_var rfl (fun z => nomatch z)) pu_c (fun _ h => h) rfl) (pua_cons (pu_ix (pu_var rfl (fun z => nomatch z)) pu_c (fun _ h => h) rfl) pua_nil)) rfl rfl rfl) (pua_cons (pu_insK (pua_cons (pu_ix (pu_var rfl (fun z => nomatch z)) pu_c (fun _ h => h) rfl) (pua_cons (pu_ix (pu_var rfl (fun z => nomatch z)) pu_c (fun _ h => h) rfl) (pua_cons (pu_ix (pu_var rfl (fun z => nomatch z)) pu_c (fun _ h => h) rfl) (pua_cons (pu_ix (pu_var rfl (fun z => nomatch z)) pu_c (fun _ h => h) rfl) pua_nil)))) rfl rfl rfl) (pua_cons (pu_insK (pua_cons (pu_ix (pu_var rfl (fun z => nomatch z)) pu_c (fun _ h => h) rfl) (pua_cons (pu_ix (pu_var rfl (fun z => nomatch z)) pu_c (fun _ h => h) rfl) pua_nil)) rfl rfl rfl) pua_nil))) (g6.af _ _ ha) (g6.hand hh) (Nat.le_of_ble_eq_true rfl) fun p7 s7 h7 a7 => ?_)
  have g7 := g6.trans h7
  refine ws_seq (acc1 (G := (fun s => Af s pv [x0, x1, x2, x3, x4])) rfl a7 (pua_cons (pu_insK (pua_cons (pu_ix (pu_var rfl (fun z => nomatch z)) pu_c (fun _ h => h) rfl) (pua_cons (pu_ix (pu_var rfl (fun z => nomatch z)) pu_c (fun _ h => h) rfl) (pua_cons (pu_ix (pu_var rfl (fun z => nomatch z)) pu_c (fun _ h => h) rfl) pua_nil))) rfl rfl rfl) (pua_cons (pu_insK (pua_cons (pu_ix (pu_var rfl (fun z => nomatch z)) pu_c (fun _ h => h) rfl) (pua_cons (pu_ix (pu_var rfl (fun z => nomatch z)) pu_c (fun _ h => h) rfl) pua_nil)) rfl rfl rfl) pua_nil)) (g7.af _ _ ha) (g7.hand hh) (Nat.le_of_ble_eq_true rfl) fun p8 s8 h8 a8 => ?_)
  have g8 := g7.trans h8
  refine ws_seq (acc1 (G := (fun s => Af s pv [x0, x1, x2, x3, x4])) rfl a8 (pua_cons (pu_insK (pua_cons (pu_ix (pu_var rfl (fun z => nomatch z)) pu_c (fun _ h => h) rfl) (pua_cons (pu_ix (pu_var rfl (fun z => nomatch z)) pu_c (fun _ h => h) rfl) (pua_cons (pu_ix (pu_var rfl (fun z => nomatch z)) pu_c (fun _ h => h) rfl) pua_nil))) rfl rfl rfl) (pua_cons (pu_insK (pua_cons (pu_ix (pu_var rfl (fun z => nomatch z)) pu_c (fun _ h => h) rfl) (pua_cons (pu_ix (pu_var rfl (fun z => nomatch z)) pu_c (fun _ h => h) rfl) (pua_cons (pu_ix (pu_var rfl (fun z => nomatch z)) pu_c (fun _ h => h) rfl) (pua_cons (pu_ix (pu_var rfl (fun z => nomatch z)) pu_c (fun _ h => h) rfl) pua_nil)))) rfl rfl rfl) pua_nil)) (g8.af _ _ ha) (g8.hand hh) (Nat.le_of_ble_eq_true rfl) fun p9 s9 h9 a9 => ?_)
  have g9 := g8.trans h9
  exact accR (G := (fun s => Af s pv [x0, x1, x2, x3, x4])) rfl a9 (pua_cons (pu_insK (pua_cons (pu_ix (pu_var rfl (fun z => nomatch z)) pu_c (fun _ h => h) rfl) (pua_cons (pu_ix (pu_var rfl (fun z => nomatch z)) pu_c (fun _ h => h) rfl) pua_nil)) rfl rfl rfl) pua_nil) (g9.af _ _ ha) (g9.hand hh) (Nat.le_of_ble_eq_true rfl) fun p10 s10 h10 a10 => q p10 s10 (g9.trans h10) a10
theorem sp_things (ha : Af st pv (resL x0 x1 x2 x3 x4)) (hh : HandOk st) (q : ∀ p st', Go st st' → LL st' p (thsL x0 x1 x2 x3 x4) → Q (.ptr p) st') : Wx (F_law_things (tab K) [.ptr pv]) st Q := by
  have hG : ∀ a b, Go a b → (fun s => Af s pv (resL x0 x1 x2 x3 x4)) a → (fun s => Af s pv (resL x0 x1 x2 x3 x4)) b := fun _ _ g h => g.af _ _ h
  refine wx_fn (ws_seq (accL0 (G := (fun s => Af s pv (resL x0 x1 x2 x3 x4))) (wl_cons hG (pua_cons (pu_fldI (pu_ix (pu_var rfl (fun z => nomatch z)) pu_c (fun _ h => h) rfl) nf_54_puts rfl) (pua_cons (pu_fldI (pu_ix (pu_var rfl (fun z => nomatch z)) pu_c (fun _ h => h) rfl) nf_54_states rfl) (pua_cons (pu_fldI (pu_ix (pu_var rfl (fun z => nomatch z)) pu_c (fun _ h => h) rfl) nf_54_space rfl) (pua_cons (pu_fldI (pu_ix (pu_var rfl (fun z => nomatch z)) pu_c (fun _ h => h) rfl) nf_54_table rfl) pua_nil)))) (Nat.le_of_ble_eq_true rfl) (wl_cons hG (pua_cons (pu_fldI (pu_ix (pu_var rfl (fun z => nomatch z)) pu_c (fun _ h => h) rfl) nf_47_plant rfl) (pua_cons (pu_fldI (pu_ix (pu_var rfl (fun z => nomatch z)) pu_c (fun _ h => h) rfl) nf_47_rows rfl) (pua_cons (pu_fldI (pu_ix (pu_var rfl (fun z => nomatch z)) pu_c (fun _ h => h) rfl) nf_47_table rfl) pua_nil))) (Nat.le_of_ble_eq_true rfl) (wl_cons hG (pua_cons (pu_fldI (pu_ix (pu_var rfl (fun z => nomatch z)) pu_c (fun _ h => h) rfl) nf_55_table rfl) (pua_cons (pu_fldI (pu_ix (pu_var rfl (fun z => nomatch z)) pu_c (fun _ h => h) rfl) nf_55_spaces rfl) pua_nil)) (Nat.le_of_ble_eq_true rfl) wl_nil))) ha hh (Nat.le_of_ble_eq_true rfl) fun p1 s1 h1 a1 => ?_))
  have g1 := h1
  refine ws_seq (accL1 (G := (fun s => Af s pv (resL x0 x1 x2 x3 x4))) rfl a1 (wl_cons hG (pua_cons (pu_fldI (pu_ix (pu_var rfl (fun z => nomatch z)) pu_c (fun _ h => h) rfl) nf_56_row rfl) pua_nil) (Nat.le_of_ble_eq_true rfl) (wl_cons hG (pua_cons (pu_fldI (pu_ix (pu_var rfl (fun z => nomatch z)) pu_c (fun _ h => h) rfl) nf_57_plant rfl) (pua_cons (pu_fldI (pu_ix (pu_var rfl (fun z => nomatch z)) pu_c (fun _ h => h) rfl) nf_57_rows rfl) (pua_cons (pu_fldI (pu_ix (pu_var rfl (fun z => nomatch z)) pu_c (fun _ h => h) rfl) nf_57_table rfl) pua_nil))) (Nat.le_of_ble_eq_true rfl) wl_nil)) (g1.af _ _ ha) (g1.hand hh) (Nat.le_of_ble_eq_true rfl) fun p2 s2 h2 a2 => ?_)
  have g2 := g1.trans h2
  refine ws_seq (accL1 (G := (fun s => Af s pv (resL x0 x1 x2 x3 x4))) rfl a2 (wl_cons hG (pua_cons (pu_fldI (pu_ix (pu_var rfl (fun z => nomatch z)) pu_c (fun _ h => h) rfl) nf_60_record rfl) (pua_cons (pu_fldI (pu_ix (pu_var rfl (fun z => nomatch z)) pu_c (fun _ h => h) rfl) nf_60_plant rfl) (pua_cons (pu_fldI (pu_ix (pu_var rfl (fun z => nomatch z)) pu_c (fun _ h => h) rfl) nf_60_lot rfl) (pua_cons (pu_fldI (pu_ix (pu_var rfl (fun z => nomatch z)) pu_c (fun _ h => h) rfl) nf_60_other rfl) (pua_cons (pu_fldI (pu_ix (pu_var rfl (fun z => nomatch z)) pu_c (fun _ h => h) rfl) nf_60_other_lot rfl) pua_nil))))) (Nat.le_of_ble_eq_true rfl) wl_nil) (g2.af _ _ ha) (g2.hand hh) (Nat.le_of_ble_eq_true rfl) fun p3 s3 h3 a3 => ?_)
  have g3 := g2.trans h3
  refine ws_seq (accL1 (G := (fun s => Af s pv (resL x0 x1 x2 x3 x4))) rfl a3 (wl_cons hG (pua_cons (pu_fldI (pu_ix (pu_var rfl (fun z => nomatch z)) pu_c (fun _ h => h) rfl) nf_40_plant rfl) (pua_cons (pu_fldI (pu_ix (pu_var rfl (fun z => nomatch z)) pu_c (fun _ h => h) rfl) nf_40_start rfl) (pua_cons (pu_fldI (pu_ix (pu_var rfl (fun z => nomatch z)) pu_c (fun _ h => h) rfl) nf_40_silent rfl) (pua_cons (pu_fldI (pu_ix (pu_var rfl (fun z => nomatch z)) pu_c (fun _ h => h) rfl) nf_40_other rfl) pua_nil)))) (Nat.le_of_ble_eq_true rfl) (wl_cons hG (pua_cons (pu_fldI (pu_ix (pu_var rfl (fun z => nomatch z)) pu_c (fun _ h => h) rfl) nf_45_space rfl) (pua_cons (pu_fldI (pu_ix (pu_var rfl (fun z => nomatch z)) pu_c (fun _ h => h) rfl) nf_45_rows rfl) pua_nil)) (Nat.le_of_ble_eq_true rfl) (wl_cons hG (pua_cons (pu_fldI (pu_ix (pu_var rfl (fun z => nomatch z)) pu_c (fun _ h => h) rfl) nf_41_point rfl) (pua_cons (pu_fldI (pu_ix (pu_var rfl (fun z => nomatch z)) pu_c (fun _ h => h) rfl) nf_41_weights rfl) pua_nil)) (Nat.le_of_ble_eq_true rfl) wl_nil))) (g3.af _ _ ha) (g3.hand hh) (Nat.le_of_ble_eq_true rfl) fun p4 s4 h4 a4 => ?_)
  have g4 := g3.trans h4
  refine ws_seq (accL1 (G := (fun s => Af s pv (resL x0 x1 x2 x3 x4))) rfl a4 (wl_cons hG (pua_cons (pu_fldI (pu_ix (pu_var rfl (fun z => nomatch z)) pu_c (fun _ h => h) rfl) nf_42_weights rfl) pua_nil) (Nat.le_of_ble_eq_true rfl) (wl_cons hG (pua_cons (pu_fldI (pu_ix (pu_var rfl (fun z => nomatch z)) pu_c (fun _ h => h) rfl) nf_43_point rfl) (pua_cons (pu_fldI (pu_ix (pu_var rfl (fun z => nomatch z)) pu_c (fun _ h => h) rfl) nf_43_ray rfl) pua_nil)) (Nat.le_of_ble_eq_true rfl) (wl_cons hG (pua_cons (pu_fldI (pu_ix (pu_var rfl (fun z => nomatch z)) pu_c (fun _ h => h) rfl) nf_48_state rfl) (pua_cons (pu_fldI (pu_ix (pu_var rfl (fun z => nomatch z)) pu_c (fun _ h => h) rfl) nf_48_parts rfl) (pua_cons (pu_fldI (pu_ix (pu_var rfl (fun z => nomatch z)) pu_c (fun _ h => h) rfl) nf_48_low rfl) (pua_cons (pu_fldI (pu_ix (pu_var rfl (fun z => nomatch z)) pu_c (fun _ h => h) rfl) nf_48_high rfl) pua_nil)))) (Nat.le_of_ble_eq_true rfl) wl_nil))) (g4.af _ _ ha) (g4.hand hh) (Nat.le_of_ble_eq_true rfl) fun p5 s5 h5 a5 => ?_)
  have g5 := g4.trans h5
  refine ws_seq (accL1 (G := (fun s => Af s pv (resL x0 x1 x2 x3 x4))) rfl a5 (wl_cons hG (pua_cons (pu_fldI (pu_ix (pu_var rfl (fun z => nomatch z)) pu_c (fun _ h => h) rfl) nf_49_value rfl) (pua_cons (pu_fldI (pu_ix (pu_var rfl (fun z => nomatch z)) pu_c (fun _ h => h) rfl) nf_49_lot rfl) (pua_cons (pu_fldI (pu_ix (pu_var rfl (fun z => nomatch z)) pu_c (fun _ h => h) rfl) nf_49_plant rfl) (pua_cons (pu_fldI (pu_ix (pu_var rfl (fun z => nomatch z)) pu_c (fun _ h => h) rfl) nf_49_ray rfl) pua_nil)))) (Nat.le_of_ble_eq_true rfl) (wl_cons hG (pua_cons (pu_fldI (pu_ix (pu_var rfl (fun z => nomatch z)) pu_c (fun _ h => h) rfl) nf_50_low rfl) (pua_cons (pu_fldI (pu_ix (pu_var rfl (fun z => nomatch z)) pu_c (fun _ h => h) rfl) nf_50_high rfl) pua_nil)) (Nat.le_of_ble_eq_true rfl) wl_nil)) (g5.af _ _ ha) (g5.hand hh) (Nat.le_of_ble_eq_true rfl) fun p6 s6 h6 a6 => ?_)
  have g6 := g5.trans h6
  refine ws_seq (accL1 (G := (fun s => Af s pv (resL x0 x1 x2 x3 x4))) rfl a6 (wl_cons hG (pua_cons (pu_fldI (pu_ix (pu_var rfl (fun z => nomatch z)) pu_c (fun _ h => h) rfl) nf_51_lot rfl) (pua_cons (pu_fldI (pu_ix (pu_var rfl (fun z => nomatch z)) pu_c (fun _ h => h) rfl) nf_51_plant rfl) (pua_cons (pu_fldI (pu_ix (pu_var rfl (fun z => nomatch z)) pu_c (fun _ h => h) rfl) nf_51_state rfl) (pua_cons (pu_fldI (pu_ix (pu_var rfl (fun z => nomatch z)) pu_c (fun _ h => h) rfl) nf_51_side rfl) pua_nil)))) (Nat.le_of_ble_eq_true rfl) (wl_cons hG (pua_cons (pu_fldI (pu_ix (pu_var rfl (fun z => nomatch z)) pu_c (fun _ h => h) rfl) nf_52_place rfl) (pua_cons (pu_fldI (pu_ix (pu_var rfl (fun z => nomatch z)) pu_c (fun _ h => h) rfl) nf_52_side rfl) pua_nil)) (Nat.le_of_ble_eq_true rfl) wl_nil)) (g6.af _ _ ha) (g6.hand hh) (Nat.le_of_ble_eq_true rfl) fun p7 s7 h7 a7 => ?_)
  have g7 := g6.trans h7
  refine ws_seq (accL1 (G := (fun s => Af s pv (resL x0 x1 x2 x3 x4))) rfl a7 (wl_cons hG (pua_cons (pu_fldI (pu_ix (pu_var rfl (fun z => nomatch z)) pu_c (fun _ h => h) rfl) nf_53_corner rfl) (pua_cons (pu_fldI (pu_ix (pu_var rfl (fun z => nomatch z)) pu_c (fun _ h => h) rfl) nf_53_blows rfl) (pua_cons (pu_fldI (pu_ix (pu_var rfl (fun z => nomatch z)) pu_c (fun _ h => h) rfl) nf_53_weights rfl) pua_nil))) (Nat.le_of_ble_eq_true rfl) (wl_cons hG (pua_cons (pu_fldI (pu_ix (pu_var rfl (fun z => nomatch z)) pu_c (fun _ h => h) rfl) nf_58_least rfl) (pua_cons (pu_fldI (pu_ix (pu_var rfl (fun z => nomatch z)) pu_c (fun _ h => h) rfl) nf_58_greatest rfl) pua_nil)) (Nat.le_of_ble_eq_true rfl) wl_nil)) (g7.af _ _ ha) (g7.hand hh) (Nat.le_of_ble_eq_true rfl) fun p8 s8 h8 a8 => ?_)
  have g8 := g7.trans h8
  refine ws_seq (accL1 (G := (fun s => Af s pv (resL x0 x1 x2 x3 x4))) rfl a8 (wl_cons hG (pua_cons (pu_fldI (pu_ix (pu_var rfl (fun z => nomatch z)) pu_c (fun _ h => h) rfl) nf_46_begin rfl) (pua_cons (pu_fldI (pu_ix (pu_var rfl (fun z => nomatch z)) pu_c (fun _ h => h) rfl) nf_46_end rfl) (pua_cons (pu_fldI (pu_ix (pu_var rfl (fun z => nomatch z)) pu_c (fun _ h => h) rfl) nf_46_why rfl) pua_nil))) (Nat.le_of_ble_eq_true rfl) (wl_cons hG (pua_cons (pu_fldI (pu_ix (pu_var rfl (fun z => nomatch z)) pu_c (fun _ h => h) rfl) nf_59_field rfl) (pua_cons (pu_fldI (pu_ix (pu_var rfl (fun z => nomatch z)) pu_c (fun _ h => h) rfl) nf_59_size rfl) (pua_cons (pu_fldI (pu_ix (pu_var rfl (fun z => nomatch z)) pu_c (fun _ h => h) rfl) nf_59_inputs rfl) (pua_cons (pu_fldI (pu_ix (pu_var rfl (fun z => nomatch z)) pu_c (fun _ h => h) rfl) nf_59_deeds rfl) pua_nil)))) (Nat.le_of_ble_eq_true rfl) wl_nil)) (g8.af _ _ ha) (g8.hand hh) (Nat.le_of_ble_eq_true rfl) fun p9 s9 h9 a9 => ?_)
  have g9 := g8.trans h9
  exact accLR (G := (fun s => Af s pv (resL x0 x1 x2 x3 x4))) rfl a9 (wl_cons hG (pua_cons (pu_fldI (pu_ix (pu_var rfl (fun z => nomatch z)) pu_c (fun _ h => h) rfl) nf_44_box rfl) (pua_cons (pu_fldI (pu_ix (pu_var rfl (fun z => nomatch z)) pu_c (fun _ h => h) rfl) nf_44_inputs rfl) pua_nil)) (Nat.le_of_ble_eq_true rfl) wl_nil) (g9.af _ _ ha) (g9.hand hh) (Nat.le_of_ble_eq_true rfl) fun p10 s10 h10 a10 => q p10 s10 (g9.trans h10) a10
theorem sp_kinds (hc : c < 40) (hh : HandOk st) (q : ∀ p st', Go st st' → Af st' p (kindsL c) → Q (.ptr p) st') : Wx (F_law_kinds (tab K) [.err c ds]) st Q := by
  refine wx_fn (ws_seq (acc0 (G := fun _ => True) (pua_cons (pu_isD (pu_var rfl (fun z => nomatch z)) rfl (isi_ok hc (ltb rfl))) (pua_cons (pu_isD (pu_var rfl (fun z => nomatch z)) rfl (isi_ok hc (ltb rfl))) (pua_cons (pu_isD (pu_var rfl (fun z => nomatch z)) rfl (isi_ok hc (ltb rfl))) (pua_cons (pu_isD (pu_var rfl (fun z => nomatch z)) rfl (isi_ok hc (ltb rfl))) pua_nil)))) trivial hh (Nat.le_of_ble_eq_true rfl) fun p1 s1 h1 a1 => ?_))
  have g1 := h1
  refine ws_seq (acc1 (G := fun _ => True) rfl a1 (pua_cons (pu_isD (pu_var rfl (fun z => nomatch z)) rfl (isi_ok hc (ltb rfl))) (pua_cons (pu_isD (pu_var rfl (fun z => nomatch z)) rfl (isi_ok hc (ltb rfl))) (pua_cons (pu_isD (pu_var rfl (fun z => nomatch z)) rfl (isi_ok hc (ltb rfl))) (pua_cons (pu_isD (pu_var rfl (fun z => nomatch z)) rfl (isi_ok hc (ltb rfl))) pua_nil)))) trivial (g1.hand hh) (Nat.le_of_ble_eq_true rfl) fun p2 s2 h2 a2 => ?_)
  have g2 := g1.trans h2
  refine ws_seq (acc1 (G := fun _ => True) rfl a2 (pua_cons (pu_isD (pu_var rfl (fun z => nomatch z)) rfl (isi_ok hc (ltb rfl))) (pua_cons (pu_isD (pu_var rfl (fun z => nomatch z)) rfl (isi_ok hc (ltb rfl))) (pua_cons (pu_isD (pu_var rfl (fun z => nomatch z)) rfl (isi_ok hc (ltb rfl))) (pua_cons (pu_isD (pu_var rfl (fun z => nomatch z)) rfl (isi_ok hc (ltb rfl))) pua_nil)))) trivial (g2.hand hh) (Nat.le_of_ble_eq_true rfl) fun p3 s3 h3 a3 => ?_)
  have g3 := g2.trans h3
  refine ws_seq (acc1 (G := fun _ => True) rfl a3 (pua_cons (pu_isD (pu_var rfl (fun z => nomatch z)) rfl (isi_ok hc (ltb rfl))) (pua_cons (pu_isD (pu_var rfl (fun z => nomatch z)) rfl (isi_ok hc (ltb rfl))) (pua_cons (pu_isD (pu_var rfl (fun z => nomatch z)) rfl (isi_ok hc (ltb rfl))) (pua_cons (pu_isD (pu_var rfl (fun z => nomatch z)) rfl (isi_ok hc (ltb rfl))) pua_nil)))) trivial (g3.hand hh) (Nat.le_of_ble_eq_true rfl) fun p4 s4 h4 a4 => ?_)
  have g4 := g3.trans h4
  refine ws_seq (acc1 (G := fun _ => True) rfl a4 (pua_cons (pu_isD (pu_var rfl (fun z => nomatch z)) rfl (isi_ok hc (ltb rfl))) (pua_cons (pu_isD (pu_var rfl (fun z => nomatch z)) rfl (isi_ok hc (ltb rfl))) (pua_cons (pu_isD (pu_var rfl (fun z => nomatch z)) rfl (isi_ok hc (ltb rfl))) (pua_cons (pu_isD (pu_var rfl (fun z => nomatch z)) rfl (isi_ok hc (ltb rfl))) pua_nil)))) trivial (g4.hand hh) (Nat.le_of_ble_eq_true rfl) fun p5 s5 h5 a5 => ?_)
  have g5 := g4.trans h5
  refine ws_seq (acc1 (G := fun _ => True) rfl a5 (pua_cons (pu_isD (pu_var rfl (fun z => nomatch z)) rfl (isi_ok hc (ltb rfl))) (pua_cons (pu_isD (pu_var rfl (fun z => nomatch z)) rfl (isi_ok hc (ltb rfl))) (pua_cons (pu_isD (pu_var rfl (fun z => nomatch z)) rfl (isi_ok hc (ltb rfl))) (pua_cons (pu_isD (pu_var rfl (fun z => nomatch z)) rfl (isi_ok hc (ltb rfl))) pua_nil)))) trivial (g5.hand hh) (Nat.le_of_ble_eq_true rfl) fun p6 s6 h6 a6 => ?_)
  have g6 := g5.trans h6
  refine ws_seq (acc1 (G := fun _ => True) rfl a6 (pua_cons (pu_isD (pu_var rfl (fun z => nomatch z)) rfl (isi_ok hc (ltb rfl))) (pua_cons (pu_isD (pu_var rfl (fun z => nomatch z)) rfl (isi_ok hc (ltb rfl))) (pua_cons (pu_isD (pu_var rfl (fun z => nomatch z)) rfl (isi_ok hc (ltb rfl))) pua_nil))) trivial (g6.hand hh) (Nat.le_of_ble_eq_true rfl) fun p7 s7 h7 a7 => ?_)
  have g7 := g6.trans h7
  refine ws_seq (acc1 (G := fun _ => True) rfl a7 (pua_cons (pu_isD (pu_var rfl (fun z => nomatch z)) rfl (isi_ok hc (ltb rfl))) (pua_cons (pu_isD (pu_var rfl (fun z => nomatch z)) rfl (isi_ok hc (ltb rfl))) (pua_cons (pu_isD (pu_var rfl (fun z => nomatch z)) rfl (isi_ok hc (ltb rfl))) (pua_cons (pu_isD (pu_var rfl (fun z => nomatch z)) rfl (isi_ok hc (ltb rfl))) pua_nil)))) trivial (g7.hand hh) (Nat.le_of_ble_eq_true rfl) fun p8 s8 h8 a8 => ?_)
  have g8 := g7.trans h8
  refine ws_seq (acc1 (G := fun _ => True) rfl a8 (pua_cons (pu_isD (pu_var rfl (fun z => nomatch z)) rfl (isi_ok hc (ltb rfl))) (pua_cons (pu_isD (pu_var rfl (fun z => nomatch z)) rfl (isi_ok hc (ltb rfl))) (pua_cons (pu_isD (pu_var rfl (fun z => nomatch z)) rfl (isi_ok hc (ltb rfl))) (pua_cons (pu_isD (pu_var rfl (fun z => nomatch z)) rfl (isi_ok hc (ltb rfl))) pua_nil)))) trivial (g8.hand hh) (Nat.le_of_ble_eq_true rfl) fun p9 s9 h9 a9 => ?_)
  have g9 := g8.trans h9
  exact accR (G := fun _ => True) rfl a9 (pua_cons (pu_isD (pu_var rfl (fun z => nomatch z)) rfl (isi_ok hc (ltb rfl))) (pua_cons (pu_isD (pu_var rfl (fun z => nomatch z)) rfl (isi_ok hc (ltb rfl))) (pua_cons (pu_isD (pu_var rfl (fun z => nomatch z)) rfl (isi_ok hc (ltb rfl))) (pua_cons (pu_isD (pu_var rfl (fun z => nomatch z)) rfl (isi_ok hc (ltb rfl))) pua_nil)))) trivial (g9.hand hh) (Nat.le_of_ble_eq_true rfl) fun p10 s10 h10 a10 => q p10 s10 (g9.trans h10) a10
end
end Pl
/-! Pl3: what is drawn. -/
namespace Pl
open PySem PySem.Spec PyProof.Rows L2 Vm Wk
section
variable {K : PySem.W.Frag} {st : Sto} {Q : D → Sto → Prop}
theorem then_nx {b : SF} {e : Vm.Env} {QS : SR → Sto → Prop} (h : Ws b e st QS) : thenS b QS (.nx e) st := h
theorem then_rt {b : SF} {d : D} {QS : SR → Sto → Prop} (h : QS (.rt d) st) : thenS b QS (.rt d) st := h
theorem small_mul {i j : Int} (h : -(2 ^ 64) < j ∧ j < 2 ^ 64) : mulOk i j = true := by
  unfold mulOk
  rw [Bool.or_eq_true, Bool.or_eq_true]
  exact .inr (.inr (decide_eq_true h))
theorem wx_lt {a b : Int} (h : Q (.bl (decide (a < b))) st) : Wx (gLt (.int a) (.int b)) st Q := wx_cmp h
theorem wx_gt {a b : Int} (h : Q (.bl (decide (b < a))) st) : Wx (gGt (.int a) (.int b)) st Q := wx_cmp h
theorem sp_mix {a b : Int} (q : ∀ r : Int, Q (.int r) st) : Wx (F_law_mix (tab K) [.int a, .int b]) st Q := by
  refine wx_fn (ws_seq ?_)
  repeat (first
    | with_reducible refine wx_op ?_ | with_reducible refine wx_cb ?_ | with_reducible refine wx_cons ?_ | with_reducible refine wx_nil ?_ | with_reducible refine wx_c ?_ | with_reducible refine wx_var rfl (fun z => nomatch z) ?_
    | with_reducible refine wx_addI ?_ | with_reducible refine wx_sub ?_ | with_reducible refine wx_int ?_ | with_reducible refine wx_mul (small_mul (by decide)) ?_ | with_reducible refine wx_mul (small_mul (by omega)) ?_
    | with_reducible refine wx_mod (by first | decide | assumption | omega) ?_ | with_reducible refine wx_div (by first | decide | assumption) ?_ | with_reducible refine wx_pow (by decide) ?_ | with_reducible refine wx_cmp ?_ | with_reducible refine wx_lt ?_ | with_reducible refine wx_gt ?_
     | with_reducible refine ws_asg ?_ | with_reducible refine ws_ret ?_ | with_reducible refine wx_fB ?_ | with_reducible refine wx_and ?_ | with_reducible refine wx_or ?_ | with_reducible refine wx_not ?_ | with_reducible refine ws_if ?_)
  generalize h1 : (a * 69621 + b * 40692 + 97) % 2147483647 = once
  have b1 : 0 ≤ once ∧ once < 2147483647 := by omega
  refine then_nx (ws_seq ?_)
  repeat (first
    | with_reducible refine wx_op ?_ | with_reducible refine wx_cb ?_ | with_reducible refine wx_cons ?_ | with_reducible refine wx_nil ?_ | with_reducible refine wx_c ?_ | with_reducible refine wx_var rfl (fun z => nomatch z) ?_
    | with_reducible refine wx_addI ?_ | with_reducible refine wx_sub ?_ | with_reducible refine wx_int ?_ | with_reducible refine wx_mul (small_mul (by decide)) ?_ | with_reducible refine wx_mul (small_mul (by omega)) ?_
    | with_reducible refine wx_mod (by first | decide | assumption | omega) ?_ | with_reducible refine wx_div (by first | decide | assumption) ?_ | with_reducible refine wx_pow (by decide) ?_ | with_reducible refine wx_cmp ?_ | with_reducible refine wx_lt ?_ | with_reducible refine wx_gt ?_
     | with_reducible refine ws_asg ?_ | with_reducible refine ws_ret ?_ | with_reducible refine wx_fB ?_ | with_reducible refine wx_and ?_ | with_reducible refine wx_or ?_ | with_reducible refine wx_not ?_ | with_reducible refine ws_if ?_)
  generalize h2 : (once * once + once / 53 * 16807 + b * 48271) % 2147483399 = twice
  have b2 : 0 ≤ twice ∧ twice < 2147483399 := by omega
  refine then_nx ?_
  repeat (first
    | with_reducible refine wx_op ?_ | with_reducible refine wx_cb ?_ | with_reducible refine wx_cons ?_ | with_reducible refine wx_nil ?_ | with_reducible refine wx_c ?_ | with_reducible refine wx_var rfl (fun z => nomatch z) ?_
    | with_reducible refine wx_addI ?_ | with_reducible refine wx_sub ?_ | with_reducible refine wx_int ?_ | with_reducible refine wx_mul (small_mul (by decide)) ?_ | with_reducible refine wx_mul (small_mul (by omega)) ?_
    | with_reducible refine wx_mod (by first | decide | assumption | omega) ?_ | with_reducible refine wx_div (by first | decide | assumption) ?_ | with_reducible refine wx_pow (by decide) ?_ | with_reducible refine wx_cmp ?_ | with_reducible refine wx_lt ?_ | with_reducible refine wx_gt ?_
     | with_reducible refine ws_asg ?_ | with_reducible refine ws_ret ?_ | with_reducible refine wx_fB ?_ | with_reducible refine wx_and ?_ | with_reducible refine wx_or ?_ | with_reducible refine wx_not ?_ | with_reducible refine ws_if ?_)
  exact q _
def setH (st : Sto) (i r t : Int) : Sto := { st with l := st.l.set 1 [.ptr 0, .int i, .int r, .int t] }
theorem setH_1 (hh : 1 < st.l.length) {i r t : Int} : At (setH st i r t) 1 [.ptr 0, .int i, .int r, .int t] := by
  unfold At setH
  rw [List.getElem?_set_self hh]
theorem setH_af {i r t : Int} {p : Nat} {ds : List D} (h : Af st p ds) : Af (setH st i r t) p ds := ⟨h.1, by
  unfold At setH
  rw [List.getElem?_set_ne (Ne.symm h.1)]
  exact h.2⟩
theorem setH_go (hh : HandOk st) {i r t : Int} (hi : 0 ≤ i) : Go st (setH st i r t) := by
  refine ⟨fun p ds h => setH_af h, fun ⟨cells, i0, r0, t0, h0, h1, h2⟩ => ⟨cells, i, r, t, hi, (setH_af ⟨by decide, h1⟩).2, setH_1 hh.lt⟩, ?_⟩
  show st.l.length ≤ (st.l.set 1 _).length
  rw [List.length_set]
  exact Nat.le_refl _
theorem eq_int {neg : Bool} {a b : Int} : eqPD neg st (.int a) (.int b) = some (if neg then !(a == b) else (a == b)) := by
  rw [eq_of ((pd_int a).rd st (by decide)) ((pd_int b).rd st (by decide))]
  simp only [PyData.eqv]
theorem sp_draw {many : Int} (hm : 0 < many) (hm2 : divOk many = true) (hh : HandOk st) (q : ∀ v st', 0 ≤ v → v < many → Go st st' → Q (.int v) st') : Wx (F_law_draw (tab K) [.ptr 1, .int many]) st Q := by
  obtain ⟨cells, i, r, t, h0, h1, h2⟩ := id hh
  have hv : ∀ z : Int, 0 ≤ z % many ∧ z % many < many := fun z => ⟨Int.emod_nonneg _ (by omega), Int.emod_lt_of_pos _ hm⟩
  -- the last part, from any hand
  have last : ∀ (st1 : Sto) (c2 c3 : Option D) (i r t : Int), Go st st1 → HandOk st1 → 0 ≤ i → At st1 1 [.ptr 0, .int i, .int r, .int t] → Ws (sSeq (sIf (fB (fOp gGt (fOp gIx (fVar 0) (fC (.int 2))) (fC (.int 0))))
 (sSeq (sAsg (fOp gIx (fVar 0) (fC (.int 2))) (gN 3))
 (sSeq (sSet (fVar 0) (fC (.int 2)) (fOp gDiv (fVar 3) (fVar 1)))
 (sRet (fOp gMod (fCB gInt (fCons (fVar 3) fNil)) (fVar 1))))) sPass)
 (sSeq (sSet (fVar 0) (fC (.int 3)) (fOp gMod (fCB gInt (fCons (fOp gAdd (fOp gIx (fVar 0) (fC (.int 3))) (fC (.int 1))) fNil)) (fC (.int 2147483629))))
 (sRet (fOp gMod (fCB gInt (fCons (fCB (gCall 2 (F_law_mix (tab K))) (fCons (fOp gIx (fVar 0) (fC (.int 3))) (fCons (fOp gIx (fVar 0) (fC (.int 1))) fNil))) fNil)) (fVar 1))))) [some (.ptr 1), some (.int many), c2, c3] st1 fun r st1 => match r with
    | .nx _ => Q .non st1
    | .rt d => Q d st1
    | _ => False := by
    intro st1 c2 c3 i r t g hh1 hi h2
    repeat (first
    | with_reducible refine wx_op ?_ | with_reducible refine wx_cb ?_ | with_reducible refine wx_cons ?_ | with_reducible refine wx_nil ?_ | with_reducible refine wx_c ?_ | with_reducible refine wx_var rfl (fun z => nomatch z) ?_
    | with_reducible refine wx_addI ?_ | with_reducible refine wx_sub ?_ | with_reducible refine wx_int ?_ | with_reducible refine wx_mul (small_mul (by decide)) ?_ | with_reducible refine wx_mul (small_mul (by omega)) ?_
    | with_reducible refine wx_mod (by first | decide | assumption | omega) ?_ | with_reducible refine wx_div (by first | decide | assumption) ?_ | with_reducible refine wx_pow (by decide) ?_ | with_reducible refine wx_cmp ?_ | with_reducible refine wx_lt ?_ | with_reducible refine wx_gt ?_
    | with_reducible refine ws_seq ?_ | with_reducible refine then_nx ?_ | with_reducible refine then_rt ?_ | with_reducible refine ws_asg ?_ | with_reducible refine ws_ret ?_ | with_reducible refine wx_fB ?_ | with_reducible refine wx_and ?_ | with_reducible refine wx_or ?_ | with_reducible refine wx_not ?_ | with_reducible refine ws_if ?_)
    refine wx_ixL h2 rfl ?_
    repeat (first
    | with_reducible refine wx_op ?_ | with_reducible refine wx_cb ?_ | with_reducible refine wx_cons ?_ | with_reducible refine wx_nil ?_ | with_reducible refine wx_c ?_ | with_reducible refine wx_var rfl (fun z => nomatch z) ?_
    | with_reducible refine wx_addI ?_ | with_reducible refine wx_sub ?_ | with_reducible refine wx_int ?_ | with_reducible refine wx_mul (small_mul (by decide)) ?_ | with_reducible refine wx_mul (small_mul (by omega)) ?_
    | with_reducible refine wx_mod (by first | decide | assumption | omega) ?_ | with_reducible refine wx_div (by first | decide | assumption) ?_ | with_reducible refine wx_pow (by decide) ?_ | with_reducible refine wx_cmp ?_ | with_reducible refine wx_lt ?_ | with_reducible refine wx_gt ?_
    | with_reducible refine ws_seq ?_ | with_reducible refine then_nx ?_ | with_reducible refine then_rt ?_ | with_reducible refine ws_asg ?_ | with_reducible refine ws_ret ?_ | with_reducible refine wx_fB ?_ | with_reducible refine wx_and ?_ | with_reducible refine wx_or ?_ | with_reducible refine wx_not ?_ | with_reducible refine ws_if ?_)
    refine ⟨_, rfl, ?_⟩
    by_cases hr : 0 < r
    · rw [if_pos (decide_eq_true hr)]
      repeat (first
    | with_reducible refine wx_op ?_ | with_reducible refine wx_cb ?_ | with_reducible refine wx_cons ?_ | with_reducible refine wx_nil ?_ | with_reducible refine wx_c ?_ | with_reducible refine wx_var rfl (fun z => nomatch z) ?_
    | with_reducible refine wx_addI ?_ | with_reducible refine wx_sub ?_ | with_reducible refine wx_int ?_ | with_reducible refine wx_mul (small_mul (by decide)) ?_ | with_reducible refine wx_mul (small_mul (by omega)) ?_
    | with_reducible refine wx_mod (by first | decide | assumption | omega) ?_ | with_reducible refine wx_div (by first | decide | assumption) ?_ | with_reducible refine wx_pow (by decide) ?_ | with_reducible refine wx_cmp ?_ | with_reducible refine wx_lt ?_ | with_reducible refine wx_gt ?_
    | with_reducible refine ws_seq ?_ | with_reducible refine then_nx ?_ | with_reducible refine then_rt ?_ | with_reducible refine ws_asg ?_ | with_reducible refine ws_ret ?_ | with_reducible refine wx_fB ?_ | with_reducible refine wx_and ?_ | with_reducible refine wx_or ?_ | with_reducible refine wx_not ?_ | with_reducible refine ws_if ?_)
      refine wx_ixL h2 rfl ?_
      repeat (first
    | with_reducible refine wx_op ?_ | with_reducible refine wx_cb ?_ | with_reducible refine wx_cons ?_ | with_reducible refine wx_nil ?_ | with_reducible refine wx_c ?_ | with_reducible refine wx_var rfl (fun z => nomatch z) ?_
    | with_reducible refine wx_addI ?_ | with_reducible refine wx_sub ?_ | with_reducible refine wx_int ?_ | with_reducible refine wx_mul (small_mul (by decide)) ?_ | with_reducible refine wx_mul (small_mul (by omega)) ?_
    | with_reducible refine wx_mod (by first | decide | assumption | omega) ?_ | with_reducible refine wx_div (by first | decide | assumption) ?_ | with_reducible refine wx_pow (by decide) ?_ | with_reducible refine wx_cmp ?_ | with_reducible refine wx_lt ?_ | with_reducible refine wx_gt ?_
    | with_reducible refine ws_seq ?_ | with_reducible refine then_nx ?_ | with_reducible refine then_rt ?_ | with_reducible refine ws_asg ?_ | with_reducible refine ws_ret ?_ | with_reducible refine wx_fB ?_ | with_reducible refine wx_and ?_ | with_reducible refine wx_or ?_ | with_reducible refine wx_not ?_ | with_reducible refine ws_if ?_)
      refine ws_set (n := 1) (k := 2) (m := 2) (ds := [.ptr 0, .int i, .int r, .int t]) ?_
      repeat (first
    | with_reducible refine wx_op ?_ | with_reducible refine wx_cb ?_ | with_reducible refine wx_cons ?_ | with_reducible refine wx_nil ?_ | with_reducible refine wx_c ?_ | with_reducible refine wx_var rfl (fun z => nomatch z) ?_
    | with_reducible refine wx_addI ?_ | with_reducible refine wx_sub ?_ | with_reducible refine wx_int ?_ | with_reducible refine wx_mul (small_mul (by decide)) ?_ | with_reducible refine wx_mul (small_mul (by omega)) ?_
    | with_reducible refine wx_mod (by first | decide | assumption | omega) ?_ | with_reducible refine wx_div (by first | decide | assumption) ?_ | with_reducible refine wx_pow (by decide) ?_ | with_reducible refine wx_cmp ?_ | with_reducible refine wx_lt ?_ | with_reducible refine wx_gt ?_
    | with_reducible refine ws_seq ?_ | with_reducible refine then_nx ?_ | with_reducible refine then_rt ?_ | with_reducible refine ws_asg ?_ | with_reducible refine ws_ret ?_ | with_reducible refine wx_fB ?_ | with_reducible refine wx_and ?_ | with_reducible refine wx_or ?_ | with_reducible refine wx_not ?_ | with_reducible refine ws_if ?_)
      refine ⟨rfl, ?_⟩
      repeat (first
    | with_reducible refine wx_op ?_ | with_reducible refine wx_cb ?_ | with_reducible refine wx_cons ?_ | with_reducible refine wx_nil ?_ | with_reducible refine wx_c ?_ | with_reducible refine wx_var rfl (fun z => nomatch z) ?_
    | with_reducible refine wx_addI ?_ | with_reducible refine wx_sub ?_ | with_reducible refine wx_int ?_ | with_reducible refine wx_mul (small_mul (by decide)) ?_ | with_reducible refine wx_mul (small_mul (by omega)) ?_
    | with_reducible refine wx_mod (by first | decide | assumption | omega) ?_ | with_reducible refine wx_div (by first | decide | assumption) ?_ | with_reducible refine wx_pow (by decide) ?_ | with_reducible refine wx_cmp ?_ | with_reducible refine wx_lt ?_ | with_reducible refine wx_gt ?_
    | with_reducible refine ws_seq ?_ | with_reducible refine then_nx ?_ | with_reducible refine then_rt ?_ | with_reducible refine ws_asg ?_ | with_reducible refine ws_ret ?_ | with_reducible refine wx_fB ?_ | with_reducible refine wx_and ?_ | with_reducible refine wx_or ?_ | with_reducible refine wx_not ?_ | with_reducible refine ws_if ?_)
      refine ⟨rfl, h2, rfl, ?_⟩
      repeat (first
    | with_reducible refine wx_op ?_ | with_reducible refine wx_cb ?_ | with_reducible refine wx_cons ?_ | with_reducible refine wx_nil ?_ | with_reducible refine wx_c ?_ | with_reducible refine wx_var rfl (fun z => nomatch z) ?_
    | with_reducible refine wx_addI ?_ | with_reducible refine wx_sub ?_ | with_reducible refine wx_int ?_ | with_reducible refine wx_mul (small_mul (by decide)) ?_ | with_reducible refine wx_mul (small_mul (by omega)) ?_
    | with_reducible refine wx_mod (by first | decide | assumption | omega) ?_ | with_reducible refine wx_div (by first | decide | assumption) ?_ | with_reducible refine wx_pow (by decide) ?_ | with_reducible refine wx_cmp ?_ | with_reducible refine wx_lt ?_ | with_reducible refine wx_gt ?_
    | with_reducible refine ws_seq ?_ | with_reducible refine then_nx ?_ | with_reducible refine then_rt ?_ | with_reducible refine ws_asg ?_ | with_reducible refine ws_ret ?_ | with_reducible refine wx_fB ?_ | with_reducible refine wx_and ?_ | with_reducible refine wx_or ?_ | with_reducible refine wx_not ?_ | with_reducible refine ws_if ?_)
      exact q _ _ (hv _).1 (hv _).2 (g.trans (setH_go hh1 hi))
    · rw [if_neg (by simpa using hr)]
      refine ws_pass ?_
      repeat (first
    | with_reducible refine wx_op ?_ | with_reducible refine wx_cb ?_ | with_reducible refine wx_cons ?_ | with_reducible refine wx_nil ?_ | with_reducible refine wx_c ?_ | with_reducible refine wx_var rfl (fun z => nomatch z) ?_
    | with_reducible refine wx_addI ?_ | with_reducible refine wx_sub ?_ | with_reducible refine wx_int ?_ | with_reducible refine wx_mul (small_mul (by decide)) ?_ | with_reducible refine wx_mul (small_mul (by omega)) ?_
    | with_reducible refine wx_mod (by first | decide | assumption | omega) ?_ | with_reducible refine wx_div (by first | decide | assumption) ?_ | with_reducible refine wx_pow (by decide) ?_ | with_reducible refine wx_cmp ?_ | with_reducible refine wx_lt ?_ | with_reducible refine wx_gt ?_
    | with_reducible refine ws_seq ?_ | with_reducible refine then_nx ?_ | with_reducible refine then_rt ?_ | with_reducible refine ws_asg ?_ | with_reducible refine ws_ret ?_ | with_reducible refine wx_fB ?_ | with_reducible refine wx_and ?_ | with_reducible refine wx_or ?_ | with_reducible refine wx_not ?_ | with_reducible refine ws_if ?_)
      refine ws_set (n := 1) (k := 3) (m := 3) (ds := [.ptr 0, .int i, .int r, .int t]) ?_
      repeat (first
    | with_reducible refine wx_op ?_ | with_reducible refine wx_cb ?_ | with_reducible refine wx_cons ?_ | with_reducible refine wx_nil ?_ | with_reducible refine wx_c ?_ | with_reducible refine wx_var rfl (fun z => nomatch z) ?_
    | with_reducible refine wx_addI ?_ | with_reducible refine wx_sub ?_ | with_reducible refine wx_int ?_ | with_reducible refine wx_mul (small_mul (by decide)) ?_ | with_reducible refine wx_mul (small_mul (by omega)) ?_
    | with_reducible refine wx_mod (by first | decide | assumption | omega) ?_ | with_reducible refine wx_div (by first | decide | assumption) ?_ | with_reducible refine wx_pow (by decide) ?_ | with_reducible refine wx_cmp ?_ | with_reducible refine wx_lt ?_ | with_reducible refine wx_gt ?_
    | with_reducible refine ws_seq ?_ | with_reducible refine then_nx ?_ | with_reducible refine then_rt ?_ | with_reducible refine ws_asg ?_ | with_reducible refine ws_ret ?_ | with_reducible refine wx_fB ?_ | with_reducible refine wx_and ?_ | with_reducible refine wx_or ?_ | with_reducible refine wx_not ?_ | with_reducible refine ws_if ?_)
      refine wx_ixL h2 rfl ?_
      repeat (first
    | with_reducible refine wx_op ?_ | with_reducible refine wx_cb ?_ | with_reducible refine wx_cons ?_ | with_reducible refine wx_nil ?_ | with_reducible refine wx_c ?_ | with_reducible refine wx_var rfl (fun z => nomatch z) ?_
    | with_reducible refine wx_addI ?_ | with_reducible refine wx_sub ?_ | with_reducible refine wx_int ?_ | with_reducible refine wx_mul (small_mul (by decide)) ?_ | with_reducible refine wx_mul (small_mul (by omega)) ?_
    | with_reducible refine wx_mod (by first | decide | assumption | omega) ?_ | with_reducible refine wx_div (by first | decide | assumption) ?_ | with_reducible refine wx_pow (by decide) ?_ | with_reducible refine wx_cmp ?_ | with_reducible refine wx_lt ?_ | with_reducible refine wx_gt ?_
    | with_reducible refine ws_seq ?_ | with_reducible refine then_nx ?_ | with_reducible refine then_rt ?_ | with_reducible refine ws_asg ?_ | with_reducible refine ws_ret ?_ | with_reducible refine wx_fB ?_ | with_reducible refine wx_and ?_ | with_reducible refine wx_or ?_ | with_reducible refine wx_not ?_ | with_reducible refine ws_if ?_)
      refine ⟨rfl, ?_⟩
      repeat (first
    | with_reducible refine wx_op ?_ | with_reducible refine wx_cb ?_ | with_reducible refine wx_cons ?_ | with_reducible refine wx_nil ?_ | with_reducible refine wx_c ?_ | with_reducible refine wx_var rfl (fun z => nomatch z) ?_
    | with_reducible refine wx_addI ?_ | with_reducible refine wx_sub ?_ | with_reducible refine wx_int ?_ | with_reducible refine wx_mul (small_mul (by decide)) ?_ | with_reducible refine wx_mul (small_mul (by omega)) ?_
    | with_reducible refine wx_mod (by first | decide | assumption | omega) ?_ | with_reducible refine wx_div (by first | decide | assumption) ?_ | with_reducible refine wx_pow (by decide) ?_ | with_reducible refine wx_cmp ?_ | with_reducible refine wx_lt ?_ | with_reducible refine wx_gt ?_
    | with_reducible refine ws_seq ?_ | with_reducible refine then_nx ?_ | with_reducible refine then_rt ?_ | with_reducible refine ws_asg ?_ | with_reducible refine ws_ret ?_ | with_reducible refine wx_fB ?_ | with_reducible refine wx_and ?_ | with_reducible refine wx_or ?_ | with_reducible refine wx_not ?_ | with_reducible refine ws_if ?_)
      refine ⟨rfl, h2, rfl, ?_⟩
      have g2 := setH_go hh1 (r := r) (t := (t + 1) % 2147483629) hi
      have h3 : At (setH st1 i r ((t + 1) % 2147483629)) 1 [.ptr 0, .int i, .int r, .int ((t + 1) % 2147483629)] := setH_1 hh1.lt
      repeat (first
    | with_reducible refine wx_op ?_ | with_reducible refine wx_cb ?_ | with_reducible refine wx_cons ?_ | with_reducible refine wx_nil ?_ | with_reducible refine wx_c ?_ | with_reducible refine wx_var rfl (fun z => nomatch z) ?_
    | with_reducible refine wx_addI ?_ | with_reducible refine wx_sub ?_ | with_reducible refine wx_int ?_ | with_reducible refine wx_mul (small_mul (by decide)) ?_ | with_reducible refine wx_mul (small_mul (by omega)) ?_
    | with_reducible refine wx_mod (by first | decide | assumption | omega) ?_ | with_reducible refine wx_div (by first | decide | assumption) ?_ | with_reducible refine wx_pow (by decide) ?_ | with_reducible refine wx_cmp ?_ | with_reducible refine wx_lt ?_ | with_reducible refine wx_gt ?_
    | with_reducible refine ws_seq ?_ | with_reducible refine then_nx ?_ | with_reducible refine then_rt ?_ | with_reducible refine ws_asg ?_ | with_reducible refine ws_ret ?_ | with_reducible refine wx_fB ?_ | with_reducible refine wx_and ?_ | with_reducible refine wx_or ?_ | with_reducible refine wx_not ?_ | with_reducible refine ws_if ?_)
      refine wx_ixL h3 rfl ?_
      repeat (first
    | with_reducible refine wx_op ?_ | with_reducible refine wx_cb ?_ | with_reducible refine wx_cons ?_ | with_reducible refine wx_nil ?_ | with_reducible refine wx_c ?_ | with_reducible refine wx_var rfl (fun z => nomatch z) ?_
    | with_reducible refine wx_addI ?_ | with_reducible refine wx_sub ?_ | with_reducible refine wx_int ?_ | with_reducible refine wx_mul (small_mul (by decide)) ?_ | with_reducible refine wx_mul (small_mul (by omega)) ?_
    | with_reducible refine wx_mod (by first | decide | assumption | omega) ?_ | with_reducible refine wx_div (by first | decide | assumption) ?_ | with_reducible refine wx_pow (by decide) ?_ | with_reducible refine wx_cmp ?_ | with_reducible refine wx_lt ?_ | with_reducible refine wx_gt ?_
    | with_reducible refine ws_seq ?_ | with_reducible refine then_nx ?_ | with_reducible refine then_rt ?_ | with_reducible refine ws_asg ?_ | with_reducible refine ws_ret ?_ | with_reducible refine wx_fB ?_ | with_reducible refine wx_and ?_ | with_reducible refine wx_or ?_ | with_reducible refine wx_not ?_ | with_reducible refine ws_if ?_)
      refine wx_ixL h3 rfl ?_
      repeat (first
    | with_reducible refine wx_op ?_ | with_reducible refine wx_cb ?_ | with_reducible refine wx_cons ?_ | with_reducible refine wx_nil ?_ | with_reducible refine wx_c ?_ | with_reducible refine wx_var rfl (fun z => nomatch z) ?_
    | with_reducible refine wx_addI ?_ | with_reducible refine wx_sub ?_ | with_reducible refine wx_int ?_ | with_reducible refine wx_mul (small_mul (by decide)) ?_ | with_reducible refine wx_mul (small_mul (by omega)) ?_
    | with_reducible refine wx_mod (by first | decide | assumption | omega) ?_ | with_reducible refine wx_div (by first | decide | assumption) ?_ | with_reducible refine wx_pow (by decide) ?_ | with_reducible refine wx_cmp ?_ | with_reducible refine wx_lt ?_ | with_reducible refine wx_gt ?_
    | with_reducible refine ws_seq ?_ | with_reducible refine then_nx ?_ | with_reducible refine then_rt ?_ | with_reducible refine ws_asg ?_ | with_reducible refine ws_ret ?_ | with_reducible refine wx_fB ?_ | with_reducible refine wx_and ?_ | with_reducible refine wx_or ?_ | with_reducible refine wx_not ?_ | with_reducible refine ws_if ?_)
      refine wx_call rfl (sp_mix fun z => ?_)
      repeat (first
    | with_reducible refine wx_op ?_ | with_reducible refine wx_cb ?_ | with_reducible refine wx_cons ?_ | with_reducible refine wx_nil ?_ | with_reducible refine wx_c ?_ | with_reducible refine wx_var rfl (fun z => nomatch z) ?_
    | with_reducible refine wx_addI ?_ | with_reducible refine wx_sub ?_ | with_reducible refine wx_int ?_ | with_reducible refine wx_mul (small_mul (by decide)) ?_ | with_reducible refine wx_mul (small_mul (by omega)) ?_
    | with_reducible refine wx_mod (by first | decide | assumption | omega) ?_ | with_reducible refine wx_div (by first | decide | assumption) ?_ | with_reducible refine wx_pow (by decide) ?_ | with_reducible refine wx_cmp ?_ | with_reducible refine wx_lt ?_ | with_reducible refine wx_gt ?_
    | with_reducible refine ws_seq ?_ | with_reducible refine then_nx ?_ | with_reducible refine then_rt ?_ | with_reducible refine ws_asg ?_ | with_reducible refine ws_ret ?_ | with_reducible refine wx_fB ?_ | with_reducible refine wx_and ?_ | with_reducible refine wx_or ?_ | with_reducible refine wx_not ?_ | with_reducible refine ws_if ?_)
      exact q _ _ (hv _).1 (hv _).2 (g.trans g2)
  refine wx_fn (ws_seq ?_)
  repeat (first
    | with_reducible refine wx_op ?_ | with_reducible refine wx_cb ?_ | with_reducible refine wx_cons ?_ | with_reducible refine wx_nil ?_ | with_reducible refine wx_c ?_ | with_reducible refine wx_var rfl (fun z => nomatch z) ?_
    | with_reducible refine wx_addI ?_ | with_reducible refine wx_sub ?_ | with_reducible refine wx_int ?_ | with_reducible refine wx_mul (small_mul (by decide)) ?_ | with_reducible refine wx_mul (small_mul (by omega)) ?_
    | with_reducible refine wx_mod (by first | decide | assumption | omega) ?_ | with_reducible refine wx_div (by first | decide | assumption) ?_ | with_reducible refine wx_pow (by decide) ?_ | with_reducible refine wx_cmp ?_ | with_reducible refine wx_lt ?_ | with_reducible refine wx_gt ?_
    | with_reducible refine ws_seq ?_ | with_reducible refine then_nx ?_ | with_reducible refine then_rt ?_ | with_reducible refine ws_asg ?_ | with_reducible refine ws_ret ?_ | with_reducible refine wx_fB ?_ | with_reducible refine wx_and ?_ | with_reducible refine wx_or ?_ | with_reducible refine wx_not ?_ | with_reducible refine ws_if ?_)
  refine wx_ixL h2 rfl ?_
  repeat (first
    | with_reducible refine wx_op ?_ | with_reducible refine wx_cb ?_ | with_reducible refine wx_cons ?_ | with_reducible refine wx_nil ?_ | with_reducible refine wx_c ?_ | with_reducible refine wx_var rfl (fun z => nomatch z) ?_
    | with_reducible refine wx_addI ?_ | with_reducible refine wx_sub ?_ | with_reducible refine wx_int ?_ | with_reducible refine wx_mul (small_mul (by decide)) ?_ | with_reducible refine wx_mul (small_mul (by omega)) ?_
    | with_reducible refine wx_mod (by first | decide | assumption | omega) ?_ | with_reducible refine wx_div (by first | decide | assumption) ?_ | with_reducible refine wx_pow (by decide) ?_ | with_reducible refine wx_cmp ?_ | with_reducible refine wx_lt ?_ | with_reducible refine wx_gt ?_
    | with_reducible refine ws_seq ?_ | with_reducible refine then_nx ?_ | with_reducible refine then_rt ?_ | with_reducible refine ws_asg ?_ | with_reducible refine ws_ret ?_ | with_reducible refine wx_fB ?_ | with_reducible refine wx_and ?_ | with_reducible refine wx_or ?_ | with_reducible refine wx_not ?_ | with_reducible refine ws_if ?_)
  refine wx_eq (fun _ _ z => nomatch z) eq_int ?_
  refine ⟨_, rfl, ?_⟩
  by_cases hr : r = 0
  · rw [if_pos (by rw [hr]; rfl)]
    repeat (first
    | with_reducible refine wx_op ?_ | with_reducible refine wx_cb ?_ | with_reducible refine wx_cons ?_ | with_reducible refine wx_nil ?_ | with_reducible refine wx_c ?_ | with_reducible refine wx_var rfl (fun z => nomatch z) ?_
    | with_reducible refine wx_addI ?_ | with_reducible refine wx_sub ?_ | with_reducible refine wx_int ?_ | with_reducible refine wx_mul (small_mul (by decide)) ?_ | with_reducible refine wx_mul (small_mul (by omega)) ?_
    | with_reducible refine wx_mod (by first | decide | assumption | omega) ?_ | with_reducible refine wx_div (by first | decide | assumption) ?_ | with_reducible refine wx_pow (by decide) ?_ | with_reducible refine wx_cmp ?_ | with_reducible refine wx_lt ?_ | with_reducible refine wx_gt ?_
    | with_reducible refine ws_seq ?_ | with_reducible refine then_nx ?_ | with_reducible refine then_rt ?_ | with_reducible refine ws_asg ?_ | with_reducible refine ws_ret ?_ | with_reducible refine wx_fB ?_ | with_reducible refine wx_and ?_ | with_reducible refine wx_or ?_ | with_reducible refine wx_not ?_ | with_reducible refine ws_if ?_)
    refine wx_ixL h2 rfl ?_
    repeat (first
    | with_reducible refine wx_op ?_ | with_reducible refine wx_cb ?_ | with_reducible refine wx_cons ?_ | with_reducible refine wx_nil ?_ | with_reducible refine wx_c ?_ | with_reducible refine wx_var rfl (fun z => nomatch z) ?_
    | with_reducible refine wx_addI ?_ | with_reducible refine wx_sub ?_ | with_reducible refine wx_int ?_ | with_reducible refine wx_mul (small_mul (by decide)) ?_ | with_reducible refine wx_mul (small_mul (by omega)) ?_
    | with_reducible refine wx_mod (by first | decide | assumption | omega) ?_ | with_reducible refine wx_div (by first | decide | assumption) ?_ | with_reducible refine wx_pow (by decide) ?_ | with_reducible refine wx_cmp ?_ | with_reducible refine wx_lt ?_ | with_reducible refine wx_gt ?_
    | with_reducible refine ws_seq ?_ | with_reducible refine then_nx ?_ | with_reducible refine then_rt ?_ | with_reducible refine ws_asg ?_ | with_reducible refine ws_ret ?_ | with_reducible refine wx_fB ?_ | with_reducible refine wx_and ?_ | with_reducible refine wx_or ?_ | with_reducible refine wx_not ?_ | with_reducible refine ws_if ?_)
    refine wx_ixL h2 rfl ?_
    repeat (first
    | with_reducible refine wx_op ?_ | with_reducible refine wx_cb ?_ | with_reducible refine wx_cons ?_ | with_reducible refine wx_nil ?_ | with_reducible refine wx_c ?_ | with_reducible refine wx_var rfl (fun z => nomatch z) ?_
    | with_reducible refine wx_addI ?_ | with_reducible refine wx_sub ?_ | with_reducible refine wx_int ?_ | with_reducible refine wx_mul (small_mul (by decide)) ?_ | with_reducible refine wx_mul (small_mul (by omega)) ?_
    | with_reducible refine wx_mod (by first | decide | assumption | omega) ?_ | with_reducible refine wx_div (by first | decide | assumption) ?_ | with_reducible refine wx_pow (by decide) ?_ | with_reducible refine wx_cmp ?_ | with_reducible refine wx_lt ?_ | with_reducible refine wx_gt ?_
    | with_reducible refine ws_seq ?_ | with_reducible refine then_nx ?_ | with_reducible refine then_rt ?_ | with_reducible refine ws_asg ?_ | with_reducible refine ws_ret ?_ | with_reducible refine wx_fB ?_ | with_reducible refine wx_and ?_ | with_reducible refine wx_or ?_ | with_reducible refine wx_not ?_ | with_reducible refine ws_if ?_)
    refine wx_lenL h1 ?_
    repeat (first
    | with_reducible refine wx_op ?_ | with_reducible refine wx_cb ?_ | with_reducible refine wx_cons ?_ | with_reducible refine wx_nil ?_ | with_reducible refine wx_c ?_ | with_reducible refine wx_var rfl (fun z => nomatch z) ?_
    | with_reducible refine wx_addI ?_ | with_reducible refine wx_sub ?_ | with_reducible refine wx_int ?_ | with_reducible refine wx_mul (small_mul (by decide)) ?_ | with_reducible refine wx_mul (small_mul (by omega)) ?_
    | with_reducible refine wx_mod (by first | decide | assumption | omega) ?_ | with_reducible refine wx_div (by first | decide | assumption) ?_ | with_reducible refine wx_pow (by decide) ?_ | with_reducible refine wx_cmp ?_ | with_reducible refine wx_lt ?_ | with_reducible refine wx_gt ?_
    | with_reducible refine ws_seq ?_ | with_reducible refine then_nx ?_ | with_reducible refine then_rt ?_ | with_reducible refine ws_asg ?_ | with_reducible refine ws_ret ?_ | with_reducible refine wx_fB ?_ | with_reducible refine wx_and ?_ | with_reducible refine wx_or ?_ | with_reducible refine wx_not ?_ | with_reducible refine ws_if ?_)
    refine ⟨_, rfl, ?_⟩
    by_cases hl : i < ((cells.map D.int).length : Int)
    · rw [if_pos (decide_eq_true hl)]
      rw [List.length_map] at hl
      obtain ⟨cell, hc⟩ : ∃ c, cells[i.toNat]? = some c := ⟨_, List.getElem?_eq_getElem (by omega)⟩
      have hix : atI (cells.map D.int) i = some (.int cell) := by
        unfold atI ixN
        rw [List.length_map, if_pos h0, if_pos hl, Option.bind_some, List.getElem?_map, hc]
        rfl
      repeat (first
    | with_reducible refine wx_op ?_ | with_reducible refine wx_cb ?_ | with_reducible refine wx_cons ?_ | with_reducible refine wx_nil ?_ | with_reducible refine wx_c ?_ | with_reducible refine wx_var rfl (fun z => nomatch z) ?_
    | with_reducible refine wx_addI ?_ | with_reducible refine wx_sub ?_ | with_reducible refine wx_int ?_ | with_reducible refine wx_mul (small_mul (by decide)) ?_ | with_reducible refine wx_mul (small_mul (by omega)) ?_
    | with_reducible refine wx_mod (by first | decide | assumption | omega) ?_ | with_reducible refine wx_div (by first | decide | assumption) ?_ | with_reducible refine wx_pow (by decide) ?_ | with_reducible refine wx_cmp ?_ | with_reducible refine wx_lt ?_ | with_reducible refine wx_gt ?_
    | with_reducible refine ws_seq ?_ | with_reducible refine then_nx ?_ | with_reducible refine then_rt ?_ | with_reducible refine ws_asg ?_ | with_reducible refine ws_ret ?_ | with_reducible refine wx_fB ?_ | with_reducible refine wx_and ?_ | with_reducible refine wx_or ?_ | with_reducible refine wx_not ?_ | with_reducible refine ws_if ?_)
      refine wx_ixL h2 rfl ?_
      repeat (first
    | with_reducible refine wx_op ?_ | with_reducible refine wx_cb ?_ | with_reducible refine wx_cons ?_ | with_reducible refine wx_nil ?_ | with_reducible refine wx_c ?_ | with_reducible refine wx_var rfl (fun z => nomatch z) ?_
    | with_reducible refine wx_addI ?_ | with_reducible refine wx_sub ?_ | with_reducible refine wx_int ?_ | with_reducible refine wx_mul (small_mul (by decide)) ?_ | with_reducible refine wx_mul (small_mul (by omega)) ?_
    | with_reducible refine wx_mod (by first | decide | assumption | omega) ?_ | with_reducible refine wx_div (by first | decide | assumption) ?_ | with_reducible refine wx_pow (by decide) ?_ | with_reducible refine wx_cmp ?_ | with_reducible refine wx_lt ?_ | with_reducible refine wx_gt ?_
    | with_reducible refine ws_seq ?_ | with_reducible refine then_nx ?_ | with_reducible refine then_rt ?_ | with_reducible refine ws_asg ?_ | with_reducible refine ws_ret ?_ | with_reducible refine wx_fB ?_ | with_reducible refine wx_and ?_ | with_reducible refine wx_or ?_ | with_reducible refine wx_not ?_ | with_reducible refine ws_if ?_)
      refine wx_ixL h2 rfl ?_
      refine wx_ixL h1 hix ?_
      repeat (first
    | with_reducible refine wx_op ?_ | with_reducible refine wx_cb ?_ | with_reducible refine wx_cons ?_ | with_reducible refine wx_nil ?_ | with_reducible refine wx_c ?_ | with_reducible refine wx_var rfl (fun z => nomatch z) ?_
    | with_reducible refine wx_addI ?_ | with_reducible refine wx_sub ?_ | with_reducible refine wx_int ?_ | with_reducible refine wx_mul (small_mul (by decide)) ?_ | with_reducible refine wx_mul (small_mul (by omega)) ?_
    | with_reducible refine wx_mod (by first | decide | assumption | omega) ?_ | with_reducible refine wx_div (by first | decide | assumption) ?_ | with_reducible refine wx_pow (by decide) ?_ | with_reducible refine wx_cmp ?_ | with_reducible refine wx_lt ?_ | with_reducible refine wx_gt ?_
    | with_reducible refine ws_seq ?_ | with_reducible refine then_nx ?_ | with_reducible refine then_rt ?_ | with_reducible refine ws_asg ?_ | with_reducible refine ws_ret ?_ | with_reducible refine wx_fB ?_ | with_reducible refine wx_and ?_ | with_reducible refine wx_or ?_ | with_reducible refine wx_not ?_ | with_reducible refine ws_if ?_)
      refine ws_set (n := 1) (k := 1) (m := 1) (ds := [.ptr 0, .int i, .int r, .int t]) ?_
      repeat (first
    | with_reducible refine wx_op ?_ | with_reducible refine wx_cb ?_ | with_reducible refine wx_cons ?_ | with_reducible refine wx_nil ?_ | with_reducible refine wx_c ?_ | with_reducible refine wx_var rfl (fun z => nomatch z) ?_
    | with_reducible refine wx_addI ?_ | with_reducible refine wx_sub ?_ | with_reducible refine wx_int ?_ | with_reducible refine wx_mul (small_mul (by decide)) ?_ | with_reducible refine wx_mul (small_mul (by omega)) ?_
    | with_reducible refine wx_mod (by first | decide | assumption | omega) ?_ | with_reducible refine wx_div (by first | decide | assumption) ?_ | with_reducible refine wx_pow (by decide) ?_ | with_reducible refine wx_cmp ?_ | with_reducible refine wx_lt ?_ | with_reducible refine wx_gt ?_
    | with_reducible refine ws_seq ?_ | with_reducible refine then_nx ?_ | with_reducible refine then_rt ?_ | with_reducible refine ws_asg ?_ | with_reducible refine ws_ret ?_ | with_reducible refine wx_fB ?_ | with_reducible refine wx_and ?_ | with_reducible refine wx_or ?_ | with_reducible refine wx_not ?_ | with_reducible refine ws_if ?_)
      refine wx_ixL h2 rfl ?_
      repeat (first
    | with_reducible refine wx_op ?_ | with_reducible refine wx_cb ?_ | with_reducible refine wx_cons ?_ | with_reducible refine wx_nil ?_ | with_reducible refine wx_c ?_ | with_reducible refine wx_var rfl (fun z => nomatch z) ?_
    | with_reducible refine wx_addI ?_ | with_reducible refine wx_sub ?_ | with_reducible refine wx_int ?_ | with_reducible refine wx_mul (small_mul (by decide)) ?_ | with_reducible refine wx_mul (small_mul (by omega)) ?_
    | with_reducible refine wx_mod (by first | decide | assumption | omega) ?_ | with_reducible refine wx_div (by first | decide | assumption) ?_ | with_reducible refine wx_pow (by decide) ?_ | with_reducible refine wx_cmp ?_ | with_reducible refine wx_lt ?_ | with_reducible refine wx_gt ?_
    | with_reducible refine ws_seq ?_ | with_reducible refine then_nx ?_ | with_reducible refine then_rt ?_ | with_reducible refine ws_asg ?_ | with_reducible refine ws_ret ?_ | with_reducible refine wx_fB ?_ | with_reducible refine wx_and ?_ | with_reducible refine wx_or ?_ | with_reducible refine wx_not ?_ | with_reducible refine ws_if ?_)
      refine ⟨rfl, ?_⟩
      repeat (first
    | with_reducible refine wx_op ?_ | with_reducible refine wx_cb ?_ | with_reducible refine wx_cons ?_ | with_reducible refine wx_nil ?_ | with_reducible refine wx_c ?_ | with_reducible refine wx_var rfl (fun z => nomatch z) ?_
    | with_reducible refine wx_addI ?_ | with_reducible refine wx_sub ?_ | with_reducible refine wx_int ?_ | with_reducible refine wx_mul (small_mul (by decide)) ?_ | with_reducible refine wx_mul (small_mul (by omega)) ?_
    | with_reducible refine wx_mod (by first | decide | assumption | omega) ?_ | with_reducible refine wx_div (by first | decide | assumption) ?_ | with_reducible refine wx_pow (by decide) ?_ | with_reducible refine wx_cmp ?_ | with_reducible refine wx_lt ?_ | with_reducible refine wx_gt ?_
    | with_reducible refine ws_seq ?_ | with_reducible refine then_nx ?_ | with_reducible refine then_rt ?_ | with_reducible refine ws_asg ?_ | with_reducible refine ws_ret ?_ | with_reducible refine wx_fB ?_ | with_reducible refine wx_and ?_ | with_reducible refine wx_or ?_ | with_reducible refine wx_not ?_ | with_reducible refine ws_if ?_)
      refine ⟨rfl, h2, rfl, ?_⟩
      have hi1 : 0 ≤ i + 1 := by omega
      have g1 := setH_go hh (r := r) (t := t) hi1
      have h3 : At (setH st (i + 1) r t) 1 [.ptr 0, .int (i + 1), .int r, .int t] := setH_1 hh.lt
      repeat (first
    | with_reducible refine wx_op ?_ | with_reducible refine wx_cb ?_ | with_reducible refine wx_cons ?_ | with_reducible refine wx_nil ?_ | with_reducible refine wx_c ?_ | with_reducible refine wx_var rfl (fun z => nomatch z) ?_
    | with_reducible refine wx_addI ?_ | with_reducible refine wx_sub ?_ | with_reducible refine wx_int ?_ | with_reducible refine wx_mul (small_mul (by decide)) ?_ | with_reducible refine wx_mul (small_mul (by omega)) ?_
    | with_reducible refine wx_mod (by first | decide | assumption | omega) ?_ | with_reducible refine wx_div (by first | decide | assumption) ?_ | with_reducible refine wx_pow (by decide) ?_ | with_reducible refine wx_cmp ?_ | with_reducible refine wx_lt ?_ | with_reducible refine wx_gt ?_
    | with_reducible refine ws_seq ?_ | with_reducible refine then_nx ?_ | with_reducible refine then_rt ?_ | with_reducible refine ws_asg ?_ | with_reducible refine ws_ret ?_ | with_reducible refine wx_fB ?_ | with_reducible refine wx_and ?_ | with_reducible refine wx_or ?_ | with_reducible refine wx_not ?_ | with_reducible refine ws_if ?_)
      refine ⟨_, rfl, ?_⟩
      by_cases hs : cell < 10 ^ (18 : Int).toNat
      · rw [if_pos (decide_eq_true hs)]
        repeat (first
    | with_reducible refine wx_op ?_ | with_reducible refine wx_cb ?_ | with_reducible refine wx_cons ?_ | with_reducible refine wx_nil ?_ | with_reducible refine wx_c ?_ | with_reducible refine wx_var rfl (fun z => nomatch z) ?_
    | with_reducible refine wx_addI ?_ | with_reducible refine wx_sub ?_ | with_reducible refine wx_int ?_ | with_reducible refine wx_mul (small_mul (by decide)) ?_ | with_reducible refine wx_mul (small_mul (by omega)) ?_
    | with_reducible refine wx_mod (by first | decide | assumption | omega) ?_ | with_reducible refine wx_div (by first | decide | assumption) ?_ | with_reducible refine wx_pow (by decide) ?_ | with_reducible refine wx_cmp ?_ | with_reducible refine wx_lt ?_ | with_reducible refine wx_gt ?_
    | with_reducible refine ws_seq ?_ | with_reducible refine then_nx ?_ | with_reducible refine then_rt ?_ | with_reducible refine ws_asg ?_ | with_reducible refine ws_ret ?_ | with_reducible refine wx_fB ?_ | with_reducible refine wx_and ?_ | with_reducible refine wx_or ?_ | with_reducible refine wx_not ?_ | with_reducible refine ws_if ?_)
        refine wx_ixL h3 rfl ?_
        repeat (first
    | with_reducible refine wx_op ?_ | with_reducible refine wx_cb ?_ | with_reducible refine wx_cons ?_ | with_reducible refine wx_nil ?_ | with_reducible refine wx_c ?_ | with_reducible refine wx_var rfl (fun z => nomatch z) ?_
    | with_reducible refine wx_addI ?_ | with_reducible refine wx_sub ?_ | with_reducible refine wx_int ?_ | with_reducible refine wx_mul (small_mul (by decide)) ?_ | with_reducible refine wx_mul (small_mul (by omega)) ?_
    | with_reducible refine wx_mod (by first | decide | assumption | omega) ?_ | with_reducible refine wx_div (by first | decide | assumption) ?_ | with_reducible refine wx_pow (by decide) ?_ | with_reducible refine wx_cmp ?_ | with_reducible refine wx_lt ?_ | with_reducible refine wx_gt ?_
    | with_reducible refine ws_seq ?_ | with_reducible refine then_nx ?_ | with_reducible refine then_rt ?_ | with_reducible refine ws_asg ?_ | with_reducible refine ws_ret ?_ | with_reducible refine wx_fB ?_ | with_reducible refine wx_and ?_ | with_reducible refine wx_or ?_ | with_reducible refine wx_not ?_ | with_reducible refine ws_if ?_)
        refine wx_call rfl (sp_mix fun z => ?_)
        repeat (first
    | with_reducible refine wx_op ?_ | with_reducible refine wx_cb ?_ | with_reducible refine wx_cons ?_ | with_reducible refine wx_nil ?_ | with_reducible refine wx_c ?_ | with_reducible refine wx_var rfl (fun z => nomatch z) ?_
    | with_reducible refine wx_addI ?_ | with_reducible refine wx_sub ?_ | with_reducible refine wx_int ?_ | with_reducible refine wx_mul (small_mul (by decide)) ?_ | with_reducible refine wx_mul (small_mul (by omega)) ?_
    | with_reducible refine wx_mod (by first | decide | assumption | omega) ?_ | with_reducible refine wx_div (by first | decide | assumption) ?_ | with_reducible refine wx_pow (by decide) ?_ | with_reducible refine wx_cmp ?_ | with_reducible refine wx_lt ?_ | with_reducible refine wx_gt ?_
    | with_reducible refine ws_seq ?_ | with_reducible refine then_nx ?_ | with_reducible refine then_rt ?_ | with_reducible refine ws_asg ?_ | with_reducible refine ws_ret ?_ | with_reducible refine wx_fB ?_ | with_reducible refine wx_and ?_ | with_reducible refine wx_or ?_ | with_reducible refine wx_not ?_ | with_reducible refine ws_if ?_)
        exact q _ _ (hv _).1 (hv _).2 g1
      · rw [if_neg (by simpa using hs)]
        refine ws_pass ?_
        repeat (first
    | with_reducible refine wx_op ?_ | with_reducible refine wx_cb ?_ | with_reducible refine wx_cons ?_ | with_reducible refine wx_nil ?_ | with_reducible refine wx_c ?_ | with_reducible refine wx_var rfl (fun z => nomatch z) ?_
    | with_reducible refine wx_addI ?_ | with_reducible refine wx_sub ?_ | with_reducible refine wx_int ?_ | with_reducible refine wx_mul (small_mul (by decide)) ?_ | with_reducible refine wx_mul (small_mul (by omega)) ?_
    | with_reducible refine wx_mod (by first | decide | assumption | omega) ?_ | with_reducible refine wx_div (by first | decide | assumption) ?_ | with_reducible refine wx_pow (by decide) ?_ | with_reducible refine wx_cmp ?_ | with_reducible refine wx_lt ?_ | with_reducible refine wx_gt ?_
    | with_reducible refine ws_seq ?_ | with_reducible refine then_nx ?_ | with_reducible refine then_rt ?_ | with_reducible refine ws_asg ?_ | with_reducible refine ws_ret ?_ | with_reducible refine wx_fB ?_ | with_reducible refine wx_and ?_ | with_reducible refine wx_or ?_ | with_reducible refine wx_not ?_ | with_reducible refine ws_if ?_)
        refine ws_set (n := 1) (k := 2) (m := 2) (ds := [.ptr 0, .int (i + 1), .int r, .int t]) ?_
        repeat (first
    | with_reducible refine wx_op ?_ | with_reducible refine wx_cb ?_ | with_reducible refine wx_cons ?_ | with_reducible refine wx_nil ?_ | with_reducible refine wx_c ?_ | with_reducible refine wx_var rfl (fun z => nomatch z) ?_
    | with_reducible refine wx_addI ?_ | with_reducible refine wx_sub ?_ | with_reducible refine wx_int ?_ | with_reducible refine wx_mul (small_mul (by decide)) ?_ | with_reducible refine wx_mul (small_mul (by omega)) ?_
    | with_reducible refine wx_mod (by first | decide | assumption | omega) ?_ | with_reducible refine wx_div (by first | decide | assumption) ?_ | with_reducible refine wx_pow (by decide) ?_ | with_reducible refine wx_cmp ?_ | with_reducible refine wx_lt ?_ | with_reducible refine wx_gt ?_
    | with_reducible refine ws_seq ?_ | with_reducible refine then_nx ?_ | with_reducible refine then_rt ?_ | with_reducible refine ws_asg ?_ | with_reducible refine ws_ret ?_ | with_reducible refine wx_fB ?_ | with_reducible refine wx_and ?_ | with_reducible refine wx_or ?_ | with_reducible refine wx_not ?_ | with_reducible refine ws_if ?_)
        refine ⟨rfl, ?_⟩
        repeat (first
    | with_reducible refine wx_op ?_ | with_reducible refine wx_cb ?_ | with_reducible refine wx_cons ?_ | with_reducible refine wx_nil ?_ | with_reducible refine wx_c ?_ | with_reducible refine wx_var rfl (fun z => nomatch z) ?_
    | with_reducible refine wx_addI ?_ | with_reducible refine wx_sub ?_ | with_reducible refine wx_int ?_ | with_reducible refine wx_mul (small_mul (by decide)) ?_ | with_reducible refine wx_mul (small_mul (by omega)) ?_
    | with_reducible refine wx_mod (by first | decide | assumption | omega) ?_ | with_reducible refine wx_div (by first | decide | assumption) ?_ | with_reducible refine wx_pow (by decide) ?_ | with_reducible refine wx_cmp ?_ | with_reducible refine wx_lt ?_ | with_reducible refine wx_gt ?_
    | with_reducible refine ws_seq ?_ | with_reducible refine then_nx ?_ | with_reducible refine then_rt ?_ | with_reducible refine ws_asg ?_ | with_reducible refine ws_ret ?_ | with_reducible refine wx_fB ?_ | with_reducible refine wx_and ?_ | with_reducible refine wx_or ?_ | with_reducible refine wx_not ?_ | with_reducible refine ws_if ?_)
        refine ⟨rfl, h3, rfl, ?_⟩
        have hh1 := g1.hand hh
        have g2 := setH_go hh1 (r := cell) (t := t) hi1
        exact last _ _ _ (i + 1) cell t (g1.trans g2) (g2.hand hh1) hi1 (setH_1 hh1.lt)
    · rw [if_neg (by simpa using hl)]
      refine ws_pass ?_
      exact last _ _ _ i r t (Go.refl st) hh h0 h2
  · rw [if_neg (by simpa using hr)]
    rw [if_neg (by simp)]
    refine ws_pass ?_
    exact last _ _ _ i r t (Go.refl st) hh h0 h2
end
end Pl
/-! Pl4: the hand, the drawn values, the word. -/
namespace Pl
open PySem PySem.Spec PyProof.Rows L2 Vm Wk
/-! ### the hand -/
theorem hand_loop {ds : List D} {b : SF} {st : Sto} {s : Option D} (hb : ∀ (k : Nat) (tot : Int) (c2 c3 : Option D), k < ds.length → ∃ (tot' : Int) (c2' c3' : Option D), ∃ d, ds[k]? = some d ∧ b [s, some (.int tot), some (.int (k : Nat)), some d] st = some (.nx [s, some (.int tot'), c2', c3'], st)) :
    ∀ (m k : Nat) (tot : Int) (c2 c3 : Option D), m + k = ds.length → ∃ (tot' : Int) (c2' c3' : Option D), fLoop (.enumS ds) (gT (gsC (gN 2) (gsC (gN 3) gsN)) 2) b m k [s, some (.int tot), c2, c3] st = some (.nx [s, some (.int tot'), c2', c3'], st) := by
  intro m
  induction m with
  | zero =>
    intro k tot c2 c3 hk
    refine ⟨tot, c2, c3, ?_⟩
    have e : ds[k]? = none := List.getElem?_eq_none (by omega)
    show (match (match ds[k]? with
      | some d => some (some (D.tup [.int (k : Nat), d]))
      | none => some none) with
      | some none => some (SR.nx [s, some (.int tot), c2, c3], st)
      | _ => none) = _
    rw [e]
  | succ m ih =>
    intro k tot c2 c3 hk
    obtain ⟨tot1, c21, c31, d, e, e1⟩ := hb k tot c2 c3 (by omega)
    obtain ⟨tot', c2', c3', e2⟩ := ih (k + 1) tot1 c21 c31 (by omega)
    refine ⟨tot', c2', c3', ?_⟩
    rw [← e2]
    show (match (match ds[k]? with
      | some d => some (some (D.tup [.int (k : Nat), d]))
      | none => some none) with
      | some none => some (SR.nx [s, some (.int tot), c2, c3], st)
      | some (some d) => match gT (gsC (gN 2) (gsC (gN 3) gsN)) 2 d [s, some (.int tot), c2, c3] with
        | none => none
        | some e1 => match b e1 st with
          | some (.nx e2, st2) => fLoop (.enumS ds) (gT (gsC (gN 2) (gsC (gN 3) gsN)) 2) b m (k + 1) e2 st2
          | some (.ct e2, st2) => fLoop (.enumS ds) (gT (gsC (gN 2) (gsC (gN 3) gsN)) 2) b m (k + 1) e2 st2
          | some (.bk e2, st2) => some (.nx e2, st2)
          | r => r
      | none => none) = _
    rw [e]
    show (match b [s, some (.int tot), some (.int (k : Nat)), some d] st with
          | some (.nx e2, st2) => fLoop (.enumS ds) (gT (gsC (gN 2) (gsC (gN 3) gsN)) 2) b m (k + 1) e2 st2
          | some (.ct e2, st2) => fLoop (.enumS ds) (gT (gsC (gN 2) (gsC (gN 3) gsN)) 2) b m (k + 1) e2 st2
          | some (.bk e2, st2) => some (.nx e2, st2)
          | r => r) = _
    rw [e1]
theorem map_loop {ds : List D} {gi : Nat} {el : EF} {e0 : Vm.Env} {st : Sto} {F : D → D} (hb : ∀ (k : Nat) d, ds[k]? = some d → el (e0.set gi (some d)) st = some (.ok (F d), st)) (hl : ds.length < bnd) :
    ∀ (m k : Nat) (acc : List D), m + k = ds.length → acc.length = k → cLoop (.seq ds) (gN gi) (fun _ => mret true) el e0 m k acc st = some (acc ++ (ds.drop k).map F, st) := by
  intro m
  induction m with
  | zero =>
    intro k acc hk ha
    have e : ds[k]? = none := List.getElem?_eq_none (by omega)
    have e2 : ds.drop k = [] := List.drop_eq_nil_of_le (by omega)
    show (match some ds[k]? with
      | some none => some (acc, st)
      | _ => none) = _
    rw [e, e2]
    simp
  | succ m ih =>
    intro k acc hk ha
    have hlt : k < ds.length := by omega
    have e : ds[k]? = some ds[k] := List.getElem?_eq_getElem hlt
    have h1 := hb k _ e
    have h2 := ih (k + 1) (acc ++ [F ds[k]]) (by omega) (by simp [ha])
    have e3 : ds.drop k = ds[k] :: ds.drop (k + 1) := List.drop_eq_getElem_cons hlt
    rw [e3]
    rw [List.map_cons, show acc ++ F ds[k] :: (ds.drop (k + 1)).map F = (acc ++ [F ds[k]]) ++ (ds.drop (k + 1)).map F by simp, ← h2]
    show (match some ds[k]? with
      | some none => some (acc, st)
      | some (some d) => match gN gi d e0 with
        | none => none
        | some e1 => match (mret true : M Bool) st with
          | some (.ok true, st1) => match el e1 st1 with
            | some (.ok y, st2) => if acc.length < bnd then cLoop (.seq ds) (gN gi) (fun _ => mret true) el e0 m (k + 1) (acc ++ [y]) st2 else none
            | _ => none
          | some (.ok false, st1) => cLoop (.seq ds) (gN gi) (fun _ => mret true) el e0 m (k + 1) acc st1
          | _ => none
      | none => none) = _
    rw [e]
    dsimp only [gN, mret]
    rw [h1]
    dsimp only
    rw [if_pos (by omega)]
def absD : D → D
  | .int i => .int (if i < 0 then -i else i)
  | d => d
section
variable {K : PySem.W.Frag} {st : Sto} {Q : D → Sto → Prop}
theorem sp_hand (ns : List Int) (hl : ns.length ≤ 1000) (me : Option (Nat × List D)) (q : ∀ st', HandOk st' → st'.l.length = 2 → Q (.ptr 1) st') : Wx (F_law_hand (tab K) [.fro (ns.map .int)]) ⟨[], me⟩ Q := by
  refine wx_fn (ws_seq ?_)
  repeat (first
    | with_reducible refine wx_op ?_ | with_reducible refine wx_cb ?_ | with_reducible refine wx_cons ?_ | with_reducible refine wx_nil ?_ | with_reducible refine wx_c ?_ | with_reducible refine wx_var rfl (fun z => nomatch z) ?_
    | with_reducible refine wx_addI ?_ | with_reducible refine wx_sub ?_ | with_reducible refine wx_int ?_ | with_reducible refine wx_mul (small_mul (by decide)) ?_ | with_reducible refine wx_mul (small_mul (by omega)) ?_
    | with_reducible refine wx_mod (by first | decide | assumption | omega) ?_ | with_reducible refine wx_div (by first | decide | assumption) ?_ | with_reducible refine wx_pow (by decide) ?_ | with_reducible refine wx_cmp ?_ | with_reducible refine wx_lt ?_ | with_reducible refine wx_gt ?_
     | with_reducible refine ws_asg ?_ | with_reducible refine ws_ret ?_ | with_reducible refine wx_fB ?_ | with_reducible refine wx_and ?_ | with_reducible refine wx_or ?_ | with_reducible refine wx_not ?_ | with_reducible refine ws_if ?_)
  refine then_nx (ws_seq ?_)
  refine ws_for ?_
  refine ⟨.enumS (ns.map .int), ⟨[], me⟩, rfl, ?_⟩
  obtain ⟨tot, c2, c3, e⟩ := hand_loop (ds := ns.map .int) (st := ⟨[], me⟩) (s := some (.fro (ns.map .int))) (b := (sAsg (fOp gMod (fCB gInt (fCons (fOp gAdd (fOp gMul (fVar 1) (fC (.int 37))) (fOp gMul (fCB gInt (fCons (fVar 3) fNil)) (fOp gAdd (fVar 2) (fC (.int 5))))) fNil)) (fC (.int 2147483629))) (gN 1))) (fun k tot c2 c3 hk => by
    rw [List.length_map] at hk
    have e : (ns.map D.int)[k]? = some (.int ns[k]) := by
      rw [List.getElem?_map, List.getElem?_eq_getElem hk]
      rfl
    obtain ⟨r, st', h1, h2⟩ : Ws (sAsg (fOp gMod (fCB gInt (fCons (fOp gAdd (fOp gMul (fVar 1) (fC (.int 37))) (fOp gMul (fCB gInt (fCons (fVar 3) fNil)) (fOp gAdd (fVar 2) (fC (.int 5))))) fNil)) (fC (.int 2147483629))) (gN 1)) [some (.fro (ns.map .int)), some (.int tot), some (.int (k : Nat)), some (.int ns[k])] ⟨[], me⟩ (fun r st' => st' = ⟨[], me⟩ ∧ ∃ tot', r = .nx [some (.fro (ns.map .int)), some (.int tot'), some (.int (k : Nat)), some (.int ns[k])]) := by
      repeat (first
    | with_reducible refine wx_op ?_ | with_reducible refine wx_cb ?_ | with_reducible refine wx_cons ?_ | with_reducible refine wx_nil ?_ | with_reducible refine wx_c ?_ | with_reducible refine wx_var rfl (fun z => nomatch z) ?_
    | with_reducible refine wx_addI ?_ | with_reducible refine wx_sub ?_ | with_reducible refine wx_int ?_ | with_reducible refine wx_mul (small_mul (by decide)) ?_ | with_reducible refine wx_mul (small_mul (by omega)) ?_
    | with_reducible refine wx_mod (by first | decide | assumption | omega) ?_ | with_reducible refine wx_div (by first | decide | assumption) ?_ | with_reducible refine wx_pow (by decide) ?_ | with_reducible refine wx_cmp ?_ | with_reducible refine wx_lt ?_ | with_reducible refine wx_gt ?_
     | with_reducible refine ws_asg ?_ | with_reducible refine ws_ret ?_ | with_reducible refine wx_fB ?_ | with_reducible refine wx_and ?_ | with_reducible refine wx_or ?_ | with_reducible refine wx_not ?_ | with_reducible refine ws_if ?_)
      exact ⟨rfl, _, rfl⟩
    obtain ⟨rfl, tot', rfl⟩ := h2
    exact ⟨tot', _, _, _, e, h1⟩) (ns.map D.int).length 0 7 none none (by omega)
  refine ⟨_, _, e, ?_⟩
  refine then_nx ?_
  repeat (first
    | with_reducible refine wx_op ?_ | with_reducible refine wx_cb ?_ | with_reducible refine wx_cons ?_ | with_reducible refine wx_nil ?_ | with_reducible refine wx_c ?_ | with_reducible refine wx_var rfl (fun z => nomatch z) ?_
    | with_reducible refine wx_addI ?_ | with_reducible refine wx_sub ?_ | with_reducible refine wx_int ?_ | with_reducible refine wx_mul (small_mul (by decide)) ?_ | with_reducible refine wx_mul (small_mul (by omega)) ?_
    | with_reducible refine wx_mod (by first | decide | assumption | omega) ?_ | with_reducible refine wx_div (by first | decide | assumption) ?_ | with_reducible refine wx_pow (by decide) ?_ | with_reducible refine wx_cmp ?_ | with_reducible refine wx_lt ?_ | with_reducible refine wx_gt ?_
     | with_reducible refine ws_asg ?_ | with_reducible refine ws_ret ?_ | with_reducible refine wx_fB ?_ | with_reducible refine wx_and ?_ | with_reducible refine wx_or ?_ | with_reducible refine wx_not ?_ | with_reducible refine ws_if ?_)
  refine wx_lst ?_
  repeat (first
    | with_reducible refine wx_op ?_ | with_reducible refine wx_cb ?_ | with_reducible refine wx_cons ?_ | with_reducible refine wx_nil ?_ | with_reducible refine wx_c ?_ | with_reducible refine wx_var rfl (fun z => nomatch z) ?_
    | with_reducible refine wx_addI ?_ | with_reducible refine wx_sub ?_ | with_reducible refine wx_int ?_ | with_reducible refine wx_mul (small_mul (by decide)) ?_ | with_reducible refine wx_mul (small_mul (by omega)) ?_
    | with_reducible refine wx_mod (by first | decide | assumption | omega) ?_ | with_reducible refine wx_div (by first | decide | assumption) ?_ | with_reducible refine wx_pow (by decide) ?_ | with_reducible refine wx_cmp ?_ | with_reducible refine wx_lt ?_ | with_reducible refine wx_gt ?_
     | with_reducible refine ws_asg ?_ | with_reducible refine ws_ret ?_ | with_reducible refine wx_fB ?_ | with_reducible refine wx_and ?_ | with_reducible refine wx_or ?_ | with_reducible refine wx_not ?_ | with_reducible refine ws_if ?_)
  have hc := map_loop (ds := ns.map .int) (gi := 3) (el := fCB gAbs (fCons (fCB gInt (fCons (fVar 3) fNil)) fNil)) (e0 := [some (.fro (ns.map .int)), some (.int tot), c2, none]) (st := ⟨[], me⟩) (F := absD) (fun k d hd => by
    rw [List.getElem?_map] at hd
    obtain ⟨i, _, rfl⟩ := Option.map_eq_some_iff.mp hd
    rfl) (by rw [List.length_map]; exact Nat.lt_of_le_of_lt hl (by decide)) (ns.map D.int).length 0 [] (by omega) rfl
  rw [List.nil_append, List.drop_zero] at hc
  refine ⟨.ptr 0, push ⟨[], me⟩ ((ns.map D.int).map absD), ?_, ?_⟩
  · show (match cLoop (.seq (ns.map D.int)) (gN 3) tYesF (fCB gAbs (fCons (fCB gInt (fCons (fVar 3) fNil)) fNil)) [some (.fro (ns.map .int)), some (.int tot), c2, none] (ns.map D.int).length 0 [] ⟨[], me⟩ with
      | some (acc, st') => alloc acc st'
      | none => none) = _
    rw [show tYesF = (fun _ => mret true) from rfl, hc]
    rfl
  repeat (first
    | with_reducible refine wx_op ?_ | with_reducible refine wx_cb ?_ | with_reducible refine wx_cons ?_ | with_reducible refine wx_nil ?_ | with_reducible refine wx_c ?_ | with_reducible refine wx_var rfl (fun z => nomatch z) ?_
    | with_reducible refine wx_addI ?_ | with_reducible refine wx_sub ?_ | with_reducible refine wx_int ?_ | with_reducible refine wx_mul (small_mul (by decide)) ?_ | with_reducible refine wx_mul (small_mul (by omega)) ?_
    | with_reducible refine wx_mod (by first | decide | assumption | omega) ?_ | with_reducible refine wx_div (by first | decide | assumption) ?_ | with_reducible refine wx_pow (by decide) ?_ | with_reducible refine wx_cmp ?_ | with_reducible refine wx_lt ?_ | with_reducible refine wx_gt ?_
     | with_reducible refine ws_asg ?_ | with_reducible refine ws_ret ?_ | with_reducible refine wx_fB ?_ | with_reducible refine wx_and ?_ | with_reducible refine wx_or ?_ | with_reducible refine wx_not ?_ | with_reducible refine ws_if ?_)
  refine ⟨Nat.le_of_ble_eq_true rfl, q _ ⟨ns.map fun i => if i < 0 then -i else i, 0, 0, tot, by decide, ?_, rfl⟩ rfl⟩
  show some ((ns.map D.int).map absD) = some _
  rw [List.map_map, List.map_map]
  rfl
theorem eq_intF {a b : Int} : eqPD false st (.int a) (.int b) = some (a == b) := eq_int
/-! ### the drawn values -/
def CH : PyData := .tuple [.str "changed", .int 0]
structure Val (d : D) : Prop where
  ex : ∃ p, Pd 3 d p ∧ PyData.eqv p CH = false ∧ PyData.eqv CH p = false
theorem strOk_of (s : String) : PySem.PyData.strOk (PySem.Str.ofString s) = true := by
  unfold PySem.PyData.strOk
  rw [PySem.Str.ofString_eq_toList]
  simp only [List.all_toArray, List.all_eq_true, List.mem_map, decide_eq_true_eq]
  rintro x ⟨c, _, rfl⟩
  rcases c.valid with h | h
  · show c.val.toNat < 0x110000
    have : c.val.toNat < 0xd800 := h
    omega
  · exact h.2
theorem strOk_app {a b : Str} (ha : PySem.PyData.strOk a = true) (hb : PySem.PyData.strOk b = true) : PySem.PyData.strOk (a ++ b) = true := by
  show (a.cps ++ b.cps).all _ = true
  rw [Array.all_append]
  unfold PySem.PyData.strOk at ha hb
  rw [ha, hb]
  rfl
theorem val_non : Val .non := ⟨_, pd_non.mono (by decide), by simp [CH, PyData.eqv], by simp [CH, PyData.eqv]⟩
theorem val_int (i : Int) : Val (.int i) := ⟨_, (pd_int i).mono (by decide), by simp [CH, PyData.eqv], by simp [CH, PyData.eqv]⟩
theorem val_str {x : Str} (h : PySem.PyData.strOk x = true) : Val (.str x) := ⟨_, (pd_str h).mono (by decide), by simp [CH, PyData.eqv], by simp [CH, PyData.eqv]⟩
theorem val_pair (n : Int) : Val (.tup [.tup [.int n, .int 1], .tup [.int 0, .int 1]]) :=
  ⟨_, pd_tup (.cons (pd_tup (.cons (pd_int n) (.cons (pd_int 1) .nil))) (.cons (pd_tup (.cons (pd_int 0) (.cons (pd_int 1) .nil))) .nil)), by simp [CH, PyData.eqv, PyData.eqvAll], by simp [CH, PyData.eqv, PyData.eqvAll]⟩
theorem vals_pd : ∀ {xs : List D}, (∀ x ∈ xs, Val x) → ∃ ps, PdL 3 xs ps
  | [], _ => ⟨[], .nil⟩
  | x :: xs, h => by
    obtain ⟨p, hp, _⟩ := (h x List.mem_cons_self).ex
    obtain ⟨ps, hps⟩ := vals_pd fun y hy => h y (List.mem_cons_of_mem _ hy)
    exact ⟨p :: ps, .cons hp hps⟩
/-- a list made since st is written -/
theorem app_go {st1 : Sto} {pf : Nat} {ys : List D} (g : Go st st1) (hh : HandOk st) (hp : st.l.length ≤ pf) : Go st { st1 with l := st1.l.set pf ys } := by
  have l2 := hh.lt
  refine ⟨fun p ds h => ?_, fun h => ?_, ?_⟩
  · have q := g.af p ds h
    have := h.2.lt
    refine ⟨q.1, ?_⟩
    show (st1.l.set pf ys)[p]? = some ds
    rw [List.getElem?_set_ne (by omega)]
    exact q.2
  · obtain ⟨cells, i, r, t, h0, h1, h2⟩ := g.hand h
    refine ⟨cells, i, r, t, h0, ?_, ?_⟩
    · show (st1.l.set pf ys)[0]? = _
      rw [List.getElem?_set_ne (by omega)]
      exact h1
    · show (st1.l.set pf ys)[1]? = _
      rw [List.getElem?_set_ne (by omega)]
      exact h2
  · show st.l.length ≤ (st1.l.set pf ys).length
    rw [List.length_set]
    exact g.len
theorem app_af {st1 : Sto} {pf : Nat} {xs ys : List D} (h : Af st1 pf xs) : Af { st1 with l := st1.l.set pf ys } pf ys := ⟨h.1, by
  show (st1.l.set pf ys)[pf]? = some ys
  rw [List.getElem?_set_self h.2.lt]⟩
theorem sp_drawn (hh : HandOk st) (q : ∀ p st' x0 x1 x2 x3 x4, Go st st' → Val x0 → Val x1 → Val x2 → Val x3 → Val x4 → Af st' p [x0, x1, x2, x3, x4] → Q (.ptr p) st') : Wx (F_law_drawn (tab K) [.ptr 1]) st Q := by
  refine wx_fn (ws_seq ?_)
  refine ws_asg (wx_lst (wx_nil ⟨by decide, ?_⟩))
  have g0 := Go.push st []
  have a0 := Af.new hh []
  refine then_nx (ws_seq ?_)
  refine ws_for (wx_rng1 (j := 5) ?_)
  repeat (first
    | with_reducible refine wx_op ?_ | with_reducible refine wx_cb ?_ | with_reducible refine wx_cons ?_ | with_reducible refine wx_nil ?_ | with_reducible refine wx_c ?_ | with_reducible refine wx_var rfl (fun z => nomatch z) ?_
    | with_reducible refine wx_addI ?_ | with_reducible refine wx_sub ?_ | with_reducible refine wx_int ?_ | with_reducible refine wx_mul (small_mul (by decide)) ?_ | with_reducible refine wx_mul (small_mul (by omega)) ?_
    | with_reducible refine wx_mod (by first | decide | assumption | omega) ?_ | with_reducible refine wx_div (by first | decide | assumption) ?_ | with_reducible refine wx_pow (by decide) ?_ | with_reducible refine wx_cmp ?_ | with_reducible refine wx_lt ?_ | with_reducible refine wx_gt ?_
     | with_reducible refine ws_asg ?_ | with_reducible refine ws_ret ?_ | with_reducible refine wx_fB ?_ | with_reducible refine wx_and ?_ | with_reducible refine wx_or ?_ | with_reducible refine wx_not ?_ | with_reducible refine ws_if ?_)
  refine ⟨rfl, by decide, ?_⟩
  refine ws_rng (n := 5) (fun k e st1 => ∃ c2 c3 c4 xs, e = [some (.ptr 1), some (.ptr st.l.length), c2, c3, c4] ∧ Go st st1 ∧ Af st1 st.l.length xs ∧ xs.length = k ∧ ∀ x ∈ xs, Val x) ?_ ?_ 5 0 _ _ rfl ⟨_, _, _, _, rfl, g0, a0, rfl, fun _ z => nomatch z⟩
  · rintro k e st1 hk ⟨c2, c3, c4, xs, rfl, g1, a1, hl, hv⟩
    have hh1 := g1.hand hh
    refine ws_seq ?_
    repeat (first
    | with_reducible refine wx_op ?_ | with_reducible refine wx_cb ?_ | with_reducible refine wx_cons ?_ | with_reducible refine wx_nil ?_ | with_reducible refine wx_c ?_ | with_reducible refine wx_var rfl (fun z => nomatch z) ?_
    | with_reducible refine wx_addI ?_ | with_reducible refine wx_sub ?_ | with_reducible refine wx_int ?_ | with_reducible refine wx_mul (small_mul (by decide)) ?_ | with_reducible refine wx_mul (small_mul (by omega)) ?_
    | with_reducible refine wx_mod (by first | decide | assumption | omega) ?_ | with_reducible refine wx_div (by first | decide | assumption) ?_ | with_reducible refine wx_pow (by decide) ?_ | with_reducible refine wx_cmp ?_ | with_reducible refine wx_lt ?_ | with_reducible refine wx_gt ?_
     | with_reducible refine ws_asg ?_ | with_reducible refine ws_ret ?_ | with_reducible refine wx_fB ?_ | with_reducible refine wx_and ?_ | with_reducible refine wx_or ?_ | with_reducible refine wx_not ?_ | with_reducible refine ws_if ?_)
    refine wx_call rfl (sp_draw (by decide) (by decide) hh1 fun v st2 v0 v1 g2 => ?_)
    have v1' : v < 10 ^ 12 := v1
    repeat (first
    | with_reducible refine wx_op ?_ | with_reducible refine wx_cb ?_ | with_reducible refine wx_cons ?_ | with_reducible refine wx_nil ?_ | with_reducible refine wx_c ?_ | with_reducible refine wx_var rfl (fun z => nomatch z) ?_
    | with_reducible refine wx_addI ?_ | with_reducible refine wx_sub ?_ | with_reducible refine wx_int ?_ | with_reducible refine wx_mul (small_mul (by decide)) ?_ | with_reducible refine wx_mul (small_mul (by omega)) ?_
    | with_reducible refine wx_mod (by first | decide | assumption | omega) ?_ | with_reducible refine wx_div (by first | decide | assumption) ?_ | with_reducible refine wx_pow (by decide) ?_ | with_reducible refine wx_cmp ?_ | with_reducible refine wx_lt ?_ | with_reducible refine wx_gt ?_
     | with_reducible refine ws_asg ?_ | with_reducible refine ws_ret ?_ | with_reducible refine wx_fB ?_ | with_reducible refine wx_and ?_ | with_reducible refine wx_or ?_ | with_reducible refine wx_not ?_ | with_reducible refine ws_if ?_)
    refine then_nx (ws_seq ?_)
    repeat (first
    | with_reducible refine wx_op ?_ | with_reducible refine wx_cb ?_ | with_reducible refine wx_cons ?_ | with_reducible refine wx_nil ?_ | with_reducible refine wx_c ?_ | with_reducible refine wx_var rfl (fun z => nomatch z) ?_
    | with_reducible refine wx_addI ?_ | with_reducible refine wx_sub ?_ | with_reducible refine wx_int ?_ | with_reducible refine wx_mul (small_mul (by decide)) ?_ | with_reducible refine wx_mul (small_mul (by omega)) ?_
    | with_reducible refine wx_mod (by first | decide | assumption | omega) ?_ | with_reducible refine wx_div (by first | decide | assumption) ?_ | with_reducible refine wx_pow (by decide) ?_ | with_reducible refine wx_cmp ?_ | with_reducible refine wx_lt ?_ | with_reducible refine wx_gt ?_
     | with_reducible refine ws_asg ?_ | with_reducible refine ws_ret ?_ | with_reducible refine wx_fB ?_ | with_reducible refine wx_and ?_ | with_reducible refine wx_or ?_ | with_reducible refine wx_not ?_ | with_reducible refine ws_if ?_)
    refine wx_call rfl (sp_draw (by decide) (by decide) (g2.hand hh1) fun w st3 w0 w1 g3 => ?_)
    refine then_nx ?_
    have g4 : Go st st3 := g1.trans (g2.trans g3)
    have a4 := g3.af _ _ (g2.af _ _ a1)
    have hb : xs.length < bnd := by
      rw [hl]
      exact Nat.lt_of_lt_of_le hk (by decide)
    -- what is appended
    have fin : ∀ (y : D) c2 c3 c4, Val y → (∃ c2' c3' c4' xs', ([some (.ptr 1), some (.ptr st.l.length), c2, c3, c4] : Vm.Env) = [some (.ptr 1), some (.ptr st.l.length), c2', c3', c4'] ∧ Go st { st3 with l := st3.l.set st.l.length (xs ++ [y]) } ∧ Af { st3 with l := st3.l.set st.l.length (xs ++ [y]) } st.l.length xs' ∧ xs'.length = k + 1 ∧ ∀ x ∈ xs', Val x) := fun y c2 c3 c4 hy => ⟨c2, c3, c4, xs ++ [y], rfl, app_go g4 hh (Nat.le_refl _), app_af a4, by simp [hl], fun x hx => by
      rcases List.mem_append.mp hx with hx | hx
      · exact hv x hx
      · rw [List.mem_singleton.mp hx]
        exact hy⟩
    obtain ⟨ps, hps⟩ := vals_pd hv
    refine ws_if (wx_and ?_)
    repeat (first
    | with_reducible refine wx_op ?_ | with_reducible refine wx_cb ?_ | with_reducible refine wx_cons ?_ | with_reducible refine wx_nil ?_ | with_reducible refine wx_c ?_ | with_reducible refine wx_var rfl (fun z => nomatch z) ?_
    | with_reducible refine wx_addI ?_ | with_reducible refine wx_sub ?_ | with_reducible refine wx_int ?_ | with_reducible refine wx_mul (small_mul (by decide)) ?_ | with_reducible refine wx_mul (small_mul (by omega)) ?_
    | with_reducible refine wx_mod (by first | decide | assumption | omega) ?_ | with_reducible refine wx_div (by first | decide | assumption) ?_ | with_reducible refine wx_pow (by decide) ?_ | with_reducible refine wx_cmp ?_ | with_reducible refine wx_lt ?_ | with_reducible refine wx_gt ?_
     | with_reducible refine ws_asg ?_ | with_reducible refine ws_ret ?_ | with_reducible refine wx_fB ?_ | with_reducible refine wx_and ?_ | with_reducible refine wx_or ?_ | with_reducible refine wx_not ?_ | with_reducible refine ws_if ?_)
    refine wx_eq (fun _ _ z => nomatch z) eq_intF ⟨_, rfl, ?_⟩
    have tail : Ws (sIf (fB (fOp (gEq (tab K) (et (tab K)) false) (fVar 4) (fC (.int 1))))
 (sExpr (fApp (fVar 1) (fOp gAdd (fCB gStr (fCons (fVar 3) fNil)) (fC (.str " a"))))) (sIf (fB (fOp (gEq (tab K) (et (tab K)) false) (fVar 4) (fC (.int 2))))
 (sExpr (fApp (fVar 1) (fTup (fCons (fTup (fCons (fVar 3) (fCons (fC (.int 1)) fNil))) (fCons (fTup (fCons (fC (.int 0)) (fCons (fC (.int 1)) fNil))) fNil))))) (sIf (fB (fOp (gEq (tab K) (et (tab K)) false) (fVar 4) (fC (.int 3))))
 (sExpr (fApp (fVar 1) (fOp gMinus (fC (.int 0)) (fVar 3)))) (sExpr (fApp (fVar 1) (fVar 3)))))) [some (.ptr 1), some (.ptr st.l.length), some (.int (k : Nat)), some (.int (10 * v + (k : Nat) + 1)), some (.int w)] st3 (fun r st' => match r with
        | .nx e' => ∃ c2 c3 c4 xs, e' = [some (.ptr 1), some (.ptr st.l.length), c2, c3, c4] ∧ Go st st' ∧ Af st' st.l.length xs ∧ xs.length = k + 1 ∧ ∀ x ∈ xs, Val x
        | .rt d => thenS (sRet (fVar 1)) (fun r st1 => match r with
            | .nx _ => Q .non st1
            | .rt d => Q d st1
            | _ => False) (.rt d) st'
        | _ => False) := by
      refine ws_if ?_
      repeat (first
    | with_reducible refine wx_op ?_ | with_reducible refine wx_cb ?_ | with_reducible refine wx_cons ?_ | with_reducible refine wx_nil ?_ | with_reducible refine wx_c ?_ | with_reducible refine wx_var rfl (fun z => nomatch z) ?_
    | with_reducible refine wx_addI ?_ | with_reducible refine wx_sub ?_ | with_reducible refine wx_int ?_ | with_reducible refine wx_mul (small_mul (by decide)) ?_ | with_reducible refine wx_mul (small_mul (by omega)) ?_
    | with_reducible refine wx_mod (by first | decide | assumption | omega) ?_ | with_reducible refine wx_div (by first | decide | assumption) ?_ | with_reducible refine wx_pow (by decide) ?_ | with_reducible refine wx_cmp ?_ | with_reducible refine wx_lt ?_ | with_reducible refine wx_gt ?_
     | with_reducible refine ws_asg ?_ | with_reducible refine ws_ret ?_ | with_reducible refine wx_fB ?_ | with_reducible refine wx_and ?_ | with_reducible refine wx_or ?_ | with_reducible refine wx_not ?_ | with_reducible refine ws_if ?_)
      refine wx_eq (fun _ _ z => nomatch z) eq_intF ⟨_, rfl, ?_⟩
      split
      · refine ws_expr (wx_app (n := st.l.length) (ds := xs) ?_)
        refine wx_var rfl (fun z => nomatch z) ⟨rfl, ?_⟩
        repeat (first
    | with_reducible refine wx_op ?_ | with_reducible refine wx_cb ?_ | with_reducible refine wx_cons ?_ | with_reducible refine wx_nil ?_ | with_reducible refine wx_c ?_ | with_reducible refine wx_var rfl (fun z => nomatch z) ?_
    | with_reducible refine wx_addI ?_ | with_reducible refine wx_sub ?_ | with_reducible refine wx_int ?_ | with_reducible refine wx_mul (small_mul (by decide)) ?_ | with_reducible refine wx_mul (small_mul (by omega)) ?_
    | with_reducible refine wx_mod (by first | decide | assumption | omega) ?_ | with_reducible refine wx_div (by first | decide | assumption) ?_ | with_reducible refine wx_pow (by decide) ?_ | with_reducible refine wx_cmp ?_ | with_reducible refine wx_lt ?_ | with_reducible refine wx_gt ?_
     | with_reducible refine ws_asg ?_ | with_reducible refine ws_ret ?_ | with_reducible refine wx_fB ?_ | with_reducible refine wx_and ?_ | with_reducible refine wx_or ?_ | with_reducible refine wx_not ?_ | with_reducible refine ws_if ?_)
        have hlog : (10 * v + (k : Nat) + 1).natAbs.log2 < 1920 := by
          have h1 : (10 * v + (k : Nat) + 1).natAbs < 2 ^ 64 := by omega
          have h2 := PySem.Flt.log2_lt_of (by decide : 0 < 64) h1
          omega
        refine ⟨_, _, if_pos (decide_eq_true hlog), ?_⟩
        refine wx_c (wx_addS ?_ ⟨a4.2, hb, fin _ _ _ _ (val_str (strOk_app (strOk_of _) (strOk_of _)))⟩)
        have h3 := PyProof.Rows.int_text_len_1921 hlog
        have h4 : (PySem.Str.ofString " a").length = 2 := by decide +kernel
        show (PySem.Str.ofString (toString (10 * v + (k : Nat) + 1))).length + (PySem.Str.ofString " a").length ≤ bnd
        unfold bnd
        omega
      · refine ws_if ?_
        repeat (first
    | with_reducible refine wx_op ?_ | with_reducible refine wx_cb ?_ | with_reducible refine wx_cons ?_ | with_reducible refine wx_nil ?_ | with_reducible refine wx_c ?_ | with_reducible refine wx_var rfl (fun z => nomatch z) ?_
    | with_reducible refine wx_addI ?_ | with_reducible refine wx_sub ?_ | with_reducible refine wx_int ?_ | with_reducible refine wx_mul (small_mul (by decide)) ?_ | with_reducible refine wx_mul (small_mul (by omega)) ?_
    | with_reducible refine wx_mod (by first | decide | assumption | omega) ?_ | with_reducible refine wx_div (by first | decide | assumption) ?_ | with_reducible refine wx_pow (by decide) ?_ | with_reducible refine wx_cmp ?_ | with_reducible refine wx_lt ?_ | with_reducible refine wx_gt ?_
     | with_reducible refine ws_asg ?_ | with_reducible refine ws_ret ?_ | with_reducible refine wx_fB ?_ | with_reducible refine wx_and ?_ | with_reducible refine wx_or ?_ | with_reducible refine wx_not ?_ | with_reducible refine ws_if ?_)
        refine wx_eq (fun _ _ z => nomatch z) eq_intF ⟨_, rfl, ?_⟩
        split
        · refine ws_expr (wx_app (n := st.l.length) (ds := xs) ?_)
          refine wx_var rfl (fun z => nomatch z) ⟨rfl, ?_⟩
          refine wx_tup (wx_cons (wx_tup ?_))
          repeat (first
    | with_reducible refine wx_op ?_ | with_reducible refine wx_cb ?_ | with_reducible refine wx_cons ?_ | with_reducible refine wx_nil ?_ | with_reducible refine wx_c ?_ | with_reducible refine wx_var rfl (fun z => nomatch z) ?_
    | with_reducible refine wx_addI ?_ | with_reducible refine wx_sub ?_ | with_reducible refine wx_int ?_ | with_reducible refine wx_mul (small_mul (by decide)) ?_ | with_reducible refine wx_mul (small_mul (by omega)) ?_
    | with_reducible refine wx_mod (by first | decide | assumption | omega) ?_ | with_reducible refine wx_div (by first | decide | assumption) ?_ | with_reducible refine wx_pow (by decide) ?_ | with_reducible refine wx_cmp ?_ | with_reducible refine wx_lt ?_ | with_reducible refine wx_gt ?_
     | with_reducible refine ws_asg ?_ | with_reducible refine ws_ret ?_ | with_reducible refine wx_fB ?_ | with_reducible refine wx_and ?_ | with_reducible refine wx_or ?_ | with_reducible refine wx_not ?_ | with_reducible refine ws_if ?_)
          refine ⟨Nat.le_of_ble_eq_true rfl, wx_cons (wx_tup ?_)⟩
          repeat (first
    | with_reducible refine wx_op ?_ | with_reducible refine wx_cb ?_ | with_reducible refine wx_cons ?_ | with_reducible refine wx_nil ?_ | with_reducible refine wx_c ?_ | with_reducible refine wx_var rfl (fun z => nomatch z) ?_
    | with_reducible refine wx_addI ?_ | with_reducible refine wx_sub ?_ | with_reducible refine wx_int ?_ | with_reducible refine wx_mul (small_mul (by decide)) ?_ | with_reducible refine wx_mul (small_mul (by omega)) ?_
    | with_reducible refine wx_mod (by first | decide | assumption | omega) ?_ | with_reducible refine wx_div (by first | decide | assumption) ?_ | with_reducible refine wx_pow (by decide) ?_ | with_reducible refine wx_cmp ?_ | with_reducible refine wx_lt ?_ | with_reducible refine wx_gt ?_
     | with_reducible refine ws_asg ?_ | with_reducible refine ws_ret ?_ | with_reducible refine wx_fB ?_ | with_reducible refine wx_and ?_ | with_reducible refine wx_or ?_ | with_reducible refine wx_not ?_ | with_reducible refine ws_if ?_)
          refine ⟨Nat.le_of_ble_eq_true rfl, wx_nil ⟨Nat.le_of_ble_eq_true rfl, a4.2, hb, fin _ _ _ _ (val_pair _)⟩⟩
        · refine ws_if ?_
          repeat (first
    | with_reducible refine wx_op ?_ | with_reducible refine wx_cb ?_ | with_reducible refine wx_cons ?_ | with_reducible refine wx_nil ?_ | with_reducible refine wx_c ?_ | with_reducible refine wx_var rfl (fun z => nomatch z) ?_
    | with_reducible refine wx_addI ?_ | with_reducible refine wx_sub ?_ | with_reducible refine wx_int ?_ | with_reducible refine wx_mul (small_mul (by decide)) ?_ | with_reducible refine wx_mul (small_mul (by omega)) ?_
    | with_reducible refine wx_mod (by first | decide | assumption | omega) ?_ | with_reducible refine wx_div (by first | decide | assumption) ?_ | with_reducible refine wx_pow (by decide) ?_ | with_reducible refine wx_cmp ?_ | with_reducible refine wx_lt ?_ | with_reducible refine wx_gt ?_
     | with_reducible refine ws_asg ?_ | with_reducible refine ws_ret ?_ | with_reducible refine wx_fB ?_ | with_reducible refine wx_and ?_ | with_reducible refine wx_or ?_ | with_reducible refine wx_not ?_ | with_reducible refine ws_if ?_)
          refine wx_eq (fun _ _ z => nomatch z) eq_intF ⟨_, rfl, ?_⟩
          split
          · refine ws_expr (wx_app (n := st.l.length) (ds := xs) ?_)
            refine wx_var rfl (fun z => nomatch z) ⟨rfl, ?_⟩
            repeat (first
    | with_reducible refine wx_op ?_ | with_reducible refine wx_cb ?_ | with_reducible refine wx_cons ?_ | with_reducible refine wx_nil ?_ | with_reducible refine wx_c ?_ | with_reducible refine wx_var rfl (fun z => nomatch z) ?_
    | with_reducible refine wx_addI ?_ | with_reducible refine wx_sub ?_ | with_reducible refine wx_int ?_ | with_reducible refine wx_mul (small_mul (by decide)) ?_ | with_reducible refine wx_mul (small_mul (by omega)) ?_
    | with_reducible refine wx_mod (by first | decide | assumption | omega) ?_ | with_reducible refine wx_div (by first | decide | assumption) ?_ | with_reducible refine wx_pow (by decide) ?_ | with_reducible refine wx_cmp ?_ | with_reducible refine wx_lt ?_ | with_reducible refine wx_gt ?_
     | with_reducible refine ws_asg ?_ | with_reducible refine ws_ret ?_ | with_reducible refine wx_fB ?_ | with_reducible refine wx_and ?_ | with_reducible refine wx_or ?_ | with_reducible refine wx_not ?_ | with_reducible refine ws_if ?_)
            exact ⟨a4.2, hb, fin _ _ _ _ (val_int _)⟩
          · refine ws_expr (wx_app (n := st.l.length) (ds := xs) ?_)
            refine wx_var rfl (fun z => nomatch z) ⟨rfl, ?_⟩
            repeat (first
    | with_reducible refine wx_op ?_ | with_reducible refine wx_cb ?_ | with_reducible refine wx_cons ?_ | with_reducible refine wx_nil ?_ | with_reducible refine wx_c ?_ | with_reducible refine wx_var rfl (fun z => nomatch z) ?_
    | with_reducible refine wx_addI ?_ | with_reducible refine wx_sub ?_ | with_reducible refine wx_int ?_ | with_reducible refine wx_mul (small_mul (by decide)) ?_ | with_reducible refine wx_mul (small_mul (by omega)) ?_
    | with_reducible refine wx_mod (by first | decide | assumption | omega) ?_ | with_reducible refine wx_div (by first | decide | assumption) ?_ | with_reducible refine wx_pow (by decide) ?_ | with_reducible refine wx_cmp ?_ | with_reducible refine wx_lt ?_ | with_reducible refine wx_gt ?_
     | with_reducible refine ws_asg ?_ | with_reducible refine ws_ret ?_ | with_reducible refine wx_fB ?_ | with_reducible refine wx_and ?_ | with_reducible refine wx_or ?_ | with_reducible refine wx_not ?_ | with_reducible refine ws_if ?_)
            exact ⟨a4.2, hb, fin _ _ _ _ (val_int _)⟩
    split
    · repeat (first
    | with_reducible refine wx_op ?_ | with_reducible refine wx_cb ?_ | with_reducible refine wx_cons ?_ | with_reducible refine wx_nil ?_ | with_reducible refine wx_c ?_ | with_reducible refine wx_var rfl (fun z => nomatch z) ?_
    | with_reducible refine wx_addI ?_ | with_reducible refine wx_sub ?_ | with_reducible refine wx_int ?_ | with_reducible refine wx_mul (small_mul (by decide)) ?_ | with_reducible refine wx_mul (small_mul (by omega)) ?_
    | with_reducible refine wx_mod (by first | decide | assumption | omega) ?_ | with_reducible refine wx_div (by first | decide | assumption) ?_ | with_reducible refine wx_pow (by decide) ?_ | with_reducible refine wx_cmp ?_ | with_reducible refine wx_lt ?_ | with_reducible refine wx_gt ?_
     | with_reducible refine ws_asg ?_ | with_reducible refine ws_ret ?_ | with_reducible refine wx_fB ?_ | with_reducible refine wx_and ?_ | with_reducible refine wx_or ?_ | with_reducible refine wx_not ?_ | with_reducible refine ws_if ?_)
      have r1 := pd_non.rd st3 (by decide)
      have r2 := rd_list (p := st.l.length) a4.2 hps (by decide)
      have e : inPD true st3 .non (.ptr st.l.length) = some (!ps.any fun z => PyData.eqv z .none) := by
        unfold inPD depthPD
        rw [r1.to, r2.to]
        dsimp only
        rw [if_pos (by rw [r1.sh, r2.sh]; rfl)]
        rfl
      refine ⟨.bl (!ps.any fun z => PyData.eqv z .none), st3, ?_, ?_⟩
      · unfold gIn
        rw [e]
        rfl
      refine ⟨_, rfl, ?_⟩
      split
      · refine ws_expr (wx_app (n := st.l.length) (ds := xs) ?_)
        refine wx_var rfl (fun z => nomatch z) ⟨rfl, ?_⟩
        repeat (first
    | with_reducible refine wx_op ?_ | with_reducible refine wx_cb ?_ | with_reducible refine wx_cons ?_ | with_reducible refine wx_nil ?_ | with_reducible refine wx_c ?_ | with_reducible refine wx_var rfl (fun z => nomatch z) ?_
    | with_reducible refine wx_addI ?_ | with_reducible refine wx_sub ?_ | with_reducible refine wx_int ?_ | with_reducible refine wx_mul (small_mul (by decide)) ?_ | with_reducible refine wx_mul (small_mul (by omega)) ?_
    | with_reducible refine wx_mod (by first | decide | assumption | omega) ?_ | with_reducible refine wx_div (by first | decide | assumption) ?_ | with_reducible refine wx_pow (by decide) ?_ | with_reducible refine wx_cmp ?_ | with_reducible refine wx_lt ?_ | with_reducible refine wx_gt ?_
     | with_reducible refine ws_asg ?_ | with_reducible refine ws_ret ?_ | with_reducible refine wx_fB ?_ | with_reducible refine wx_and ?_ | with_reducible refine wx_or ?_ | with_reducible refine wx_not ?_ | with_reducible refine ws_if ?_)
        exact ⟨a4.2, hb, fin _ _ _ _ val_non⟩
      · exact tail
    · refine iteF ?_
      exact tail
  · rintro e st1 ⟨c2, c3, c4, xs, rfl, g1, a1, hl, hv⟩
    refine then_nx (ws_ret (wx_var rfl (fun z => nomatch z) ?_))
    match xs, hl, hv, a1 with
    | [x0, x1, x2, x3, x4], _, hv, a1 => exact q _ _ x0 x1 x2 x3 x4 g1 (hv _ (by simp)) (hv _ (by simp)) (hv _ (by simp)) (hv _ (by simp)) (hv _ (by simp)) a1
/-! ### the word -/
theorem strOk_join : ∀ (ys : List Str), (∀ y ∈ ys, PySem.PyData.strOk y = true) → PySem.PyData.strOk (PySem.Str.join (PySem.Str.ofString "") ys) = true
  | [], _ => by decide +kernel
  | [x], h => h x (by simp)
  | x :: y :: r, h => by
    show PySem.PyData.strOk (x ++ PySem.Str.ofString "" ++ PySem.Str.join (PySem.Str.ofString "") (y :: r)) = true
    exact strOk_app (strOk_app (h x (by simp)) (strOk_of "")) (strOk_join (y :: r) fun z hz => h z (List.mem_cons_of_mem _ hz))
theorem strOk_cut {z : Str} {lo hi : Option Int} (h : PySem.PyData.strOk z = true) : PySem.PyData.strOk (cutS z lo hi) = true := by
  unfold PySem.PyData.strOk cutS at *
  simp only [List.all_toArray, List.all_eq_true]
  intro x hx
  have hx2 : x ∈ z.cps.toList := List.mem_of_mem_drop (List.mem_of_mem_take hx)
  have h' : ∀ x ∈ z.cps.toList, decide (x < 0x110000) = true := by
    rw [← Array.all_toList, List.all_eq_true] at h
    exact h
  exact h' x hx2
theorem cut_len {z : Str} {lo hi : Option Int} : (cutS z lo hi).length ≤ z.length := by
  show ((z.cps.toList.drop _).take _).toArray.size ≤ z.cps.size
  rw [List.size_toArray, List.length_take, List.length_drop]
  have : z.cps.toList.length = z.cps.size := Array.length_toList
  omega
theorem strsD_map : ∀ ys : List Str, strsD (ys.map .str) = some ys
  | [] => rfl
  | y :: ys => by
    show (strsD (ys.map .str)).map (y :: ·) = _
    rw [strsD_map ys]
    rfl
theorem sp_word (hh : HandOk st) (q : ∀ x st', Go st st' → PySem.PyData.strOk x = true → Q (.str x) st') : Wx (F_law_word (tab K) [.ptr 1]) st Q := by
  refine wx_fn (ws_seq ?_)
  refine ws_asg (wx_lst (wx_nil ⟨by decide, ?_⟩))
  have g0 := Go.push st []
  have a0 := Af.new hh []
  refine then_nx (ws_seq ?_)
  refine ws_for ?_
  have hal : (PySem.Str.ofString "abcdefghijklmnopqrstuvwxyz").length = 26 := by decide +kernel
  refine wx_bind (wx_cons ?_)
  repeat (first
    | with_reducible refine wx_op ?_ | with_reducible refine wx_cb ?_ | with_reducible refine wx_cons ?_ | with_reducible refine wx_nil ?_ | with_reducible refine wx_c ?_ | with_reducible refine wx_var rfl (fun z => nomatch z) ?_
    | with_reducible refine wx_addI ?_ | with_reducible refine wx_sub ?_ | with_reducible refine wx_int ?_ | with_reducible refine wx_mul (small_mul (by decide)) ?_ | with_reducible refine wx_mul (small_mul (by omega)) ?_
    | with_reducible refine wx_mod (by first | decide | assumption | omega) ?_ | with_reducible refine wx_div (by first | decide | assumption) ?_ | with_reducible refine wx_pow (by decide) ?_ | with_reducible refine wx_cmp ?_ | with_reducible refine wx_lt ?_ | with_reducible refine wx_gt ?_
     | with_reducible refine ws_asg ?_ | with_reducible refine ws_ret ?_ | with_reducible refine wx_fB ?_ | with_reducible refine wx_and ?_ | with_reducible refine wx_or ?_ | with_reducible refine wx_not ?_ | with_reducible refine ws_if ?_)
  refine wx_call rfl (sp_draw (by decide) (by decide) (g0.hand hh) fun v st1 v0 v1 g1 => ?_)
  repeat (first
    | with_reducible refine wx_op ?_ | with_reducible refine wx_cb ?_ | with_reducible refine wx_cons ?_ | with_reducible refine wx_nil ?_ | with_reducible refine wx_c ?_ | with_reducible refine wx_var rfl (fun z => nomatch z) ?_
    | with_reducible refine wx_addI ?_ | with_reducible refine wx_sub ?_ | with_reducible refine wx_int ?_ | with_reducible refine wx_mul (small_mul (by decide)) ?_ | with_reducible refine wx_mul (small_mul (by omega)) ?_
    | with_reducible refine wx_mod (by first | decide | assumption | omega) ?_ | with_reducible refine wx_div (by first | decide | assumption) ?_ | with_reducible refine wx_pow (by decide) ?_ | with_reducible refine wx_cmp ?_ | with_reducible refine wx_lt ?_ | with_reducible refine wx_gt ?_
     | with_reducible refine ws_asg ?_ | with_reducible refine ws_ret ?_ | with_reducible refine wx_fB ?_ | with_reducible refine wx_and ?_ | with_reducible refine wx_or ?_ | with_reducible refine wx_not ?_ | with_reducible refine ws_if ?_)
  have hr : rngOk (1 + v) = true := by
    unfold rngOk
    rw [Bool.and_eq_true]
    exact ⟨decide_eq_true (by omega), decide_eq_true (by omega)⟩
  refine ⟨.rng 0 (1 + v).toNat, st1, by dsimp only; rw [if_pos hr]; rfl, ?_⟩
  refine ws_rng (n := (1 + v).toNat) (fun k e st1 => ∃ c2 c3 ys, e = [some (.ptr 1), some (.ptr st.l.length), c2, c3] ∧ Go st st1 ∧ Af st1 st.l.length (ys.map .str) ∧ ys.length = k ∧ (∀ y ∈ ys, PySem.PyData.strOk y = true) ∧ (ys.map (·.length)).sum ≤ 26 * k) ?_ ?_ (1 + v).toNat 0 _ _ rfl ⟨_, _, [], rfl, g0.trans g1, g1.af _ _ a0, rfl, (fun _ z => nomatch z), by simp⟩
  · rintro k e st2 hk ⟨c2, c3, ys, rfl, g2, a2, hl, hv, hs⟩
    have hh2 := g2.hand hh
    refine ws_seq ?_
    repeat (first
    | with_reducible refine wx_op ?_ | with_reducible refine wx_cb ?_ | with_reducible refine wx_cons ?_ | with_reducible refine wx_nil ?_ | with_reducible refine wx_c ?_ | with_reducible refine wx_var rfl (fun z => nomatch z) ?_
    | with_reducible refine wx_addI ?_ | with_reducible refine wx_sub ?_ | with_reducible refine wx_int ?_ | with_reducible refine wx_mul (small_mul (by decide)) ?_ | with_reducible refine wx_mul (small_mul (by omega)) ?_
    | with_reducible refine wx_mod (by first | decide | assumption | omega) ?_ | with_reducible refine wx_div (by first | decide | assumption) ?_ | with_reducible refine wx_pow (by decide) ?_ | with_reducible refine wx_cmp ?_ | with_reducible refine wx_lt ?_ | with_reducible refine wx_gt ?_
     | with_reducible refine ws_asg ?_ | with_reducible refine ws_ret ?_ | with_reducible refine wx_fB ?_ | with_reducible refine wx_and ?_ | with_reducible refine wx_or ?_ | with_reducible refine wx_not ?_ | with_reducible refine ws_if ?_)
    refine wx_call rfl (sp_draw (by decide) (by decide) hh2 fun w st3 w0 w1 g3 => ?_)
    refine then_nx (ws_expr (wx_app (n := st.l.length) (ds := ys.map .str) ?_))
    refine wx_var rfl (fun z => nomatch z) ⟨rfl, ?_⟩
    refine wx_bind (wx_c (wx_bind (wx_bind ?_)))
    repeat (first
    | with_reducible refine wx_op ?_ | with_reducible refine wx_cb ?_ | with_reducible refine wx_cons ?_ | with_reducible refine wx_nil ?_ | with_reducible refine wx_c ?_ | with_reducible refine wx_var rfl (fun z => nomatch z) ?_
    | with_reducible refine wx_addI ?_ | with_reducible refine wx_sub ?_ | with_reducible refine wx_int ?_ | with_reducible refine wx_mul (small_mul (by decide)) ?_ | with_reducible refine wx_mul (small_mul (by omega)) ?_
    | with_reducible refine wx_mod (by first | decide | assumption | omega) ?_ | with_reducible refine wx_div (by first | decide | assumption) ?_ | with_reducible refine wx_pow (by decide) ?_ | with_reducible refine wx_cmp ?_ | with_reducible refine wx_lt ?_ | with_reducible refine wx_gt ?_
     | with_reducible refine ws_asg ?_ | with_reducible refine ws_ret ?_ | with_reducible refine wx_fB ?_ | with_reducible refine wx_and ?_ | with_reducible refine wx_or ?_ | with_reducible refine wx_not ?_ | with_reducible refine ws_if ?_)
    refine wx_ret (wx_bind (wx_bind ?_))
    repeat (first
    | with_reducible refine wx_op ?_ | with_reducible refine wx_cb ?_ | with_reducible refine wx_cons ?_ | with_reducible refine wx_nil ?_ | with_reducible refine wx_c ?_ | with_reducible refine wx_var rfl (fun z => nomatch z) ?_
    | with_reducible refine wx_addI ?_ | with_reducible refine wx_sub ?_ | with_reducible refine wx_int ?_ | with_reducible refine wx_mul (small_mul (by decide)) ?_ | with_reducible refine wx_mul (small_mul (by omega)) ?_
    | with_reducible refine wx_mod (by first | decide | assumption | omega) ?_ | with_reducible refine wx_div (by first | decide | assumption) ?_ | with_reducible refine wx_pow (by decide) ?_ | with_reducible refine wx_cmp ?_ | with_reducible refine wx_lt ?_ | with_reducible refine wx_gt ?_
     | with_reducible refine ws_asg ?_ | with_reducible refine ws_ret ?_ | with_reducible refine wx_fB ?_ | with_reducible refine wx_and ?_ | with_reducible refine wx_or ?_ | with_reducible refine wx_not ?_ | with_reducible refine ws_if ?_)
    refine wx_ret ?_
    have hsl : gSl (.str (PySem.Str.ofString "abcdefghijklmnopqrstuvwxyz")) (some w) (some (w + 1)) st3 = some (.ok (.str (cutS (PySem.Str.ofString "abcdefghijklmnopqrstuvwxyz") (some w) (some (w + 1)))), st3) := by
      unfold gSl
      dsimp only
      rw [if_pos (by rw [hal]; decide)]
    refine ⟨_, _, hsl, ?_⟩
    have a3 := g3.af _ _ a2
    have hb : (ys.map D.str).length < bnd := by
      rw [List.length_map, hl]
      unfold bnd
      omega
    refine ⟨a3.2, hb, _, _, ys ++ [cutS (PySem.Str.ofString "abcdefghijklmnopqrstuvwxyz") (some w) (some (w + 1))], rfl, app_go (g2.trans g3) hh (Nat.le_refl _), ?_, by simp [hl], fun y hy => ?_, ?_⟩
    · rw [List.map_append]
      exact app_af a3
    · rcases List.mem_append.mp hy with hy | hy
      · exact hv y hy
      · rw [List.mem_singleton.mp hy]
        exact strOk_cut (strOk_of _)
    · have h1 := cut_len (z := PySem.Str.ofString "abcdefghijklmnopqrstuvwxyz") (lo := some w) (hi := some (w + 1))
      rw [hal] at h1
      rw [List.map_append, List.sum_append]
      simp only [List.map_cons, List.map_nil, List.sum_cons, List.sum_nil]
      omega
  · rintro e st2 ⟨c2, c3, ys, rfl, g2, a2, hl, hv, hs⟩
    refine then_nx (ws_ret (wx_bind (wx_c (wx_bind ?_))))
    refine wx_var rfl (fun z => nomatch z) ?_
    have e1 : seqD st2 (.ptr st.l.length) = some (ys.map .str) := a2.2
    refine ⟨.str (Txt.join (PySem.Str.ofString "") ys), st2, ?_, ?_⟩
    · dsimp only
      rw [e1]
      dsimp only
      rw [strsD_map]
      dsimp only
      rw [if_pos]
      unfold joinOk
      refine decide_eq_true ?_
      have h0 : (PySem.Str.ofString "").length = 0 := by decide +kernel
      rw [h0]
      omega
    · refine q _ _ g2 ?_
      show PySem.PyData.strOk (PySem.Builtin.Str.glued _ ys) = true
      rw [PySem.StrLaws.glued_eq_join]
      exact strOk_join ys hv
end
end Pl
/-! Pl5: the own == of the classes, worked out. -/
namespace Pl
open PySem PySem.Spec PyProof.Rows L2 Vm Wk
theorem nt_40_other {K : PySem.W.Frag} : nmIx ((tab K).names 40) "other" = some 3 := nf_40_other
theorem nt_40_plant {K : PySem.W.Frag} : nmIx ((tab K).names 40) "plant" = some 0 := nf_40_plant
theorem nt_40_silent {K : PySem.W.Frag} : nmIx ((tab K).names 40) "silent" = some 2 := nf_40_silent
theorem nt_40_start {K : PySem.W.Frag} : nmIx ((tab K).names 40) "start" = some 1 := nf_40_start
theorem nt_41_point {K : PySem.W.Frag} : nmIx ((tab K).names 41) "point" = some 0 := nf_41_point
theorem nt_41_weights {K : PySem.W.Frag} : nmIx ((tab K).names 41) "weights" = some 1 := nf_41_weights
theorem nt_42_weights {K : PySem.W.Frag} : nmIx ((tab K).names 42) "weights" = some 0 := nf_42_weights
theorem nt_43_point {K : PySem.W.Frag} : nmIx ((tab K).names 43) "point" = some 0 := nf_43_point
theorem nt_43_ray {K : PySem.W.Frag} : nmIx ((tab K).names 43) "ray" = some 1 := nf_43_ray
theorem nt_44_box {K : PySem.W.Frag} : nmIx ((tab K).names 44) "box" = some 0 := nf_44_box
theorem nt_44_inputs {K : PySem.W.Frag} : nmIx ((tab K).names 44) "inputs" = some 1 := nf_44_inputs
theorem nt_45_rows {K : PySem.W.Frag} : nmIx ((tab K).names 45) "rows" = some 1 := nf_45_rows
theorem nt_45_space {K : PySem.W.Frag} : nmIx ((tab K).names 45) "space" = some 0 := nf_45_space
theorem nt_46_begin {K : PySem.W.Frag} : nmIx ((tab K).names 46) "begin" = some 0 := nf_46_begin
theorem nt_46_end {K : PySem.W.Frag} : nmIx ((tab K).names 46) "end" = some 1 := nf_46_end
theorem nt_46_why {K : PySem.W.Frag} : nmIx ((tab K).names 46) "why" = some 2 := nf_46_why
theorem nt_47_plant {K : PySem.W.Frag} : nmIx ((tab K).names 47) "plant" = some 0 := nf_47_plant
theorem nt_47_rows {K : PySem.W.Frag} : nmIx ((tab K).names 47) "rows" = some 1 := nf_47_rows
theorem nt_47_table {K : PySem.W.Frag} : nmIx ((tab K).names 47) "table" = some 2 := nf_47_table
theorem nt_48_high {K : PySem.W.Frag} : nmIx ((tab K).names 48) "high" = some 3 := nf_48_high
theorem nt_48_low {K : PySem.W.Frag} : nmIx ((tab K).names 48) "low" = some 2 := nf_48_low
theorem nt_48_parts {K : PySem.W.Frag} : nmIx ((tab K).names 48) "parts" = some 1 := nf_48_parts
theorem nt_48_state {K : PySem.W.Frag} : nmIx ((tab K).names 48) "state" = some 0 := nf_48_state
theorem nt_49_lot {K : PySem.W.Frag} : nmIx ((tab K).names 49) "lot" = some 1 := nf_49_lot
theorem nt_49_plant {K : PySem.W.Frag} : nmIx ((tab K).names 49) "plant" = some 2 := nf_49_plant
theorem nt_49_ray {K : PySem.W.Frag} : nmIx ((tab K).names 49) "ray" = some 3 := nf_49_ray
theorem nt_49_value {K : PySem.W.Frag} : nmIx ((tab K).names 49) "value" = some 0 := nf_49_value
theorem nt_50_high {K : PySem.W.Frag} : nmIx ((tab K).names 50) "high" = some 1 := nf_50_high
theorem nt_50_low {K : PySem.W.Frag} : nmIx ((tab K).names 50) "low" = some 0 := nf_50_low
theorem nt_51_lot {K : PySem.W.Frag} : nmIx ((tab K).names 51) "lot" = some 0 := nf_51_lot
theorem nt_51_plant {K : PySem.W.Frag} : nmIx ((tab K).names 51) "plant" = some 1 := nf_51_plant
theorem nt_51_side {K : PySem.W.Frag} : nmIx ((tab K).names 51) "side" = some 3 := nf_51_side
theorem nt_51_state {K : PySem.W.Frag} : nmIx ((tab K).names 51) "state" = some 2 := nf_51_state
theorem nt_52_place {K : PySem.W.Frag} : nmIx ((tab K).names 52) "place" = some 0 := nf_52_place
theorem nt_52_side {K : PySem.W.Frag} : nmIx ((tab K).names 52) "side" = some 1 := nf_52_side
theorem nt_53_blows {K : PySem.W.Frag} : nmIx ((tab K).names 53) "blows" = some 1 := nf_53_blows
theorem nt_53_corner {K : PySem.W.Frag} : nmIx ((tab K).names 53) "corner" = some 0 := nf_53_corner
theorem nt_53_weights {K : PySem.W.Frag} : nmIx ((tab K).names 53) "weights" = some 2 := nf_53_weights
theorem nt_54_puts {K : PySem.W.Frag} : nmIx ((tab K).names 54) "puts" = some 0 := nf_54_puts
theorem nt_54_space {K : PySem.W.Frag} : nmIx ((tab K).names 54) "space" = some 2 := nf_54_space
theorem nt_54_states {K : PySem.W.Frag} : nmIx ((tab K).names 54) "states" = some 1 := nf_54_states
theorem nt_54_table {K : PySem.W.Frag} : nmIx ((tab K).names 54) "table" = some 3 := nf_54_table
theorem nt_55_spaces {K : PySem.W.Frag} : nmIx ((tab K).names 55) "spaces" = some 1 := nf_55_spaces
theorem nt_55_table {K : PySem.W.Frag} : nmIx ((tab K).names 55) "table" = some 0 := nf_55_table
theorem nt_56_row {K : PySem.W.Frag} : nmIx ((tab K).names 56) "row" = some 0 := nf_56_row
theorem nt_57_plant {K : PySem.W.Frag} : nmIx ((tab K).names 57) "plant" = some 0 := nf_57_plant
theorem nt_57_rows {K : PySem.W.Frag} : nmIx ((tab K).names 57) "rows" = some 1 := nf_57_rows
theorem nt_57_table {K : PySem.W.Frag} : nmIx ((tab K).names 57) "table" = some 2 := nf_57_table
theorem nt_58_greatest {K : PySem.W.Frag} : nmIx ((tab K).names 58) "greatest" = some 1 := nf_58_greatest
theorem nt_58_least {K : PySem.W.Frag} : nmIx ((tab K).names 58) "least" = some 0 := nf_58_least
theorem nt_59_deeds {K : PySem.W.Frag} : nmIx ((tab K).names 59) "deeds" = some 3 := nf_59_deeds
theorem nt_59_field {K : PySem.W.Frag} : nmIx ((tab K).names 59) "field" = some 0 := nf_59_field
theorem nt_59_inputs {K : PySem.W.Frag} : nmIx ((tab K).names 59) "inputs" = some 2 := nf_59_inputs
theorem nt_59_size {K : PySem.W.Frag} : nmIx ((tab K).names 59) "size" = some 1 := nf_59_size
theorem nt_60_lot {K : PySem.W.Frag} : nmIx ((tab K).names 60) "lot" = some 2 := nf_60_lot
theorem nt_60_other {K : PySem.W.Frag} : nmIx ((tab K).names 60) "other" = some 3 := nf_60_other
theorem nt_60_other_lot {K : PySem.W.Frag} : nmIx ((tab K).names 60) "other_lot" = some 4 := nf_60_other_lot
theorem nt_60_plant {K : PySem.W.Frag} : nmIx ((tab K).names 60) "plant" = some 1 := nf_60_plant
theorem nt_60_record {K : PySem.W.Frag} : nmIx ((tab K).names 60) "record" = some 0 := nf_60_record
section
variable {K : PySem.W.Frag} {st : Sto} {Q : D → Sto → Prop} {d0 d1 d2 d3 d4 e0 e1 e2 e3 e4 : D} {p0 p1 p2 p3 p4 q0 q1 q2 q3 q4 : PyData} {ds es : List D} {ps qs : List PyData}
theorem wx_isE {T : Tab} {f : EF} {e : Vm.Env} {c : Cl} (h : Wx (f e) st fun d st1 => ∃ t b, d.ty = some t ∧ T.isi t c = some b ∧ Q (.bl b) st1) : Wx (fIsD T c f e) st Q := by
  obtain ⟨d, st1, h1, t, b, h2, h3, h4⟩ := h
  exact wx_isD ⟨d, st1, h1, h2, h3, h4⟩
theorem eqF {d e : D} {p q : PyData} (h1 : Pd 3 d p) (h2 : Pd 3 e q) : eqPD false st d e = some (PyData.eqv p q) := eq_of (h1.rd st (by decide)) (h2.rd st (by decide))
theorem eqN {d e : D} {p q : PyData} (h1 : Pd 3 d p) (h2 : Pd 3 e q) : eqPD true st d e = some (!PyData.eqv p q) := eq_of (h1.rd st (by decide)) (h2.rd st (by decide))
def EqS (K : PySem.W.Frag) (c m : Nat) (F : FnF) : Prop := ∀ (st : Sto) (Q : D → Sto → Prop) (ds es : List D) (ps qs : List PyData), PdL 3 ds ps → PdL 3 es qs → ds.length = m → es.length = m → Q (.bl (PyData.eqvAll ps qs)) st → Wx (F [.ins c ds, .ins c es]) st Q
def NeS (K : PySem.W.Frag) (c : Nat) (F : FnF) : Prop := ∀ (st : Sto) (Q : D → Sto → Prop) (c2 : Nat) (ds es : List D), (tab K).isi (.ins c2) (.own c) = some false → Q (.bl false) st → Wx (F [.ins c ds, .ins c2 es]) st Q
theorem seq_40 (hd0 : Pd 3 d0 p0) (he0 : Pd 3 e0 q0) (hd1 : Pd 3 d1 p1) (he1 : Pd 3 e1 q1) (hd2 : Pd 3 d2 p2) (he2 : Pd 3 e2 q2) (hd3 : Pd 3 d3 p3) (he3 : Pd 3 e3 q3) (q : Q (.bl (PyData.eqvAll [p0, p1, p2, p3] [q0, q1, q2, q3])) st) : Wx (Feq40 (tab K) [.ins 40 [d0, d1, d2, d3], .ins 40 [e0, e1, e2, e3]]) st Q := by
  have hi : (tab K).isi (.ins 40) (.own 40) = some true := rfl
  refine wx_fn (ws_ret (wx_andV (wx_isE ?_)))
  refine wx_var rfl (fun z => nomatch z) ⟨_, _, rfl, hi, true, rfl, iteT ?_⟩
  refine wx_op (wx_tup (PuA.wx (G := fun _ => True) (ds := [d0, d1, d2, d3]) (pua_cons (pu_fldI (pu_var rfl (fun z => nomatch z)) nf_40_plant rfl) (pua_cons (pu_fldI (pu_var rfl (fun z => nomatch z)) nf_40_start rfl) (pua_cons (pu_fldI (pu_var rfl (fun z => nomatch z)) nf_40_silent rfl) (pua_cons (pu_fldI (pu_var rfl (fun z => nomatch z)) nf_40_other rfl) pua_nil)))) trivial ⟨Nat.le_of_ble_eq_true rfl, ?_⟩))
  refine wx_tup (PuA.wx (G := fun _ => True) (ds := [e0, e1, e2, e3]) (pua_cons (pu_fldI (pu_var rfl (fun z => nomatch z)) nf_40_plant rfl) (pua_cons (pu_fldI (pu_var rfl (fun z => nomatch z)) nf_40_start rfl) (pua_cons (pu_fldI (pu_var rfl (fun z => nomatch z)) nf_40_silent rfl) (pua_cons (pu_fldI (pu_var rfl (fun z => nomatch z)) nf_40_other rfl) pua_nil)))) trivial ⟨Nat.le_of_ble_eq_true rfl, ?_⟩)
  refine wx_eq (fun _ _ z => nomatch z) (eq_of ((pd_tup (n := 3) (ps := [p0, p1, p2, p3]) (.cons hd0 (.cons hd1 (.cons hd2 (.cons hd3 .nil))))).rd st (by decide)) ((pd_tup (n := 3) (ps := [q0, q1, q2, q3]) (.cons he0 (.cons he1 (.cons he2 (.cons he3 .nil))))).rd st (by decide))) ?_
  have hq : PyData.eqv (.tuple [p0, p1, p2, p3]) (.tuple [q0, q1, q2, q3]) = PyData.eqvAll [p0, p1, p2, p3] [q0, q1, q2, q3] := by simp only [PyData.eqv]
  rw [hq]
  exact q
theorem sne_40 : NeS K 40 (Feq40 (tab K)) := by
  intro st Q c2 ds es hi q
  refine wx_fn ?_
  unfold beq40
  repeat (first
    | with_reducible refine ws_ret ?_ | with_reducible refine ws_seq ?_ | with_reducible refine ws_if ?_ | with_reducible refine wx_or ?_ | with_reducible refine wx_not ?_ | with_reducible refine wx_fB ?_ | with_reducible refine wx_andV ?_ | with_reducible refine wx_isE ?_
    | with_reducible refine wx_op ?_ | with_reducible refine wx_fld ?_ | with_reducible refine wx_c ?_ | with_reducible refine wx_var rfl (fun z => nomatch z) ?_ | with_reducible refine then_nx ?_ | with_reducible refine then_rt ?_ | with_reducible refine ws_pass ?_
    | refine iteT ?_ | refine iteF ?_ | refine ⟨_, _, rfl, hi, ?_⟩ | refine ⟨_, rfl, ?_⟩  )
  exact q
theorem sl_40 : EqS K 40 4 (Feq40 (tab K)) := by
  intro st Q ds es ps qs hp hq h1 h2 q
  cases hp with
  | nil => cases h1
  | cons a0 hp =>
  cases hq with
  | nil => cases h2
  | cons c0 hq =>
  cases hp with
  | nil => cases h1
  | cons a1 hp =>
  cases hq with
  | nil => cases h2
  | cons c1 hq =>
  cases hp with
  | nil => cases h1
  | cons a2 hp =>
  cases hq with
  | nil => cases h2
  | cons c2 hq =>
  cases hp with
  | nil => cases h1
  | cons a3 hp =>
  cases hq with
  | nil => cases h2
  | cons c3 hq =>
  cases hp with
  | cons _ _ => simp at h1
  | nil =>
  cases hq with
  | cons _ _ => simp at h2
  | nil => exact seq_40 a0 c0 a1 c1 a2 c2 a3 c3 q
theorem seq_41 (hd0 : Pd 3 d0 p0) (he0 : Pd 3 e0 q0) (hd1 : Pd 3 d1 p1) (he1 : Pd 3 e1 q1) (q : Q (.bl (PyData.eqvAll [p0, p1] [q0, q1])) st) : Wx (Feq41 (tab K) [.ins 41 [d0, d1], .ins 41 [e0, e1]]) st Q := by
  have hi : (tab K).isi (.ins 41) (.own 41) = some true := rfl
  have hQ : PyData.eqvAll [p0, p1] [q0, q1] = (PyData.eqv p0 q0 && (PyData.eqv p1 q1 && true)) := by simp only [PyData.eqvAll]
  rw [hQ] at q
  have f0 := eqF (st := st) hd0 he0
  have n0 := eqN (st := st) hd0 he0
  generalize PyData.eqv p0 q0 = b0 at q f0 n0
  have f1 := eqF (st := st) hd1 he1
  have n1 := eqN (st := st) hd1 he1
  generalize PyData.eqv p1 q1 = b1 at q f1 n1
  cases b0 <;> cases b1
  all_goals
    refine wx_fn ?_
    unfold beq41
    repeat (first
    | with_reducible refine ws_ret ?_ | with_reducible refine ws_seq ?_ | with_reducible refine ws_if ?_ | with_reducible refine wx_or ?_ | with_reducible refine wx_not ?_ | with_reducible refine wx_fB ?_ | with_reducible refine wx_andV ?_ | with_reducible refine wx_isE ?_
    | with_reducible refine wx_op ?_ | with_reducible refine wx_fld ?_ | with_reducible refine wx_c ?_ | with_reducible refine wx_var rfl (fun z => nomatch z) ?_ | with_reducible refine then_nx ?_ | with_reducible refine then_rt ?_ | with_reducible refine ws_pass ?_
    | refine iteT ?_ | refine iteF ?_ | refine ⟨_, _, rfl, hi, ?_⟩ | refine ⟨_, rfl, ?_⟩ | with_reducible refine wx_fldI nt_41_point rfl ?_ | with_reducible refine wx_fldI nt_41_weights rfl ?_ | with_reducible refine wx_eq hd0.ni f0 ?_ | with_reducible refine wx_eq hd0.ni n0 ?_ | with_reducible refine wx_eq hd1.ni f1 ?_ | with_reducible refine wx_eq hd1.ni n1 ?_)
    exact q
theorem sne_41 : NeS K 41 (Feq41 (tab K)) := by
  intro st Q c2 ds es hi q
  refine wx_fn ?_
  unfold beq41
  repeat (first
    | with_reducible refine ws_ret ?_ | with_reducible refine ws_seq ?_ | with_reducible refine ws_if ?_ | with_reducible refine wx_or ?_ | with_reducible refine wx_not ?_ | with_reducible refine wx_fB ?_ | with_reducible refine wx_andV ?_ | with_reducible refine wx_isE ?_
    | with_reducible refine wx_op ?_ | with_reducible refine wx_fld ?_ | with_reducible refine wx_c ?_ | with_reducible refine wx_var rfl (fun z => nomatch z) ?_ | with_reducible refine then_nx ?_ | with_reducible refine then_rt ?_ | with_reducible refine ws_pass ?_
    | refine iteT ?_ | refine iteF ?_ | refine ⟨_, _, rfl, hi, ?_⟩ | refine ⟨_, rfl, ?_⟩  )
  exact q
theorem sl_41 : EqS K 41 2 (Feq41 (tab K)) := by
  intro st Q ds es ps qs hp hq h1 h2 q
  cases hp with
  | nil => cases h1
  | cons a0 hp =>
  cases hq with
  | nil => cases h2
  | cons c0 hq =>
  cases hp with
  | nil => cases h1
  | cons a1 hp =>
  cases hq with
  | nil => cases h2
  | cons c1 hq =>
  cases hp with
  | cons _ _ => simp at h1
  | nil =>
  cases hq with
  | cons _ _ => simp at h2
  | nil => exact seq_41 a0 c0 a1 c1 q
theorem seq_42 (hd0 : Pd 3 d0 p0) (he0 : Pd 3 e0 q0) (q : Q (.bl (PyData.eqvAll [p0] [q0])) st) : Wx (Feq42 (tab K) [.ins 42 [d0], .ins 42 [e0]]) st Q := by
  have hi : (tab K).isi (.ins 42) (.own 42) = some true := rfl
  have hQ : PyData.eqvAll [p0] [q0] = (PyData.eqv p0 q0 && true) := by simp only [PyData.eqvAll]
  rw [hQ] at q
  have f0 := eqF (st := st) hd0 he0
  have n0 := eqN (st := st) hd0 he0
  generalize PyData.eqv p0 q0 = b0 at q f0 n0
  cases b0
  all_goals
    refine wx_fn ?_
    unfold beq42
    repeat (first
    | with_reducible refine ws_ret ?_ | with_reducible refine ws_seq ?_ | with_reducible refine ws_if ?_ | with_reducible refine wx_or ?_ | with_reducible refine wx_not ?_ | with_reducible refine wx_fB ?_ | with_reducible refine wx_andV ?_ | with_reducible refine wx_isE ?_
    | with_reducible refine wx_op ?_ | with_reducible refine wx_fld ?_ | with_reducible refine wx_c ?_ | with_reducible refine wx_var rfl (fun z => nomatch z) ?_ | with_reducible refine then_nx ?_ | with_reducible refine then_rt ?_ | with_reducible refine ws_pass ?_
    | refine iteT ?_ | refine iteF ?_ | refine ⟨_, _, rfl, hi, ?_⟩ | refine ⟨_, rfl, ?_⟩ | with_reducible refine wx_fldI nt_42_weights rfl ?_ | with_reducible refine wx_eq hd0.ni f0 ?_ | with_reducible refine wx_eq hd0.ni n0 ?_)
    exact q
theorem sne_42 : NeS K 42 (Feq42 (tab K)) := by
  intro st Q c2 ds es hi q
  refine wx_fn ?_
  unfold beq42
  repeat (first
    | with_reducible refine ws_ret ?_ | with_reducible refine ws_seq ?_ | with_reducible refine ws_if ?_ | with_reducible refine wx_or ?_ | with_reducible refine wx_not ?_ | with_reducible refine wx_fB ?_ | with_reducible refine wx_andV ?_ | with_reducible refine wx_isE ?_
    | with_reducible refine wx_op ?_ | with_reducible refine wx_fld ?_ | with_reducible refine wx_c ?_ | with_reducible refine wx_var rfl (fun z => nomatch z) ?_ | with_reducible refine then_nx ?_ | with_reducible refine then_rt ?_ | with_reducible refine ws_pass ?_
    | refine iteT ?_ | refine iteF ?_ | refine ⟨_, _, rfl, hi, ?_⟩ | refine ⟨_, rfl, ?_⟩  )
  exact q
theorem sl_42 : EqS K 42 1 (Feq42 (tab K)) := by
  intro st Q ds es ps qs hp hq h1 h2 q
  cases hp with
  | nil => cases h1
  | cons a0 hp =>
  cases hq with
  | nil => cases h2
  | cons c0 hq =>
  cases hp with
  | cons _ _ => simp at h1
  | nil =>
  cases hq with
  | cons _ _ => simp at h2
  | nil => exact seq_42 a0 c0 q
theorem seq_43 (hd0 : Pd 3 d0 p0) (he0 : Pd 3 e0 q0) (hd1 : Pd 3 d1 p1) (he1 : Pd 3 e1 q1) (q : Q (.bl (PyData.eqvAll [p0, p1] [q0, q1])) st) : Wx (Feq43 (tab K) [.ins 43 [d0, d1], .ins 43 [e0, e1]]) st Q := by
  have hi : (tab K).isi (.ins 43) (.own 43) = some true := rfl
  have hQ : PyData.eqvAll [p0, p1] [q0, q1] = (PyData.eqv p0 q0 && (PyData.eqv p1 q1 && true)) := by simp only [PyData.eqvAll]
  rw [hQ] at q
  have f0 := eqF (st := st) hd0 he0
  have n0 := eqN (st := st) hd0 he0
  generalize PyData.eqv p0 q0 = b0 at q f0 n0
  have f1 := eqF (st := st) hd1 he1
  have n1 := eqN (st := st) hd1 he1
  generalize PyData.eqv p1 q1 = b1 at q f1 n1
  cases b0 <;> cases b1
  all_goals
    refine wx_fn ?_
    unfold beq43
    repeat (first
    | with_reducible refine ws_ret ?_ | with_reducible refine ws_seq ?_ | with_reducible refine ws_if ?_ | with_reducible refine wx_or ?_ | with_reducible refine wx_not ?_ | with_reducible refine wx_fB ?_ | with_reducible refine wx_andV ?_ | with_reducible refine wx_isE ?_
    | with_reducible refine wx_op ?_ | with_reducible refine wx_fld ?_ | with_reducible refine wx_c ?_ | with_reducible refine wx_var rfl (fun z => nomatch z) ?_ | with_reducible refine then_nx ?_ | with_reducible refine then_rt ?_ | with_reducible refine ws_pass ?_
    | refine iteT ?_ | refine iteF ?_ | refine ⟨_, _, rfl, hi, ?_⟩ | refine ⟨_, rfl, ?_⟩ | with_reducible refine wx_fldI nt_43_point rfl ?_ | with_reducible refine wx_fldI nt_43_ray rfl ?_ | with_reducible refine wx_eq hd0.ni f0 ?_ | with_reducible refine wx_eq hd0.ni n0 ?_ | with_reducible refine wx_eq hd1.ni f1 ?_ | with_reducible refine wx_eq hd1.ni n1 ?_)
    exact q
theorem sne_43 : NeS K 43 (Feq43 (tab K)) := by
  intro st Q c2 ds es hi q
  refine wx_fn ?_
  unfold beq43
  repeat (first
    | with_reducible refine ws_ret ?_ | with_reducible refine ws_seq ?_ | with_reducible refine ws_if ?_ | with_reducible refine wx_or ?_ | with_reducible refine wx_not ?_ | with_reducible refine wx_fB ?_ | with_reducible refine wx_andV ?_ | with_reducible refine wx_isE ?_
    | with_reducible refine wx_op ?_ | with_reducible refine wx_fld ?_ | with_reducible refine wx_c ?_ | with_reducible refine wx_var rfl (fun z => nomatch z) ?_ | with_reducible refine then_nx ?_ | with_reducible refine then_rt ?_ | with_reducible refine ws_pass ?_
    | refine iteT ?_ | refine iteF ?_ | refine ⟨_, _, rfl, hi, ?_⟩ | refine ⟨_, rfl, ?_⟩  )
  exact q
theorem sl_43 : EqS K 43 2 (Feq43 (tab K)) := by
  intro st Q ds es ps qs hp hq h1 h2 q
  cases hp with
  | nil => cases h1
  | cons a0 hp =>
  cases hq with
  | nil => cases h2
  | cons c0 hq =>
  cases hp with
  | nil => cases h1
  | cons a1 hp =>
  cases hq with
  | nil => cases h2
  | cons c1 hq =>
  cases hp with
  | cons _ _ => simp at h1
  | nil =>
  cases hq with
  | cons _ _ => simp at h2
  | nil => exact seq_43 a0 c0 a1 c1 q
theorem seq_44 (hd0 : Pd 3 d0 p0) (he0 : Pd 3 e0 q0) (hd1 : Pd 3 d1 p1) (he1 : Pd 3 e1 q1) (q : Q (.bl (PyData.eqvAll [p0, p1] [q0, q1])) st) : Wx (Feq44 (tab K) [.ins 44 [d0, d1], .ins 44 [e0, e1]]) st Q := by
  have hi : (tab K).isi (.ins 44) (.own 44) = some true := rfl
  have hQ : PyData.eqvAll [p0, p1] [q0, q1] = (PyData.eqv p0 q0 && (PyData.eqv p1 q1 && true)) := by simp only [PyData.eqvAll]
  rw [hQ] at q
  have f0 := eqF (st := st) hd0 he0
  have n0 := eqN (st := st) hd0 he0
  generalize PyData.eqv p0 q0 = b0 at q f0 n0
  have f1 := eqF (st := st) hd1 he1
  have n1 := eqN (st := st) hd1 he1
  generalize PyData.eqv p1 q1 = b1 at q f1 n1
  cases b0 <;> cases b1
  all_goals
    refine wx_fn ?_
    unfold beq44
    repeat (first
    | with_reducible refine ws_ret ?_ | with_reducible refine ws_seq ?_ | with_reducible refine ws_if ?_ | with_reducible refine wx_or ?_ | with_reducible refine wx_not ?_ | with_reducible refine wx_fB ?_ | with_reducible refine wx_andV ?_ | with_reducible refine wx_isE ?_
    | with_reducible refine wx_op ?_ | with_reducible refine wx_fld ?_ | with_reducible refine wx_c ?_ | with_reducible refine wx_var rfl (fun z => nomatch z) ?_ | with_reducible refine then_nx ?_ | with_reducible refine then_rt ?_ | with_reducible refine ws_pass ?_
    | refine iteT ?_ | refine iteF ?_ | refine ⟨_, _, rfl, hi, ?_⟩ | refine ⟨_, rfl, ?_⟩ | with_reducible refine wx_fldI nt_44_box rfl ?_ | with_reducible refine wx_fldI nt_44_inputs rfl ?_ | with_reducible refine wx_eq hd0.ni f0 ?_ | with_reducible refine wx_eq hd0.ni n0 ?_ | with_reducible refine wx_eq hd1.ni f1 ?_ | with_reducible refine wx_eq hd1.ni n1 ?_)
    exact q
theorem sne_44 : NeS K 44 (Feq44 (tab K)) := by
  intro st Q c2 ds es hi q
  refine wx_fn ?_
  unfold beq44
  repeat (first
    | with_reducible refine ws_ret ?_ | with_reducible refine ws_seq ?_ | with_reducible refine ws_if ?_ | with_reducible refine wx_or ?_ | with_reducible refine wx_not ?_ | with_reducible refine wx_fB ?_ | with_reducible refine wx_andV ?_ | with_reducible refine wx_isE ?_
    | with_reducible refine wx_op ?_ | with_reducible refine wx_fld ?_ | with_reducible refine wx_c ?_ | with_reducible refine wx_var rfl (fun z => nomatch z) ?_ | with_reducible refine then_nx ?_ | with_reducible refine then_rt ?_ | with_reducible refine ws_pass ?_
    | refine iteT ?_ | refine iteF ?_ | refine ⟨_, _, rfl, hi, ?_⟩ | refine ⟨_, rfl, ?_⟩  )
  exact q
theorem sl_44 : EqS K 44 2 (Feq44 (tab K)) := by
  intro st Q ds es ps qs hp hq h1 h2 q
  cases hp with
  | nil => cases h1
  | cons a0 hp =>
  cases hq with
  | nil => cases h2
  | cons c0 hq =>
  cases hp with
  | nil => cases h1
  | cons a1 hp =>
  cases hq with
  | nil => cases h2
  | cons c1 hq =>
  cases hp with
  | cons _ _ => simp at h1
  | nil =>
  cases hq with
  | cons _ _ => simp at h2
  | nil => exact seq_44 a0 c0 a1 c1 q
theorem seq_45 (hd0 : Pd 3 d0 p0) (he0 : Pd 3 e0 q0) (hd1 : Pd 3 d1 p1) (he1 : Pd 3 e1 q1) (q : Q (.bl (PyData.eqvAll [p0, p1] [q0, q1])) st) : Wx (Feq45 (tab K) [.ins 45 [d0, d1], .ins 45 [e0, e1]]) st Q := by
  have hi : (tab K).isi (.ins 45) (.own 45) = some true := rfl
  refine wx_fn (ws_ret (wx_andV (wx_isE ?_)))
  refine wx_var rfl (fun z => nomatch z) ⟨_, _, rfl, hi, true, rfl, iteT ?_⟩
  refine wx_op (wx_tup (PuA.wx (G := fun _ => True) (ds := [d0, d1]) (pua_cons (pu_fldI (pu_var rfl (fun z => nomatch z)) nf_45_space rfl) (pua_cons (pu_fldI (pu_var rfl (fun z => nomatch z)) nf_45_rows rfl) pua_nil)) trivial ⟨Nat.le_of_ble_eq_true rfl, ?_⟩))
  refine wx_tup (PuA.wx (G := fun _ => True) (ds := [e0, e1]) (pua_cons (pu_fldI (pu_var rfl (fun z => nomatch z)) nf_45_space rfl) (pua_cons (pu_fldI (pu_var rfl (fun z => nomatch z)) nf_45_rows rfl) pua_nil)) trivial ⟨Nat.le_of_ble_eq_true rfl, ?_⟩)
  refine wx_eq (fun _ _ z => nomatch z) (eq_of ((pd_tup (n := 3) (ps := [p0, p1]) (.cons hd0 (.cons hd1 .nil))).rd st (by decide)) ((pd_tup (n := 3) (ps := [q0, q1]) (.cons he0 (.cons he1 .nil))).rd st (by decide))) ?_
  have hq : PyData.eqv (.tuple [p0, p1]) (.tuple [q0, q1]) = PyData.eqvAll [p0, p1] [q0, q1] := by simp only [PyData.eqv]
  rw [hq]
  exact q
theorem sne_45 : NeS K 45 (Feq45 (tab K)) := by
  intro st Q c2 ds es hi q
  refine wx_fn ?_
  unfold beq45
  repeat (first
    | with_reducible refine ws_ret ?_ | with_reducible refine ws_seq ?_ | with_reducible refine ws_if ?_ | with_reducible refine wx_or ?_ | with_reducible refine wx_not ?_ | with_reducible refine wx_fB ?_ | with_reducible refine wx_andV ?_ | with_reducible refine wx_isE ?_
    | with_reducible refine wx_op ?_ | with_reducible refine wx_fld ?_ | with_reducible refine wx_c ?_ | with_reducible refine wx_var rfl (fun z => nomatch z) ?_ | with_reducible refine then_nx ?_ | with_reducible refine then_rt ?_ | with_reducible refine ws_pass ?_
    | refine iteT ?_ | refine iteF ?_ | refine ⟨_, _, rfl, hi, ?_⟩ | refine ⟨_, rfl, ?_⟩  )
  exact q
theorem sl_45 : EqS K 45 2 (Feq45 (tab K)) := by
  intro st Q ds es ps qs hp hq h1 h2 q
  cases hp with
  | nil => cases h1
  | cons a0 hp =>
  cases hq with
  | nil => cases h2
  | cons c0 hq =>
  cases hp with
  | nil => cases h1
  | cons a1 hp =>
  cases hq with
  | nil => cases h2
  | cons c1 hq =>
  cases hp with
  | cons _ _ => simp at h1
  | nil =>
  cases hq with
  | cons _ _ => simp at h2
  | nil => exact seq_45 a0 c0 a1 c1 q
theorem seq_46 (hd0 : Pd 3 d0 p0) (he0 : Pd 3 e0 q0) (hd1 : Pd 3 d1 p1) (he1 : Pd 3 e1 q1) (hd2 : Pd 3 d2 p2) (he2 : Pd 3 e2 q2) (q : Q (.bl (PyData.eqvAll [p0, p1, p2] [q0, q1, q2])) st) : Wx (Feq46 (tab K) [.ins 46 [d0, d1, d2], .ins 46 [e0, e1, e2]]) st Q := by
  have hi : (tab K).isi (.ins 46) (.own 46) = some true := rfl
  have hQ : PyData.eqvAll [p0, p1, p2] [q0, q1, q2] = (PyData.eqv p0 q0 && (PyData.eqv p1 q1 && (PyData.eqv p2 q2 && true))) := by simp only [PyData.eqvAll]
  rw [hQ] at q
  have f0 := eqF (st := st) hd0 he0
  have n0 := eqN (st := st) hd0 he0
  generalize PyData.eqv p0 q0 = b0 at q f0 n0
  have f1 := eqF (st := st) hd1 he1
  have n1 := eqN (st := st) hd1 he1
  generalize PyData.eqv p1 q1 = b1 at q f1 n1
  have f2 := eqF (st := st) hd2 he2
  have n2 := eqN (st := st) hd2 he2
  generalize PyData.eqv p2 q2 = b2 at q f2 n2
  cases b0 <;> cases b1 <;> cases b2
  all_goals
    refine wx_fn ?_
    unfold beq46
    repeat (first
    | with_reducible refine ws_ret ?_ | with_reducible refine ws_seq ?_ | with_reducible refine ws_if ?_ | with_reducible refine wx_or ?_ | with_reducible refine wx_not ?_ | with_reducible refine wx_fB ?_ | with_reducible refine wx_andV ?_ | with_reducible refine wx_isE ?_
    | with_reducible refine wx_op ?_ | with_reducible refine wx_fld ?_ | with_reducible refine wx_c ?_ | with_reducible refine wx_var rfl (fun z => nomatch z) ?_ | with_reducible refine then_nx ?_ | with_reducible refine then_rt ?_ | with_reducible refine ws_pass ?_
    | refine iteT ?_ | refine iteF ?_ | refine ⟨_, _, rfl, hi, ?_⟩ | refine ⟨_, rfl, ?_⟩ | with_reducible refine wx_fldI nt_46_begin rfl ?_ | with_reducible refine wx_fldI nt_46_end rfl ?_ | with_reducible refine wx_fldI nt_46_why rfl ?_ | with_reducible refine wx_eq hd0.ni f0 ?_ | with_reducible refine wx_eq hd0.ni n0 ?_ | with_reducible refine wx_eq hd1.ni f1 ?_ | with_reducible refine wx_eq hd1.ni n1 ?_ | with_reducible refine wx_eq hd2.ni f2 ?_ | with_reducible refine wx_eq hd2.ni n2 ?_)
    exact q
theorem sne_46 : NeS K 46 (Feq46 (tab K)) := by
  intro st Q c2 ds es hi q
  refine wx_fn ?_
  unfold beq46
  repeat (first
    | with_reducible refine ws_ret ?_ | with_reducible refine ws_seq ?_ | with_reducible refine ws_if ?_ | with_reducible refine wx_or ?_ | with_reducible refine wx_not ?_ | with_reducible refine wx_fB ?_ | with_reducible refine wx_andV ?_ | with_reducible refine wx_isE ?_
    | with_reducible refine wx_op ?_ | with_reducible refine wx_fld ?_ | with_reducible refine wx_c ?_ | with_reducible refine wx_var rfl (fun z => nomatch z) ?_ | with_reducible refine then_nx ?_ | with_reducible refine then_rt ?_ | with_reducible refine ws_pass ?_
    | refine iteT ?_ | refine iteF ?_ | refine ⟨_, _, rfl, hi, ?_⟩ | refine ⟨_, rfl, ?_⟩  )
  exact q
theorem sl_46 : EqS K 46 3 (Feq46 (tab K)) := by
  intro st Q ds es ps qs hp hq h1 h2 q
  cases hp with
  | nil => cases h1
  | cons a0 hp =>
  cases hq with
  | nil => cases h2
  | cons c0 hq =>
  cases hp with
  | nil => cases h1
  | cons a1 hp =>
  cases hq with
  | nil => cases h2
  | cons c1 hq =>
  cases hp with
  | nil => cases h1
  | cons a2 hp =>
  cases hq with
  | nil => cases h2
  | cons c2 hq =>
  cases hp with
  | cons _ _ => simp at h1
  | nil =>
  cases hq with
  | cons _ _ => simp at h2
  | nil => exact seq_46 a0 c0 a1 c1 a2 c2 q
theorem seq_47 (hd0 : Pd 3 d0 p0) (he0 : Pd 3 e0 q0) (hd1 : Pd 3 d1 p1) (he1 : Pd 3 e1 q1) (hd2 : Pd 3 d2 p2) (he2 : Pd 3 e2 q2) (q : Q (.bl (PyData.eqvAll [p0, p1, p2] [q0, q1, q2])) st) : Wx (Feq47 (tab K) [.ins 47 [d0, d1, d2], .ins 47 [e0, e1, e2]]) st Q := by
  have hi : (tab K).isi (.ins 47) (.own 47) = some true := rfl
  refine wx_fn (ws_ret (wx_andV (wx_isE ?_)))
  refine wx_var rfl (fun z => nomatch z) ⟨_, _, rfl, hi, true, rfl, iteT ?_⟩
  refine wx_op (wx_tup (PuA.wx (G := fun _ => True) (ds := [d0, d1, d2]) (pua_cons (pu_fldI (pu_var rfl (fun z => nomatch z)) nf_47_plant rfl) (pua_cons (pu_fldI (pu_var rfl (fun z => nomatch z)) nf_47_rows rfl) (pua_cons (pu_fldI (pu_var rfl (fun z => nomatch z)) nf_47_table rfl) pua_nil))) trivial ⟨Nat.le_of_ble_eq_true rfl, ?_⟩))
  refine wx_tup (PuA.wx (G := fun _ => True) (ds := [e0, e1, e2]) (pua_cons (pu_fldI (pu_var rfl (fun z => nomatch z)) nf_47_plant rfl) (pua_cons (pu_fldI (pu_var rfl (fun z => nomatch z)) nf_47_rows rfl) (pua_cons (pu_fldI (pu_var rfl (fun z => nomatch z)) nf_47_table rfl) pua_nil))) trivial ⟨Nat.le_of_ble_eq_true rfl, ?_⟩)
  refine wx_eq (fun _ _ z => nomatch z) (eq_of ((pd_tup (n := 3) (ps := [p0, p1, p2]) (.cons hd0 (.cons hd1 (.cons hd2 .nil)))).rd st (by decide)) ((pd_tup (n := 3) (ps := [q0, q1, q2]) (.cons he0 (.cons he1 (.cons he2 .nil)))).rd st (by decide))) ?_
  have hq : PyData.eqv (.tuple [p0, p1, p2]) (.tuple [q0, q1, q2]) = PyData.eqvAll [p0, p1, p2] [q0, q1, q2] := by simp only [PyData.eqv]
  rw [hq]
  exact q
theorem sne_47 : NeS K 47 (Feq47 (tab K)) := by
  intro st Q c2 ds es hi q
  refine wx_fn ?_
  unfold beq47
  repeat (first
    | with_reducible refine ws_ret ?_ | with_reducible refine ws_seq ?_ | with_reducible refine ws_if ?_ | with_reducible refine wx_or ?_ | with_reducible refine wx_not ?_ | with_reducible refine wx_fB ?_ | with_reducible refine wx_andV ?_ | with_reducible refine wx_isE ?_
    | with_reducible refine wx_op ?_ | with_reducible refine wx_fld ?_ | with_reducible refine wx_c ?_ | with_reducible refine wx_var rfl (fun z => nomatch z) ?_ | with_reducible refine then_nx ?_ | with_reducible refine then_rt ?_ | with_reducible refine ws_pass ?_
    | refine iteT ?_ | refine iteF ?_ | refine ⟨_, _, rfl, hi, ?_⟩ | refine ⟨_, rfl, ?_⟩  )
  exact q
theorem sl_47 : EqS K 47 3 (Feq47 (tab K)) := by
  intro st Q ds es ps qs hp hq h1 h2 q
  cases hp with
  | nil => cases h1
  | cons a0 hp =>
  cases hq with
  | nil => cases h2
  | cons c0 hq =>
  cases hp with
  | nil => cases h1
  | cons a1 hp =>
  cases hq with
  | nil => cases h2
  | cons c1 hq =>
  cases hp with
  | nil => cases h1
  | cons a2 hp =>
  cases hq with
  | nil => cases h2
  | cons c2 hq =>
  cases hp with
  | cons _ _ => simp at h1
  | nil =>
  cases hq with
  | cons _ _ => simp at h2
  | nil => exact seq_47 a0 c0 a1 c1 a2 c2 q
theorem seq_48 (hd0 : Pd 3 d0 p0) (he0 : Pd 3 e0 q0) (hd1 : Pd 3 d1 p1) (he1 : Pd 3 e1 q1) (hd2 : Pd 3 d2 p2) (he2 : Pd 3 e2 q2) (hd3 : Pd 3 d3 p3) (he3 : Pd 3 e3 q3) (q : Q (.bl (PyData.eqvAll [p0, p1, p2, p3] [q0, q1, q2, q3])) st) : Wx (Feq48 (tab K) [.ins 48 [d0, d1, d2, d3], .ins 48 [e0, e1, e2, e3]]) st Q := by
  have hi : (tab K).isi (.ins 48) (.own 48) = some true := rfl
  have hQ : PyData.eqvAll [p0, p1, p2, p3] [q0, q1, q2, q3] = (PyData.eqv p0 q0 && (PyData.eqv p1 q1 && (PyData.eqv p2 q2 && (PyData.eqv p3 q3 && true)))) := by simp only [PyData.eqvAll]
  rw [hQ] at q
  have f0 := eqF (st := st) hd0 he0
  have n0 := eqN (st := st) hd0 he0
  generalize PyData.eqv p0 q0 = b0 at q f0 n0
  have f1 := eqF (st := st) hd1 he1
  have n1 := eqN (st := st) hd1 he1
  generalize PyData.eqv p1 q1 = b1 at q f1 n1
  have f2 := eqF (st := st) hd2 he2
  have n2 := eqN (st := st) hd2 he2
  generalize PyData.eqv p2 q2 = b2 at q f2 n2
  have f3 := eqF (st := st) hd3 he3
  have n3 := eqN (st := st) hd3 he3
  generalize PyData.eqv p3 q3 = b3 at q f3 n3
  cases b0 <;> cases b1 <;> cases b2 <;> cases b3
  all_goals
    refine wx_fn ?_
    unfold beq48
    repeat (first
    | with_reducible refine ws_ret ?_ | with_reducible refine ws_seq ?_ | with_reducible refine ws_if ?_ | with_reducible refine wx_or ?_ | with_reducible refine wx_not ?_ | with_reducible refine wx_fB ?_ | with_reducible refine wx_andV ?_ | with_reducible refine wx_isE ?_
    | with_reducible refine wx_op ?_ | with_reducible refine wx_fld ?_ | with_reducible refine wx_c ?_ | with_reducible refine wx_var rfl (fun z => nomatch z) ?_ | with_reducible refine then_nx ?_ | with_reducible refine then_rt ?_ | with_reducible refine ws_pass ?_
    | refine iteT ?_ | refine iteF ?_ | refine ⟨_, _, rfl, hi, ?_⟩ | refine ⟨_, rfl, ?_⟩ | with_reducible refine wx_fldI nt_48_state rfl ?_ | with_reducible refine wx_fldI nt_48_parts rfl ?_ | with_reducible refine wx_fldI nt_48_low rfl ?_ | with_reducible refine wx_fldI nt_48_high rfl ?_ | with_reducible refine wx_eq hd0.ni f0 ?_ | with_reducible refine wx_eq hd0.ni n0 ?_ | with_reducible refine wx_eq hd1.ni f1 ?_ | with_reducible refine wx_eq hd1.ni n1 ?_ | with_reducible refine wx_eq hd2.ni f2 ?_ | with_reducible refine wx_eq hd2.ni n2 ?_ | with_reducible refine wx_eq hd3.ni f3 ?_ | with_reducible refine wx_eq hd3.ni n3 ?_)
    exact q
theorem sne_48 : NeS K 48 (Feq48 (tab K)) := by
  intro st Q c2 ds es hi q
  refine wx_fn ?_
  unfold beq48
  repeat (first
    | with_reducible refine ws_ret ?_ | with_reducible refine ws_seq ?_ | with_reducible refine ws_if ?_ | with_reducible refine wx_or ?_ | with_reducible refine wx_not ?_ | with_reducible refine wx_fB ?_ | with_reducible refine wx_andV ?_ | with_reducible refine wx_isE ?_
    | with_reducible refine wx_op ?_ | with_reducible refine wx_fld ?_ | with_reducible refine wx_c ?_ | with_reducible refine wx_var rfl (fun z => nomatch z) ?_ | with_reducible refine then_nx ?_ | with_reducible refine then_rt ?_ | with_reducible refine ws_pass ?_
    | refine iteT ?_ | refine iteF ?_ | refine ⟨_, _, rfl, hi, ?_⟩ | refine ⟨_, rfl, ?_⟩  )
  exact q
theorem sl_48 : EqS K 48 4 (Feq48 (tab K)) := by
  intro st Q ds es ps qs hp hq h1 h2 q
  cases hp with
  | nil => cases h1
  | cons a0 hp =>
  cases hq with
  | nil => cases h2
  | cons c0 hq =>
  cases hp with
  | nil => cases h1
  | cons a1 hp =>
  cases hq with
  | nil => cases h2
  | cons c1 hq =>
  cases hp with
  | nil => cases h1
  | cons a2 hp =>
  cases hq with
  | nil => cases h2
  | cons c2 hq =>
  cases hp with
  | nil => cases h1
  | cons a3 hp =>
  cases hq with
  | nil => cases h2
  | cons c3 hq =>
  cases hp with
  | cons _ _ => simp at h1
  | nil =>
  cases hq with
  | cons _ _ => simp at h2
  | nil => exact seq_48 a0 c0 a1 c1 a2 c2 a3 c3 q
theorem seq_49 (hd0 : Pd 3 d0 p0) (he0 : Pd 3 e0 q0) (hd1 : Pd 3 d1 p1) (he1 : Pd 3 e1 q1) (hd2 : Pd 3 d2 p2) (he2 : Pd 3 e2 q2) (hd3 : Pd 3 d3 p3) (he3 : Pd 3 e3 q3) (q : Q (.bl (PyData.eqvAll [p0, p1, p2, p3] [q0, q1, q2, q3])) st) : Wx (Feq49 (tab K) [.ins 49 [d0, d1, d2, d3], .ins 49 [e0, e1, e2, e3]]) st Q := by
  have hi : (tab K).isi (.ins 49) (.own 49) = some true := rfl
  have hQ : PyData.eqvAll [p0, p1, p2, p3] [q0, q1, q2, q3] = (PyData.eqv p0 q0 && (PyData.eqv p1 q1 && (PyData.eqv p2 q2 && (PyData.eqv p3 q3 && true)))) := by simp only [PyData.eqvAll]
  rw [hQ] at q
  have f0 := eqF (st := st) hd0 he0
  have n0 := eqN (st := st) hd0 he0
  generalize PyData.eqv p0 q0 = b0 at q f0 n0
  have f1 := eqF (st := st) hd1 he1
  have n1 := eqN (st := st) hd1 he1
  generalize PyData.eqv p1 q1 = b1 at q f1 n1
  have f2 := eqF (st := st) hd2 he2
  have n2 := eqN (st := st) hd2 he2
  generalize PyData.eqv p2 q2 = b2 at q f2 n2
  have f3 := eqF (st := st) hd3 he3
  have n3 := eqN (st := st) hd3 he3
  generalize PyData.eqv p3 q3 = b3 at q f3 n3
  cases b0 <;> cases b1 <;> cases b2 <;> cases b3
  all_goals
    refine wx_fn ?_
    unfold beq49
    repeat (first
    | with_reducible refine ws_ret ?_ | with_reducible refine ws_seq ?_ | with_reducible refine ws_if ?_ | with_reducible refine wx_or ?_ | with_reducible refine wx_not ?_ | with_reducible refine wx_fB ?_ | with_reducible refine wx_andV ?_ | with_reducible refine wx_isE ?_
    | with_reducible refine wx_op ?_ | with_reducible refine wx_fld ?_ | with_reducible refine wx_c ?_ | with_reducible refine wx_var rfl (fun z => nomatch z) ?_ | with_reducible refine then_nx ?_ | with_reducible refine then_rt ?_ | with_reducible refine ws_pass ?_
    | refine iteT ?_ | refine iteF ?_ | refine ⟨_, _, rfl, hi, ?_⟩ | refine ⟨_, rfl, ?_⟩ | with_reducible refine wx_fldI nt_49_value rfl ?_ | with_reducible refine wx_fldI nt_49_lot rfl ?_ | with_reducible refine wx_fldI nt_49_plant rfl ?_ | with_reducible refine wx_fldI nt_49_ray rfl ?_ | with_reducible refine wx_eq hd0.ni f0 ?_ | with_reducible refine wx_eq hd0.ni n0 ?_ | with_reducible refine wx_eq hd1.ni f1 ?_ | with_reducible refine wx_eq hd1.ni n1 ?_ | with_reducible refine wx_eq hd2.ni f2 ?_ | with_reducible refine wx_eq hd2.ni n2 ?_ | with_reducible refine wx_eq hd3.ni f3 ?_ | with_reducible refine wx_eq hd3.ni n3 ?_)
    exact q
theorem sne_49 : NeS K 49 (Feq49 (tab K)) := by
  intro st Q c2 ds es hi q
  refine wx_fn ?_
  unfold beq49
  repeat (first
    | with_reducible refine ws_ret ?_ | with_reducible refine ws_seq ?_ | with_reducible refine ws_if ?_ | with_reducible refine wx_or ?_ | with_reducible refine wx_not ?_ | with_reducible refine wx_fB ?_ | with_reducible refine wx_andV ?_ | with_reducible refine wx_isE ?_
    | with_reducible refine wx_op ?_ | with_reducible refine wx_fld ?_ | with_reducible refine wx_c ?_ | with_reducible refine wx_var rfl (fun z => nomatch z) ?_ | with_reducible refine then_nx ?_ | with_reducible refine then_rt ?_ | with_reducible refine ws_pass ?_
    | refine iteT ?_ | refine iteF ?_ | refine ⟨_, _, rfl, hi, ?_⟩ | refine ⟨_, rfl, ?_⟩  )
  exact q
theorem sl_49 : EqS K 49 4 (Feq49 (tab K)) := by
  intro st Q ds es ps qs hp hq h1 h2 q
  cases hp with
  | nil => cases h1
  | cons a0 hp =>
  cases hq with
  | nil => cases h2
  | cons c0 hq =>
  cases hp with
  | nil => cases h1
  | cons a1 hp =>
  cases hq with
  | nil => cases h2
  | cons c1 hq =>
  cases hp with
  | nil => cases h1
  | cons a2 hp =>
  cases hq with
  | nil => cases h2
  | cons c2 hq =>
  cases hp with
  | nil => cases h1
  | cons a3 hp =>
  cases hq with
  | nil => cases h2
  | cons c3 hq =>
  cases hp with
  | cons _ _ => simp at h1
  | nil =>
  cases hq with
  | cons _ _ => simp at h2
  | nil => exact seq_49 a0 c0 a1 c1 a2 c2 a3 c3 q
theorem seq_50 (hd0 : Pd 3 d0 p0) (he0 : Pd 3 e0 q0) (hd1 : Pd 3 d1 p1) (he1 : Pd 3 e1 q1) (q : Q (.bl (PyData.eqvAll [p0, p1] [q0, q1])) st) : Wx (Feq50 (tab K) [.ins 50 [d0, d1], .ins 50 [e0, e1]]) st Q := by
  have hi : (tab K).isi (.ins 50) (.own 50) = some true := rfl
  have hQ : PyData.eqvAll [p0, p1] [q0, q1] = (PyData.eqv p0 q0 && (PyData.eqv p1 q1 && true)) := by simp only [PyData.eqvAll]
  rw [hQ] at q
  have f0 := eqF (st := st) hd0 he0
  have n0 := eqN (st := st) hd0 he0
  generalize PyData.eqv p0 q0 = b0 at q f0 n0
  have f1 := eqF (st := st) hd1 he1
  have n1 := eqN (st := st) hd1 he1
  generalize PyData.eqv p1 q1 = b1 at q f1 n1
  cases b0 <;> cases b1
  all_goals
    refine wx_fn ?_
    unfold beq50
    repeat (first
    | with_reducible refine ws_ret ?_ | with_reducible refine ws_seq ?_ | with_reducible refine ws_if ?_ | with_reducible refine wx_or ?_ | with_reducible refine wx_not ?_ | with_reducible refine wx_fB ?_ | with_reducible refine wx_andV ?_ | with_reducible refine wx_isE ?_
    | with_reducible refine wx_op ?_ | with_reducible refine wx_fld ?_ | with_reducible refine wx_c ?_ | with_reducible refine wx_var rfl (fun z => nomatch z) ?_ | with_reducible refine then_nx ?_ | with_reducible refine then_rt ?_ | with_reducible refine ws_pass ?_
    | refine iteT ?_ | refine iteF ?_ | refine ⟨_, _, rfl, hi, ?_⟩ | refine ⟨_, rfl, ?_⟩ | with_reducible refine wx_fldI nt_50_low rfl ?_ | with_reducible refine wx_fldI nt_50_high rfl ?_ | with_reducible refine wx_eq hd0.ni f0 ?_ | with_reducible refine wx_eq hd0.ni n0 ?_ | with_reducible refine wx_eq hd1.ni f1 ?_ | with_reducible refine wx_eq hd1.ni n1 ?_)
    exact q
theorem sne_50 : NeS K 50 (Feq50 (tab K)) := by
  intro st Q c2 ds es hi q
  refine wx_fn ?_
  unfold beq50
  repeat (first
    | with_reducible refine ws_ret ?_ | with_reducible refine ws_seq ?_ | with_reducible refine ws_if ?_ | with_reducible refine wx_or ?_ | with_reducible refine wx_not ?_ | with_reducible refine wx_fB ?_ | with_reducible refine wx_andV ?_ | with_reducible refine wx_isE ?_
    | with_reducible refine wx_op ?_ | with_reducible refine wx_fld ?_ | with_reducible refine wx_c ?_ | with_reducible refine wx_var rfl (fun z => nomatch z) ?_ | with_reducible refine then_nx ?_ | with_reducible refine then_rt ?_ | with_reducible refine ws_pass ?_
    | refine iteT ?_ | refine iteF ?_ | refine ⟨_, _, rfl, hi, ?_⟩ | refine ⟨_, rfl, ?_⟩  )
  exact q
theorem sl_50 : EqS K 50 2 (Feq50 (tab K)) := by
  intro st Q ds es ps qs hp hq h1 h2 q
  cases hp with
  | nil => cases h1
  | cons a0 hp =>
  cases hq with
  | nil => cases h2
  | cons c0 hq =>
  cases hp with
  | nil => cases h1
  | cons a1 hp =>
  cases hq with
  | nil => cases h2
  | cons c1 hq =>
  cases hp with
  | cons _ _ => simp at h1
  | nil =>
  cases hq with
  | cons _ _ => simp at h2
  | nil => exact seq_50 a0 c0 a1 c1 q
theorem seq_51 (hd0 : Pd 3 d0 p0) (he0 : Pd 3 e0 q0) (hd1 : Pd 3 d1 p1) (he1 : Pd 3 e1 q1) (hd2 : Pd 3 d2 p2) (he2 : Pd 3 e2 q2) (hd3 : Pd 3 d3 p3) (he3 : Pd 3 e3 q3) (q : Q (.bl (PyData.eqvAll [p0, p1, p2, p3] [q0, q1, q2, q3])) st) : Wx (Feq51 (tab K) [.ins 51 [d0, d1, d2, d3], .ins 51 [e0, e1, e2, e3]]) st Q := by
  have hi : (tab K).isi (.ins 51) (.own 51) = some true := rfl
  have hQ : PyData.eqvAll [p0, p1, p2, p3] [q0, q1, q2, q3] = (PyData.eqv p0 q0 && (PyData.eqv p1 q1 && (PyData.eqv p2 q2 && (PyData.eqv p3 q3 && true)))) := by simp only [PyData.eqvAll]
  rw [hQ] at q
  have f0 := eqF (st := st) hd0 he0
  have n0 := eqN (st := st) hd0 he0
  generalize PyData.eqv p0 q0 = b0 at q f0 n0
  have f1 := eqF (st := st) hd1 he1
  have n1 := eqN (st := st) hd1 he1
  generalize PyData.eqv p1 q1 = b1 at q f1 n1
  have f2 := eqF (st := st) hd2 he2
  have n2 := eqN (st := st) hd2 he2
  generalize PyData.eqv p2 q2 = b2 at q f2 n2
  have f3 := eqF (st := st) hd3 he3
  have n3 := eqN (st := st) hd3 he3
  generalize PyData.eqv p3 q3 = b3 at q f3 n3
  cases b0 <;> cases b1 <;> cases b2 <;> cases b3
  all_goals
    refine wx_fn ?_
    unfold beq51
    repeat (first
    | with_reducible refine ws_ret ?_ | with_reducible refine ws_seq ?_ | with_reducible refine ws_if ?_ | with_reducible refine wx_or ?_ | with_reducible refine wx_not ?_ | with_reducible refine wx_fB ?_ | with_reducible refine wx_andV ?_ | with_reducible refine wx_isE ?_
    | with_reducible refine wx_op ?_ | with_reducible refine wx_fld ?_ | with_reducible refine wx_c ?_ | with_reducible refine wx_var rfl (fun z => nomatch z) ?_ | with_reducible refine then_nx ?_ | with_reducible refine then_rt ?_ | with_reducible refine ws_pass ?_
    | refine iteT ?_ | refine iteF ?_ | refine ⟨_, _, rfl, hi, ?_⟩ | refine ⟨_, rfl, ?_⟩ | with_reducible refine wx_fldI nt_51_lot rfl ?_ | with_reducible refine wx_fldI nt_51_plant rfl ?_ | with_reducible refine wx_fldI nt_51_state rfl ?_ | with_reducible refine wx_fldI nt_51_side rfl ?_ | with_reducible refine wx_eq hd0.ni f0 ?_ | with_reducible refine wx_eq hd0.ni n0 ?_ | with_reducible refine wx_eq hd1.ni f1 ?_ | with_reducible refine wx_eq hd1.ni n1 ?_ | with_reducible refine wx_eq hd2.ni f2 ?_ | with_reducible refine wx_eq hd2.ni n2 ?_ | with_reducible refine wx_eq hd3.ni f3 ?_ | with_reducible refine wx_eq hd3.ni n3 ?_)
    exact q
theorem sne_51 : NeS K 51 (Feq51 (tab K)) := by
  intro st Q c2 ds es hi q
  refine wx_fn ?_
  unfold beq51
  repeat (first
    | with_reducible refine ws_ret ?_ | with_reducible refine ws_seq ?_ | with_reducible refine ws_if ?_ | with_reducible refine wx_or ?_ | with_reducible refine wx_not ?_ | with_reducible refine wx_fB ?_ | with_reducible refine wx_andV ?_ | with_reducible refine wx_isE ?_
    | with_reducible refine wx_op ?_ | with_reducible refine wx_fld ?_ | with_reducible refine wx_c ?_ | with_reducible refine wx_var rfl (fun z => nomatch z) ?_ | with_reducible refine then_nx ?_ | with_reducible refine then_rt ?_ | with_reducible refine ws_pass ?_
    | refine iteT ?_ | refine iteF ?_ | refine ⟨_, _, rfl, hi, ?_⟩ | refine ⟨_, rfl, ?_⟩  )
  exact q
theorem sl_51 : EqS K 51 4 (Feq51 (tab K)) := by
  intro st Q ds es ps qs hp hq h1 h2 q
  cases hp with
  | nil => cases h1
  | cons a0 hp =>
  cases hq with
  | nil => cases h2
  | cons c0 hq =>
  cases hp with
  | nil => cases h1
  | cons a1 hp =>
  cases hq with
  | nil => cases h2
  | cons c1 hq =>
  cases hp with
  | nil => cases h1
  | cons a2 hp =>
  cases hq with
  | nil => cases h2
  | cons c2 hq =>
  cases hp with
  | nil => cases h1
  | cons a3 hp =>
  cases hq with
  | nil => cases h2
  | cons c3 hq =>
  cases hp with
  | cons _ _ => simp at h1
  | nil =>
  cases hq with
  | cons _ _ => simp at h2
  | nil => exact seq_51 a0 c0 a1 c1 a2 c2 a3 c3 q
theorem seq_52 (hd0 : Pd 3 d0 p0) (he0 : Pd 3 e0 q0) (hd1 : Pd 3 d1 p1) (he1 : Pd 3 e1 q1) (q : Q (.bl (PyData.eqvAll [p0, p1] [q0, q1])) st) : Wx (Feq52 (tab K) [.ins 52 [d0, d1], .ins 52 [e0, e1]]) st Q := by
  have hi : (tab K).isi (.ins 52) (.own 52) = some true := rfl
  have hQ : PyData.eqvAll [p0, p1] [q0, q1] = (PyData.eqv p0 q0 && (PyData.eqv p1 q1 && true)) := by simp only [PyData.eqvAll]
  rw [hQ] at q
  have f0 := eqF (st := st) hd0 he0
  have n0 := eqN (st := st) hd0 he0
  generalize PyData.eqv p0 q0 = b0 at q f0 n0
  have f1 := eqF (st := st) hd1 he1
  have n1 := eqN (st := st) hd1 he1
  generalize PyData.eqv p1 q1 = b1 at q f1 n1
  cases b0 <;> cases b1
  all_goals
    refine wx_fn ?_
    unfold beq52
    repeat (first
    | with_reducible refine ws_ret ?_ | with_reducible refine ws_seq ?_ | with_reducible refine ws_if ?_ | with_reducible refine wx_or ?_ | with_reducible refine wx_not ?_ | with_reducible refine wx_fB ?_ | with_reducible refine wx_andV ?_ | with_reducible refine wx_isE ?_
    | with_reducible refine wx_op ?_ | with_reducible refine wx_fld ?_ | with_reducible refine wx_c ?_ | with_reducible refine wx_var rfl (fun z => nomatch z) ?_ | with_reducible refine then_nx ?_ | with_reducible refine then_rt ?_ | with_reducible refine ws_pass ?_
    | refine iteT ?_ | refine iteF ?_ | refine ⟨_, _, rfl, hi, ?_⟩ | refine ⟨_, rfl, ?_⟩ | with_reducible refine wx_fldI nt_52_place rfl ?_ | with_reducible refine wx_fldI nt_52_side rfl ?_ | with_reducible refine wx_eq hd0.ni f0 ?_ | with_reducible refine wx_eq hd0.ni n0 ?_ | with_reducible refine wx_eq hd1.ni f1 ?_ | with_reducible refine wx_eq hd1.ni n1 ?_)
    exact q
theorem sne_52 : NeS K 52 (Feq52 (tab K)) := by
  intro st Q c2 ds es hi q
  refine wx_fn ?_
  unfold beq52
  repeat (first
    | with_reducible refine ws_ret ?_ | with_reducible refine ws_seq ?_ | with_reducible refine ws_if ?_ | with_reducible refine wx_or ?_ | with_reducible refine wx_not ?_ | with_reducible refine wx_fB ?_ | with_reducible refine wx_andV ?_ | with_reducible refine wx_isE ?_
    | with_reducible refine wx_op ?_ | with_reducible refine wx_fld ?_ | with_reducible refine wx_c ?_ | with_reducible refine wx_var rfl (fun z => nomatch z) ?_ | with_reducible refine then_nx ?_ | with_reducible refine then_rt ?_ | with_reducible refine ws_pass ?_
    | refine iteT ?_ | refine iteF ?_ | refine ⟨_, _, rfl, hi, ?_⟩ | refine ⟨_, rfl, ?_⟩  )
  exact q
theorem sl_52 : EqS K 52 2 (Feq52 (tab K)) := by
  intro st Q ds es ps qs hp hq h1 h2 q
  cases hp with
  | nil => cases h1
  | cons a0 hp =>
  cases hq with
  | nil => cases h2
  | cons c0 hq =>
  cases hp with
  | nil => cases h1
  | cons a1 hp =>
  cases hq with
  | nil => cases h2
  | cons c1 hq =>
  cases hp with
  | cons _ _ => simp at h1
  | nil =>
  cases hq with
  | cons _ _ => simp at h2
  | nil => exact seq_52 a0 c0 a1 c1 q
theorem seq_53 (hd0 : Pd 3 d0 p0) (he0 : Pd 3 e0 q0) (hd1 : Pd 3 d1 p1) (he1 : Pd 3 e1 q1) (hd2 : Pd 3 d2 p2) (he2 : Pd 3 e2 q2) (q : Q (.bl (PyData.eqvAll [p0, p1, p2] [q0, q1, q2])) st) : Wx (Feq53 (tab K) [.ins 53 [d0, d1, d2], .ins 53 [e0, e1, e2]]) st Q := by
  have hi : (tab K).isi (.ins 53) (.own 53) = some true := rfl
  have hQ : PyData.eqvAll [p0, p1, p2] [q0, q1, q2] = (PyData.eqv p0 q0 && (PyData.eqv p1 q1 && (PyData.eqv p2 q2 && true))) := by simp only [PyData.eqvAll]
  rw [hQ] at q
  have f0 := eqF (st := st) hd0 he0
  have n0 := eqN (st := st) hd0 he0
  generalize PyData.eqv p0 q0 = b0 at q f0 n0
  have f1 := eqF (st := st) hd1 he1
  have n1 := eqN (st := st) hd1 he1
  generalize PyData.eqv p1 q1 = b1 at q f1 n1
  have f2 := eqF (st := st) hd2 he2
  have n2 := eqN (st := st) hd2 he2
  generalize PyData.eqv p2 q2 = b2 at q f2 n2
  cases b0 <;> cases b1 <;> cases b2
  all_goals
    refine wx_fn ?_
    unfold beq53
    repeat (first
    | with_reducible refine ws_ret ?_ | with_reducible refine ws_seq ?_ | with_reducible refine ws_if ?_ | with_reducible refine wx_or ?_ | with_reducible refine wx_not ?_ | with_reducible refine wx_fB ?_ | with_reducible refine wx_andV ?_ | with_reducible refine wx_isE ?_
    | with_reducible refine wx_op ?_ | with_reducible refine wx_fld ?_ | with_reducible refine wx_c ?_ | with_reducible refine wx_var rfl (fun z => nomatch z) ?_ | with_reducible refine then_nx ?_ | with_reducible refine then_rt ?_ | with_reducible refine ws_pass ?_
    | refine iteT ?_ | refine iteF ?_ | refine ⟨_, _, rfl, hi, ?_⟩ | refine ⟨_, rfl, ?_⟩ | with_reducible refine wx_fldI nt_53_corner rfl ?_ | with_reducible refine wx_fldI nt_53_blows rfl ?_ | with_reducible refine wx_fldI nt_53_weights rfl ?_ | with_reducible refine wx_eq hd0.ni f0 ?_ | with_reducible refine wx_eq hd0.ni n0 ?_ | with_reducible refine wx_eq hd1.ni f1 ?_ | with_reducible refine wx_eq hd1.ni n1 ?_ | with_reducible refine wx_eq hd2.ni f2 ?_ | with_reducible refine wx_eq hd2.ni n2 ?_)
    exact q
theorem sne_53 : NeS K 53 (Feq53 (tab K)) := by
  intro st Q c2 ds es hi q
  refine wx_fn ?_
  unfold beq53
  repeat (first
    | with_reducible refine ws_ret ?_ | with_reducible refine ws_seq ?_ | with_reducible refine ws_if ?_ | with_reducible refine wx_or ?_ | with_reducible refine wx_not ?_ | with_reducible refine wx_fB ?_ | with_reducible refine wx_andV ?_ | with_reducible refine wx_isE ?_
    | with_reducible refine wx_op ?_ | with_reducible refine wx_fld ?_ | with_reducible refine wx_c ?_ | with_reducible refine wx_var rfl (fun z => nomatch z) ?_ | with_reducible refine then_nx ?_ | with_reducible refine then_rt ?_ | with_reducible refine ws_pass ?_
    | refine iteT ?_ | refine iteF ?_ | refine ⟨_, _, rfl, hi, ?_⟩ | refine ⟨_, rfl, ?_⟩  )
  exact q
theorem sl_53 : EqS K 53 3 (Feq53 (tab K)) := by
  intro st Q ds es ps qs hp hq h1 h2 q
  cases hp with
  | nil => cases h1
  | cons a0 hp =>
  cases hq with
  | nil => cases h2
  | cons c0 hq =>
  cases hp with
  | nil => cases h1
  | cons a1 hp =>
  cases hq with
  | nil => cases h2
  | cons c1 hq =>
  cases hp with
  | nil => cases h1
  | cons a2 hp =>
  cases hq with
  | nil => cases h2
  | cons c2 hq =>
  cases hp with
  | cons _ _ => simp at h1
  | nil =>
  cases hq with
  | cons _ _ => simp at h2
  | nil => exact seq_53 a0 c0 a1 c1 a2 c2 q
theorem seq_54 (hd0 : Pd 3 d0 p0) (he0 : Pd 3 e0 q0) (hd1 : Pd 3 d1 p1) (he1 : Pd 3 e1 q1) (hd2 : Pd 3 d2 p2) (he2 : Pd 3 e2 q2) (hd3 : Pd 3 d3 p3) (he3 : Pd 3 e3 q3) (q : Q (.bl (PyData.eqvAll [p0, p1, p2, p3] [q0, q1, q2, q3])) st) : Wx (Feq54 (tab K) [.ins 54 [d0, d1, d2, d3], .ins 54 [e0, e1, e2, e3]]) st Q := by
  have hi : (tab K).isi (.ins 54) (.own 54) = some true := rfl
  refine wx_fn (ws_ret (wx_andV (wx_isE ?_)))
  refine wx_var rfl (fun z => nomatch z) ⟨_, _, rfl, hi, true, rfl, iteT ?_⟩
  refine wx_op (wx_tup (PuA.wx (G := fun _ => True) (ds := [d0, d1, d2, d3]) (pua_cons (pu_fldI (pu_var rfl (fun z => nomatch z)) nf_54_puts rfl) (pua_cons (pu_fldI (pu_var rfl (fun z => nomatch z)) nf_54_states rfl) (pua_cons (pu_fldI (pu_var rfl (fun z => nomatch z)) nf_54_space rfl) (pua_cons (pu_fldI (pu_var rfl (fun z => nomatch z)) nf_54_table rfl) pua_nil)))) trivial ⟨Nat.le_of_ble_eq_true rfl, ?_⟩))
  refine wx_tup (PuA.wx (G := fun _ => True) (ds := [e0, e1, e2, e3]) (pua_cons (pu_fldI (pu_var rfl (fun z => nomatch z)) nf_54_puts rfl) (pua_cons (pu_fldI (pu_var rfl (fun z => nomatch z)) nf_54_states rfl) (pua_cons (pu_fldI (pu_var rfl (fun z => nomatch z)) nf_54_space rfl) (pua_cons (pu_fldI (pu_var rfl (fun z => nomatch z)) nf_54_table rfl) pua_nil)))) trivial ⟨Nat.le_of_ble_eq_true rfl, ?_⟩)
  refine wx_eq (fun _ _ z => nomatch z) (eq_of ((pd_tup (n := 3) (ps := [p0, p1, p2, p3]) (.cons hd0 (.cons hd1 (.cons hd2 (.cons hd3 .nil))))).rd st (by decide)) ((pd_tup (n := 3) (ps := [q0, q1, q2, q3]) (.cons he0 (.cons he1 (.cons he2 (.cons he3 .nil))))).rd st (by decide))) ?_
  have hq : PyData.eqv (.tuple [p0, p1, p2, p3]) (.tuple [q0, q1, q2, q3]) = PyData.eqvAll [p0, p1, p2, p3] [q0, q1, q2, q3] := by simp only [PyData.eqv]
  rw [hq]
  exact q
theorem sne_54 : NeS K 54 (Feq54 (tab K)) := by
  intro st Q c2 ds es hi q
  refine wx_fn ?_
  unfold beq54
  repeat (first
    | with_reducible refine ws_ret ?_ | with_reducible refine ws_seq ?_ | with_reducible refine ws_if ?_ | with_reducible refine wx_or ?_ | with_reducible refine wx_not ?_ | with_reducible refine wx_fB ?_ | with_reducible refine wx_andV ?_ | with_reducible refine wx_isE ?_
    | with_reducible refine wx_op ?_ | with_reducible refine wx_fld ?_ | with_reducible refine wx_c ?_ | with_reducible refine wx_var rfl (fun z => nomatch z) ?_ | with_reducible refine then_nx ?_ | with_reducible refine then_rt ?_ | with_reducible refine ws_pass ?_
    | refine iteT ?_ | refine iteF ?_ | refine ⟨_, _, rfl, hi, ?_⟩ | refine ⟨_, rfl, ?_⟩  )
  exact q
theorem sl_54 : EqS K 54 4 (Feq54 (tab K)) := by
  intro st Q ds es ps qs hp hq h1 h2 q
  cases hp with
  | nil => cases h1
  | cons a0 hp =>
  cases hq with
  | nil => cases h2
  | cons c0 hq =>
  cases hp with
  | nil => cases h1
  | cons a1 hp =>
  cases hq with
  | nil => cases h2
  | cons c1 hq =>
  cases hp with
  | nil => cases h1
  | cons a2 hp =>
  cases hq with
  | nil => cases h2
  | cons c2 hq =>
  cases hp with
  | nil => cases h1
  | cons a3 hp =>
  cases hq with
  | nil => cases h2
  | cons c3 hq =>
  cases hp with
  | cons _ _ => simp at h1
  | nil =>
  cases hq with
  | cons _ _ => simp at h2
  | nil => exact seq_54 a0 c0 a1 c1 a2 c2 a3 c3 q
theorem seq_55 (hd0 : Pd 3 d0 p0) (he0 : Pd 3 e0 q0) (hd1 : Pd 3 d1 p1) (he1 : Pd 3 e1 q1) (q : Q (.bl (PyData.eqvAll [p0, p1] [q0, q1])) st) : Wx (Feq55 (tab K) [.ins 55 [d0, d1], .ins 55 [e0, e1]]) st Q := by
  have hi : (tab K).isi (.ins 55) (.own 55) = some true := rfl
  refine wx_fn (ws_ret (wx_andV (wx_isE ?_)))
  refine wx_var rfl (fun z => nomatch z) ⟨_, _, rfl, hi, true, rfl, iteT ?_⟩
  refine wx_op (wx_tup (PuA.wx (G := fun _ => True) (ds := [d0, d1]) (pua_cons (pu_fldI (pu_var rfl (fun z => nomatch z)) nf_55_table rfl) (pua_cons (pu_fldI (pu_var rfl (fun z => nomatch z)) nf_55_spaces rfl) pua_nil)) trivial ⟨Nat.le_of_ble_eq_true rfl, ?_⟩))
  refine wx_tup (PuA.wx (G := fun _ => True) (ds := [e0, e1]) (pua_cons (pu_fldI (pu_var rfl (fun z => nomatch z)) nf_55_table rfl) (pua_cons (pu_fldI (pu_var rfl (fun z => nomatch z)) nf_55_spaces rfl) pua_nil)) trivial ⟨Nat.le_of_ble_eq_true rfl, ?_⟩)
  refine wx_eq (fun _ _ z => nomatch z) (eq_of ((pd_tup (n := 3) (ps := [p0, p1]) (.cons hd0 (.cons hd1 .nil))).rd st (by decide)) ((pd_tup (n := 3) (ps := [q0, q1]) (.cons he0 (.cons he1 .nil))).rd st (by decide))) ?_
  have hq : PyData.eqv (.tuple [p0, p1]) (.tuple [q0, q1]) = PyData.eqvAll [p0, p1] [q0, q1] := by simp only [PyData.eqv]
  rw [hq]
  exact q
theorem sne_55 : NeS K 55 (Feq55 (tab K)) := by
  intro st Q c2 ds es hi q
  refine wx_fn ?_
  unfold beq55
  repeat (first
    | with_reducible refine ws_ret ?_ | with_reducible refine ws_seq ?_ | with_reducible refine ws_if ?_ | with_reducible refine wx_or ?_ | with_reducible refine wx_not ?_ | with_reducible refine wx_fB ?_ | with_reducible refine wx_andV ?_ | with_reducible refine wx_isE ?_
    | with_reducible refine wx_op ?_ | with_reducible refine wx_fld ?_ | with_reducible refine wx_c ?_ | with_reducible refine wx_var rfl (fun z => nomatch z) ?_ | with_reducible refine then_nx ?_ | with_reducible refine then_rt ?_ | with_reducible refine ws_pass ?_
    | refine iteT ?_ | refine iteF ?_ | refine ⟨_, _, rfl, hi, ?_⟩ | refine ⟨_, rfl, ?_⟩  )
  exact q
theorem sl_55 : EqS K 55 2 (Feq55 (tab K)) := by
  intro st Q ds es ps qs hp hq h1 h2 q
  cases hp with
  | nil => cases h1
  | cons a0 hp =>
  cases hq with
  | nil => cases h2
  | cons c0 hq =>
  cases hp with
  | nil => cases h1
  | cons a1 hp =>
  cases hq with
  | nil => cases h2
  | cons c1 hq =>
  cases hp with
  | cons _ _ => simp at h1
  | nil =>
  cases hq with
  | cons _ _ => simp at h2
  | nil => exact seq_55 a0 c0 a1 c1 q
theorem seq_56 (hd0 : Pd 3 d0 p0) (he0 : Pd 3 e0 q0) (q : Q (.bl (PyData.eqvAll [p0] [q0])) st) : Wx (Feq56 (tab K) [.ins 56 [d0], .ins 56 [e0]]) st Q := by
  have hi : (tab K).isi (.ins 56) (.own 56) = some true := rfl
  have hQ : PyData.eqvAll [p0] [q0] = (PyData.eqv p0 q0 && true) := by simp only [PyData.eqvAll]
  rw [hQ] at q
  have f0 := eqF (st := st) hd0 he0
  have n0 := eqN (st := st) hd0 he0
  generalize PyData.eqv p0 q0 = b0 at q f0 n0
  cases b0
  all_goals
    refine wx_fn ?_
    unfold beq56
    repeat (first
    | with_reducible refine ws_ret ?_ | with_reducible refine ws_seq ?_ | with_reducible refine ws_if ?_ | with_reducible refine wx_or ?_ | with_reducible refine wx_not ?_ | with_reducible refine wx_fB ?_ | with_reducible refine wx_andV ?_ | with_reducible refine wx_isE ?_
    | with_reducible refine wx_op ?_ | with_reducible refine wx_fld ?_ | with_reducible refine wx_c ?_ | with_reducible refine wx_var rfl (fun z => nomatch z) ?_ | with_reducible refine then_nx ?_ | with_reducible refine then_rt ?_ | with_reducible refine ws_pass ?_
    | refine iteT ?_ | refine iteF ?_ | refine ⟨_, _, rfl, hi, ?_⟩ | refine ⟨_, rfl, ?_⟩ | with_reducible refine wx_fldI nt_56_row rfl ?_ | with_reducible refine wx_eq hd0.ni f0 ?_ | with_reducible refine wx_eq hd0.ni n0 ?_)
    exact q
theorem sne_56 : NeS K 56 (Feq56 (tab K)) := by
  intro st Q c2 ds es hi q
  refine wx_fn ?_
  unfold beq56
  repeat (first
    | with_reducible refine ws_ret ?_ | with_reducible refine ws_seq ?_ | with_reducible refine ws_if ?_ | with_reducible refine wx_or ?_ | with_reducible refine wx_not ?_ | with_reducible refine wx_fB ?_ | with_reducible refine wx_andV ?_ | with_reducible refine wx_isE ?_
    | with_reducible refine wx_op ?_ | with_reducible refine wx_fld ?_ | with_reducible refine wx_c ?_ | with_reducible refine wx_var rfl (fun z => nomatch z) ?_ | with_reducible refine then_nx ?_ | with_reducible refine then_rt ?_ | with_reducible refine ws_pass ?_
    | refine iteT ?_ | refine iteF ?_ | refine ⟨_, _, rfl, hi, ?_⟩ | refine ⟨_, rfl, ?_⟩  )
  exact q
theorem sl_56 : EqS K 56 1 (Feq56 (tab K)) := by
  intro st Q ds es ps qs hp hq h1 h2 q
  cases hp with
  | nil => cases h1
  | cons a0 hp =>
  cases hq with
  | nil => cases h2
  | cons c0 hq =>
  cases hp with
  | cons _ _ => simp at h1
  | nil =>
  cases hq with
  | cons _ _ => simp at h2
  | nil => exact seq_56 a0 c0 q
theorem seq_57 (hd0 : Pd 3 d0 p0) (he0 : Pd 3 e0 q0) (hd1 : Pd 3 d1 p1) (he1 : Pd 3 e1 q1) (hd2 : Pd 3 d2 p2) (he2 : Pd 3 e2 q2) (q : Q (.bl (PyData.eqvAll [p0, p1, p2] [q0, q1, q2])) st) : Wx (Feq57 (tab K) [.ins 57 [d0, d1, d2], .ins 57 [e0, e1, e2]]) st Q := by
  have hi : (tab K).isi (.ins 57) (.own 57) = some true := rfl
  refine wx_fn (ws_ret (wx_andV (wx_isE ?_)))
  refine wx_var rfl (fun z => nomatch z) ⟨_, _, rfl, hi, true, rfl, iteT ?_⟩
  refine wx_op (wx_tup (PuA.wx (G := fun _ => True) (ds := [d0, d1, d2]) (pua_cons (pu_fldI (pu_var rfl (fun z => nomatch z)) nf_57_plant rfl) (pua_cons (pu_fldI (pu_var rfl (fun z => nomatch z)) nf_57_rows rfl) (pua_cons (pu_fldI (pu_var rfl (fun z => nomatch z)) nf_57_table rfl) pua_nil))) trivial ⟨Nat.le_of_ble_eq_true rfl, ?_⟩))
  refine wx_tup (PuA.wx (G := fun _ => True) (ds := [e0, e1, e2]) (pua_cons (pu_fldI (pu_var rfl (fun z => nomatch z)) nf_57_plant rfl) (pua_cons (pu_fldI (pu_var rfl (fun z => nomatch z)) nf_57_rows rfl) (pua_cons (pu_fldI (pu_var rfl (fun z => nomatch z)) nf_57_table rfl) pua_nil))) trivial ⟨Nat.le_of_ble_eq_true rfl, ?_⟩)
  refine wx_eq (fun _ _ z => nomatch z) (eq_of ((pd_tup (n := 3) (ps := [p0, p1, p2]) (.cons hd0 (.cons hd1 (.cons hd2 .nil)))).rd st (by decide)) ((pd_tup (n := 3) (ps := [q0, q1, q2]) (.cons he0 (.cons he1 (.cons he2 .nil)))).rd st (by decide))) ?_
  have hq : PyData.eqv (.tuple [p0, p1, p2]) (.tuple [q0, q1, q2]) = PyData.eqvAll [p0, p1, p2] [q0, q1, q2] := by simp only [PyData.eqv]
  rw [hq]
  exact q
theorem sne_57 : NeS K 57 (Feq57 (tab K)) := by
  intro st Q c2 ds es hi q
  refine wx_fn ?_
  unfold beq57
  repeat (first
    | with_reducible refine ws_ret ?_ | with_reducible refine ws_seq ?_ | with_reducible refine ws_if ?_ | with_reducible refine wx_or ?_ | with_reducible refine wx_not ?_ | with_reducible refine wx_fB ?_ | with_reducible refine wx_andV ?_ | with_reducible refine wx_isE ?_
    | with_reducible refine wx_op ?_ | with_reducible refine wx_fld ?_ | with_reducible refine wx_c ?_ | with_reducible refine wx_var rfl (fun z => nomatch z) ?_ | with_reducible refine then_nx ?_ | with_reducible refine then_rt ?_ | with_reducible refine ws_pass ?_
    | refine iteT ?_ | refine iteF ?_ | refine ⟨_, _, rfl, hi, ?_⟩ | refine ⟨_, rfl, ?_⟩  )
  exact q
theorem sl_57 : EqS K 57 3 (Feq57 (tab K)) := by
  intro st Q ds es ps qs hp hq h1 h2 q
  cases hp with
  | nil => cases h1
  | cons a0 hp =>
  cases hq with
  | nil => cases h2
  | cons c0 hq =>
  cases hp with
  | nil => cases h1
  | cons a1 hp =>
  cases hq with
  | nil => cases h2
  | cons c1 hq =>
  cases hp with
  | nil => cases h1
  | cons a2 hp =>
  cases hq with
  | nil => cases h2
  | cons c2 hq =>
  cases hp with
  | cons _ _ => simp at h1
  | nil =>
  cases hq with
  | cons _ _ => simp at h2
  | nil => exact seq_57 a0 c0 a1 c1 a2 c2 q
theorem seq_58 (hd0 : Pd 3 d0 p0) (he0 : Pd 3 e0 q0) (hd1 : Pd 3 d1 p1) (he1 : Pd 3 e1 q1) (q : Q (.bl (PyData.eqvAll [p0, p1] [q0, q1])) st) : Wx (Feq58 (tab K) [.ins 58 [d0, d1], .ins 58 [e0, e1]]) st Q := by
  have hi : (tab K).isi (.ins 58) (.own 58) = some true := rfl
  have hQ : PyData.eqvAll [p0, p1] [q0, q1] = (PyData.eqv p0 q0 && (PyData.eqv p1 q1 && true)) := by simp only [PyData.eqvAll]
  rw [hQ] at q
  have f0 := eqF (st := st) hd0 he0
  have n0 := eqN (st := st) hd0 he0
  generalize PyData.eqv p0 q0 = b0 at q f0 n0
  have f1 := eqF (st := st) hd1 he1
  have n1 := eqN (st := st) hd1 he1
  generalize PyData.eqv p1 q1 = b1 at q f1 n1
  cases b0 <;> cases b1
  all_goals
    refine wx_fn ?_
    unfold beq58
    repeat (first
    | with_reducible refine ws_ret ?_ | with_reducible refine ws_seq ?_ | with_reducible refine ws_if ?_ | with_reducible refine wx_or ?_ | with_reducible refine wx_not ?_ | with_reducible refine wx_fB ?_ | with_reducible refine wx_andV ?_ | with_reducible refine wx_isE ?_
    | with_reducible refine wx_op ?_ | with_reducible refine wx_fld ?_ | with_reducible refine wx_c ?_ | with_reducible refine wx_var rfl (fun z => nomatch z) ?_ | with_reducible refine then_nx ?_ | with_reducible refine then_rt ?_ | with_reducible refine ws_pass ?_
    | refine iteT ?_ | refine iteF ?_ | refine ⟨_, _, rfl, hi, ?_⟩ | refine ⟨_, rfl, ?_⟩ | with_reducible refine wx_fldI nt_58_least rfl ?_ | with_reducible refine wx_fldI nt_58_greatest rfl ?_ | with_reducible refine wx_eq hd0.ni f0 ?_ | with_reducible refine wx_eq hd0.ni n0 ?_ | with_reducible refine wx_eq hd1.ni f1 ?_ | with_reducible refine wx_eq hd1.ni n1 ?_)
    exact q
theorem sne_58 : NeS K 58 (Feq58 (tab K)) := by
  intro st Q c2 ds es hi q
  refine wx_fn ?_
  unfold beq58
  repeat (first
    | with_reducible refine ws_ret ?_ | with_reducible refine ws_seq ?_ | with_reducible refine ws_if ?_ | with_reducible refine wx_or ?_ | with_reducible refine wx_not ?_ | with_reducible refine wx_fB ?_ | with_reducible refine wx_andV ?_ | with_reducible refine wx_isE ?_
    | with_reducible refine wx_op ?_ | with_reducible refine wx_fld ?_ | with_reducible refine wx_c ?_ | with_reducible refine wx_var rfl (fun z => nomatch z) ?_ | with_reducible refine then_nx ?_ | with_reducible refine then_rt ?_ | with_reducible refine ws_pass ?_
    | refine iteT ?_ | refine iteF ?_ | refine ⟨_, _, rfl, hi, ?_⟩ | refine ⟨_, rfl, ?_⟩  )
  exact q
theorem sl_58 : EqS K 58 2 (Feq58 (tab K)) := by
  intro st Q ds es ps qs hp hq h1 h2 q
  cases hp with
  | nil => cases h1
  | cons a0 hp =>
  cases hq with
  | nil => cases h2
  | cons c0 hq =>
  cases hp with
  | nil => cases h1
  | cons a1 hp =>
  cases hq with
  | nil => cases h2
  | cons c1 hq =>
  cases hp with
  | cons _ _ => simp at h1
  | nil =>
  cases hq with
  | cons _ _ => simp at h2
  | nil => exact seq_58 a0 c0 a1 c1 q
theorem seq_59 (hd0 : Pd 3 d0 p0) (he0 : Pd 3 e0 q0) (hd1 : Pd 3 d1 p1) (he1 : Pd 3 e1 q1) (hd2 : Pd 3 d2 p2) (he2 : Pd 3 e2 q2) (hd3 : Pd 3 d3 p3) (he3 : Pd 3 e3 q3) (q : Q (.bl (PyData.eqvAll [p0, p1, p2, p3] [q0, q1, q2, q3])) st) : Wx (Feq59 (tab K) [.ins 59 [d0, d1, d2, d3], .ins 59 [e0, e1, e2, e3]]) st Q := by
  have hi : (tab K).isi (.ins 59) (.own 59) = some true := rfl
  have hQ : PyData.eqvAll [p0, p1, p2, p3] [q0, q1, q2, q3] = (PyData.eqv p0 q0 && (PyData.eqv p1 q1 && (PyData.eqv p2 q2 && (PyData.eqv p3 q3 && true)))) := by simp only [PyData.eqvAll]
  rw [hQ] at q
  have f0 := eqF (st := st) hd0 he0
  have n0 := eqN (st := st) hd0 he0
  generalize PyData.eqv p0 q0 = b0 at q f0 n0
  have f1 := eqF (st := st) hd1 he1
  have n1 := eqN (st := st) hd1 he1
  generalize PyData.eqv p1 q1 = b1 at q f1 n1
  have f2 := eqF (st := st) hd2 he2
  have n2 := eqN (st := st) hd2 he2
  generalize PyData.eqv p2 q2 = b2 at q f2 n2
  have f3 := eqF (st := st) hd3 he3
  have n3 := eqN (st := st) hd3 he3
  generalize PyData.eqv p3 q3 = b3 at q f3 n3
  cases b0 <;> cases b1 <;> cases b2 <;> cases b3
  all_goals
    refine wx_fn ?_
    unfold beq59
    repeat (first
    | with_reducible refine ws_ret ?_ | with_reducible refine ws_seq ?_ | with_reducible refine ws_if ?_ | with_reducible refine wx_or ?_ | with_reducible refine wx_not ?_ | with_reducible refine wx_fB ?_ | with_reducible refine wx_andV ?_ | with_reducible refine wx_isE ?_
    | with_reducible refine wx_op ?_ | with_reducible refine wx_fld ?_ | with_reducible refine wx_c ?_ | with_reducible refine wx_var rfl (fun z => nomatch z) ?_ | with_reducible refine then_nx ?_ | with_reducible refine then_rt ?_ | with_reducible refine ws_pass ?_
    | refine iteT ?_ | refine iteF ?_ | refine ⟨_, _, rfl, hi, ?_⟩ | refine ⟨_, rfl, ?_⟩ | with_reducible refine wx_fldI nt_59_field rfl ?_ | with_reducible refine wx_fldI nt_59_size rfl ?_ | with_reducible refine wx_fldI nt_59_inputs rfl ?_ | with_reducible refine wx_fldI nt_59_deeds rfl ?_ | with_reducible refine wx_eq hd0.ni f0 ?_ | with_reducible refine wx_eq hd0.ni n0 ?_ | with_reducible refine wx_eq hd1.ni f1 ?_ | with_reducible refine wx_eq hd1.ni n1 ?_ | with_reducible refine wx_eq hd2.ni f2 ?_ | with_reducible refine wx_eq hd2.ni n2 ?_ | with_reducible refine wx_eq hd3.ni f3 ?_ | with_reducible refine wx_eq hd3.ni n3 ?_)
    exact q
theorem sne_59 : NeS K 59 (Feq59 (tab K)) := by
  intro st Q c2 ds es hi q
  refine wx_fn ?_
  unfold beq59
  repeat (first
    | with_reducible refine ws_ret ?_ | with_reducible refine ws_seq ?_ | with_reducible refine ws_if ?_ | with_reducible refine wx_or ?_ | with_reducible refine wx_not ?_ | with_reducible refine wx_fB ?_ | with_reducible refine wx_andV ?_ | with_reducible refine wx_isE ?_
    | with_reducible refine wx_op ?_ | with_reducible refine wx_fld ?_ | with_reducible refine wx_c ?_ | with_reducible refine wx_var rfl (fun z => nomatch z) ?_ | with_reducible refine then_nx ?_ | with_reducible refine then_rt ?_ | with_reducible refine ws_pass ?_
    | refine iteT ?_ | refine iteF ?_ | refine ⟨_, _, rfl, hi, ?_⟩ | refine ⟨_, rfl, ?_⟩  )
  exact q
theorem sl_59 : EqS K 59 4 (Feq59 (tab K)) := by
  intro st Q ds es ps qs hp hq h1 h2 q
  cases hp with
  | nil => cases h1
  | cons a0 hp =>
  cases hq with
  | nil => cases h2
  | cons c0 hq =>
  cases hp with
  | nil => cases h1
  | cons a1 hp =>
  cases hq with
  | nil => cases h2
  | cons c1 hq =>
  cases hp with
  | nil => cases h1
  | cons a2 hp =>
  cases hq with
  | nil => cases h2
  | cons c2 hq =>
  cases hp with
  | nil => cases h1
  | cons a3 hp =>
  cases hq with
  | nil => cases h2
  | cons c3 hq =>
  cases hp with
  | cons _ _ => simp at h1
  | nil =>
  cases hq with
  | cons _ _ => simp at h2
  | nil => exact seq_59 a0 c0 a1 c1 a2 c2 a3 c3 q
theorem seq_60 (hd0 : Pd 3 d0 p0) (he0 : Pd 3 e0 q0) (hd1 : Pd 3 d1 p1) (he1 : Pd 3 e1 q1) (hd2 : Pd 3 d2 p2) (he2 : Pd 3 e2 q2) (hd3 : Pd 3 d3 p3) (he3 : Pd 3 e3 q3) (hd4 : Pd 3 d4 p4) (he4 : Pd 3 e4 q4) (q : Q (.bl (PyData.eqvAll [p0, p1, p2, p3, p4] [q0, q1, q2, q3, q4])) st) : Wx (Feq60 (tab K) [.ins 60 [d0, d1, d2, d3, d4], .ins 60 [e0, e1, e2, e3, e4]]) st Q := by
  have hi : (tab K).isi (.ins 60) (.own 60) = some true := rfl
  refine wx_fn (ws_ret (wx_andV (wx_isE ?_)))
  refine wx_var rfl (fun z => nomatch z) ⟨_, _, rfl, hi, true, rfl, iteT ?_⟩
  refine wx_op (wx_tup (PuA.wx (G := fun _ => True) (ds := [d0, d1, d2, d3, d4]) (pua_cons (pu_fldI (pu_var rfl (fun z => nomatch z)) nf_60_record rfl) (pua_cons (pu_fldI (pu_var rfl (fun z => nomatch z)) nf_60_plant rfl) (pua_cons (pu_fldI (pu_var rfl (fun z => nomatch z)) nf_60_lot rfl) (pua_cons (pu_fldI (pu_var rfl (fun z => nomatch z)) nf_60_other rfl) (pua_cons (pu_fldI (pu_var rfl (fun z => nomatch z)) nf_60_other_lot rfl) pua_nil))))) trivial ⟨Nat.le_of_ble_eq_true rfl, ?_⟩))
  refine wx_tup (PuA.wx (G := fun _ => True) (ds := [e0, e1, e2, e3, e4]) (pua_cons (pu_fldI (pu_var rfl (fun z => nomatch z)) nf_60_record rfl) (pua_cons (pu_fldI (pu_var rfl (fun z => nomatch z)) nf_60_plant rfl) (pua_cons (pu_fldI (pu_var rfl (fun z => nomatch z)) nf_60_lot rfl) (pua_cons (pu_fldI (pu_var rfl (fun z => nomatch z)) nf_60_other rfl) (pua_cons (pu_fldI (pu_var rfl (fun z => nomatch z)) nf_60_other_lot rfl) pua_nil))))) trivial ⟨Nat.le_of_ble_eq_true rfl, ?_⟩)
  refine wx_eq (fun _ _ z => nomatch z) (eq_of ((pd_tup (n := 3) (ps := [p0, p1, p2, p3, p4]) (.cons hd0 (.cons hd1 (.cons hd2 (.cons hd3 (.cons hd4 .nil)))))).rd st (by decide)) ((pd_tup (n := 3) (ps := [q0, q1, q2, q3, q4]) (.cons he0 (.cons he1 (.cons he2 (.cons he3 (.cons he4 .nil)))))).rd st (by decide))) ?_
  have hq : PyData.eqv (.tuple [p0, p1, p2, p3, p4]) (.tuple [q0, q1, q2, q3, q4]) = PyData.eqvAll [p0, p1, p2, p3, p4] [q0, q1, q2, q3, q4] := by simp only [PyData.eqv]
  rw [hq]
  exact q
theorem sne_60 : NeS K 60 (Feq60 (tab K)) := by
  intro st Q c2 ds es hi q
  refine wx_fn ?_
  unfold beq60
  repeat (first
    | with_reducible refine ws_ret ?_ | with_reducible refine ws_seq ?_ | with_reducible refine ws_if ?_ | with_reducible refine wx_or ?_ | with_reducible refine wx_not ?_ | with_reducible refine wx_fB ?_ | with_reducible refine wx_andV ?_ | with_reducible refine wx_isE ?_
    | with_reducible refine wx_op ?_ | with_reducible refine wx_fld ?_ | with_reducible refine wx_c ?_ | with_reducible refine wx_var rfl (fun z => nomatch z) ?_ | with_reducible refine then_nx ?_ | with_reducible refine then_rt ?_ | with_reducible refine ws_pass ?_
    | refine iteT ?_ | refine iteF ?_ | refine ⟨_, _, rfl, hi, ?_⟩ | refine ⟨_, rfl, ?_⟩  )
  exact q
theorem sl_60 : EqS K 60 5 (Feq60 (tab K)) := by
  intro st Q ds es ps qs hp hq h1 h2 q
  cases hp with
  | nil => cases h1
  | cons a0 hp =>
  cases hq with
  | nil => cases h2
  | cons c0 hq =>
  cases hp with
  | nil => cases h1
  | cons a1 hp =>
  cases hq with
  | nil => cases h2
  | cons c1 hq =>
  cases hp with
  | nil => cases h1
  | cons a2 hp =>
  cases hq with
  | nil => cases h2
  | cons c2 hq =>
  cases hp with
  | nil => cases h1
  | cons a3 hp =>
  cases hq with
  | nil => cases h2
  | cons c3 hq =>
  cases hp with
  | nil => cases h1
  | cons a4 hp =>
  cases hq with
  | nil => cases h2
  | cons c4 hq =>
  cases hp with
  | cons _ _ => simp at h1
  | nil =>
  cases hq with
  | cons _ _ => simp at h2
  | nil => exact seq_60 a0 c0 a1 c1 a2 c2 a3 c3 a4 c4 q
def resC : List (Nat × Nat) := [(54, 4), (47, 3), (55, 2), (56, 1), (57, 3), (60, 5), (40, 4), (45, 2), (41, 2), (42, 1), (43, 2), (48, 4), (49, 4), (50, 2), (51, 4), (52, 2), (53, 3), (58, 2), (46, 3), (59, 4), (44, 2)]
theorem eqs : ∀ (k c m : Nat), resC[k]? = some (c, m) → ∃ F, et (tab K) c = some F ∧ EqS K c m F ∧ NeS K c F := fun k c m h => match k, h with
  | 0, h => by
    cases h
    exact ⟨_, rfl, sl_54, sne_54⟩
  | 1, h => by
    cases h
    exact ⟨_, rfl, sl_47, sne_47⟩
  | 2, h => by
    cases h
    exact ⟨_, rfl, sl_55, sne_55⟩
  | 3, h => by
    cases h
    exact ⟨_, rfl, sl_56, sne_56⟩
  | 4, h => by
    cases h
    exact ⟨_, rfl, sl_57, sne_57⟩
  | 5, h => by
    cases h
    exact ⟨_, rfl, sl_60, sne_60⟩
  | 6, h => by
    cases h
    exact ⟨_, rfl, sl_40, sne_40⟩
  | 7, h => by
    cases h
    exact ⟨_, rfl, sl_45, sne_45⟩
  | 8, h => by
    cases h
    exact ⟨_, rfl, sl_41, sne_41⟩
  | 9, h => by
    cases h
    exact ⟨_, rfl, sl_42, sne_42⟩
  | 10, h => by
    cases h
    exact ⟨_, rfl, sl_43, sne_43⟩
  | 11, h => by
    cases h
    exact ⟨_, rfl, sl_48, sne_48⟩
  | 12, h => by
    cases h
    exact ⟨_, rfl, sl_49, sne_49⟩
  | 13, h => by
    cases h
    exact ⟨_, rfl, sl_50, sne_50⟩
  | 14, h => by
    cases h
    exact ⟨_, rfl, sl_51, sne_51⟩
  | 15, h => by
    cases h
    exact ⟨_, rfl, sl_52, sne_52⟩
  | 16, h => by
    cases h
    exact ⟨_, rfl, sl_53, sne_53⟩
  | 17, h => by
    cases h
    exact ⟨_, rfl, sl_58, sne_58⟩
  | 18, h => by
    cases h
    exact ⟨_, rfl, sl_46, sne_46⟩
  | 19, h => by
    cases h
    exact ⟨_, rfl, sl_59, sne_59⟩
  | 20, h => by
    cases h
    exact ⟨_, rfl, sl_44, sne_44⟩
  | n + 21, h => by
    have h2 : ([] : List (Nat × Nat))[n]? = some (c, m) := h
    cases h2
end
end Pl
/-! Pl6: the errors right. -/
namespace Pl
open PySem PySem.Spec PyProof.Rows L2 Vm Wk
section
variable {K : PySem.W.Frag} {st : Sto} {Q : D → Sto → Prop} {t n pr w x y : D} {pt pn pp pw px py : PyData}
theorem pd_flds (ht : Pd 3 t pt) (hn : Pd 3 n pn) (hp : Pd 3 pr pp) (hw : Pd 3 w pw) (hx : Pd 3 x px) (hy : Pd 3 y py) : PdLL 3 (fldsL t n pr w x y) [.list [px], .list [px], .list [pn], .list [pt], .list [pt], .list [pt, pn], .list [px], .list [pt], .list [px, py], .list [px], .list [px], .list [pt], .list [pw], .list [pn], .list [pt], .list [pt], .list [pt], .list [pt], .list [pt], .list [pp], .list [pt, pn], .list [pt], .list [px], .list [pt], .list [pt], .list [pn], .list [pt, pn], .list [pt], .list [pt], .list [pt]] := (.cons (.cons hx .nil) (.cons (.cons hx .nil) (.cons (.cons hn .nil) (.cons (.cons ht .nil) (.cons (.cons ht .nil) (.cons (.cons ht (.cons hn .nil)) (.cons (.cons hx .nil) (.cons (.cons ht .nil) (.cons (.cons hx (.cons hy .nil)) (.cons (.cons hx .nil) (.cons (.cons hx .nil) (.cons (.cons ht .nil) (.cons (.cons hw .nil) (.cons (.cons hn .nil) (.cons (.cons ht .nil) (.cons (.cons ht .nil) (.cons (.cons ht .nil) (.cons (.cons ht .nil) (.cons (.cons ht .nil) (.cons (.cons hp .nil) (.cons (.cons ht (.cons hn .nil)) (.cons (.cons ht .nil) (.cons (.cons hx .nil) (.cons (.cons ht .nil) (.cons (.cons ht .nil) (.cons (.cons hn .nil) (.cons (.cons ht (.cons hn .nil)) (.cons (.cons ht .nil) (.cons (.cons ht .nil) (.cons (.cons ht .nil) .nil))))))))))))))))))))))))))))))
theorem neqLL {p q : Nat} {dss : List (List D)} {pss : List PyData} (h1 : LL st p dss) (h2 : LL st q dss) (h : PdLL 3 dss pss) : eqPD true st (.ptr p) (.ptr q) = some false := by
  rw [eq_of (rd_LL h1 h (by decide)) (rd_LL h2 h (by decide)), eqLL h]
  rfl
theorem eqqLL {p q : Nat} {dss : List (List D)} {pss : List PyData} (h1 : LL st p dss) (h2 : LL st q dss) (h : PdLL 3 dss pss) : eqPD false st (.ptr p) (.ptr q) = some true := by
  rw [eq_of (rd_LL h1 h (by decide)) (rd_LL h2 h (by decide)), eqLL h]
  rfl
theorem neqA {p q : Nat} {ds : List D} {ps : List PyData} (h1 : Af st p ds) (h2 : Af st q ds) (h : PdL 3 ds ps) : eqPD true st (.ptr p) (.ptr q) = some false := by
  rw [eq_of (rd_list h1.2 h (by decide)) (rd_list h2.2 h (by decide)), eqL h]
  rfl
theorem eq_intT {a b : Int} : eqPD true st (.int a) (.int b) = some (!(a == b)) := eq_int
theorem atI_nat {α : Type} {xs : List α} {k : Nat} {d : α} (h : xs[k]? = some d) : atI xs (k : Int) = some d := by
  have hl := (List.getElem?_eq_some_iff.mp h).1
  unfold atI ixN
  rw [if_pos (by omega), if_pos (by omega), Option.bind_some]
  exact h
def dueL (k n : Nat) : List D := (List.range n).map fun j => .bl (j == k)
theorem pd_due (k n : Nat) : ∃ ps, PdL 3 (dueL k n) ps := by
  unfold dueL
  induction List.range n with
  | nil => exact ⟨[], .nil⟩
  | cons j r ih =>
    obtain ⟨ps, h⟩ := ih
    exact ⟨_, .cons ((pd_bl (j == k)).mono (by decide)) h⟩
theorem wx_lcE {e : Vm.Env} {fi : IF} {el : EF} {i : Nat} (I : Nat → List D → Sto → Prop) (hi : Wx (fi e) st fun it st1 => ∃ n, it = .rng 0 n ∧ n < bnd ∧ I 0 [] st1)
    (hb : ∀ k acc st, I k acc st → Wx (el ((e.set i none).set i (some (.int (k : Nat))))) st fun d st' => I (k + 1) (acc ++ [d]) st') (hq : ∀ k acc st1, I k acc st1 → Q (.ptr st1.l.length) (push st1 acc)) : Wx (fLc fi (gN i) tYesF el [i] e) st Q := by
  obtain ⟨it, st1, e1, n, rfl, hn, h0⟩ := hi
  exact wx_lcR (n := n) I ⟨_, st1, e1, rfl, hn, h0⟩ (fun k acc st _ => hb k acc st) (fun acc st1 => hq n acc st1)
theorem errs_at (t n pr w x y : D) : ∀ k, k < 39 → ∃ c ds, c < 40 ∧ (errsL t n pr w x y)[k]? = some (.err c ds) ∧ kindsL c = dueL k 39 := fun k h => match k, h with
  | 0, _ => ⟨1, _, by decide, rfl, rfl⟩
  | 1, _ => ⟨2, _, by decide, rfl, rfl⟩
  | 2, _ => ⟨4, _, by decide, rfl, rfl⟩
  | 3, _ => ⟨5, _, by decide, rfl, rfl⟩
  | 4, _ => ⟨6, _, by decide, rfl, rfl⟩
  | 5, _ => ⟨7, _, by decide, rfl, rfl⟩
  | 6, _ => ⟨8, _, by decide, rfl, rfl⟩
  | 7, _ => ⟨9, _, by decide, rfl, rfl⟩
  | 8, _ => ⟨10, _, by decide, rfl, rfl⟩
  | 9, _ => ⟨11, _, by decide, rfl, rfl⟩
  | 10, _ => ⟨13, _, by decide, rfl, rfl⟩
  | 11, _ => ⟨14, _, by decide, rfl, rfl⟩
  | 12, _ => ⟨15, _, by decide, rfl, rfl⟩
  | 13, _ => ⟨16, _, by decide, rfl, rfl⟩
  | 14, _ => ⟨17, _, by decide, rfl, rfl⟩
  | 15, _ => ⟨18, _, by decide, rfl, rfl⟩
  | 16, _ => ⟨19, _, by decide, rfl, rfl⟩
  | 17, _ => ⟨20, _, by decide, rfl, rfl⟩
  | 18, _ => ⟨22, _, by decide, rfl, rfl⟩
  | 19, _ => ⟨23, _, by decide, rfl, rfl⟩
  | 20, _ => ⟨24, _, by decide, rfl, rfl⟩
  | 21, _ => ⟨25, _, by decide, rfl, rfl⟩
  | 22, _ => ⟨26, _, by decide, rfl, rfl⟩
  | 23, _ => ⟨27, _, by decide, rfl, rfl⟩
  | 24, _ => ⟨28, _, by decide, rfl, rfl⟩
  | 25, _ => ⟨29, _, by decide, rfl, rfl⟩
  | 26, _ => ⟨30, _, by decide, rfl, rfl⟩
  | 27, _ => ⟨31, _, by decide, rfl, rfl⟩
  | 28, _ => ⟨32, _, by decide, rfl, rfl⟩
  | 29, _ => ⟨33, _, by decide, rfl, rfl⟩
  | 30, _ => ⟨3, _, by decide, rfl, rfl⟩
  | 31, _ => ⟨12, _, by decide, rfl, rfl⟩
  | 32, _ => ⟨21, _, by decide, rfl, rfl⟩
  | 33, _ => ⟨34, _, by decide, rfl, rfl⟩
  | 34, _ => ⟨35, _, by decide, rfl, rfl⟩
  | 35, _ => ⟨36, _, by decide, rfl, rfl⟩
  | 36, _ => ⟨37, _, by decide, rfl, rfl⟩
  | 37, _ => ⟨38, _, by decide, rfl, rfl⟩
  | 38, _ => ⟨39, _, by decide, rfl, rfl⟩
  | n + 39, h => absurd h (by omega)
theorem isiV {c : Nat} (hc : c < 40) : isiT (.err c) (.ty "ValueError") = some true := if_pos ⟨hc, rfl⟩
theorem isi0 {c : Nat} (hc : c < 40) : isiT (.err c) (.own 0) = some true := by
  rw [isi_ok hc (by decide)]
  simp
theorem sp_errors_right {pv : Nat} {x0 x1 x2 x3 x4 : D} (hh : HandOk st) (hv : Af st pv [x0, x1, x2, x3, x4]) (v0 : Val x0) (v1 : Val x1) (q : ∀ st', Go st st' → Q (.bl true) st') : Wx (F_law_errors_right (tab K) [.ptr 1, .ptr pv]) st Q := by
  obtain ⟨px, hx, _⟩ := v0.ex
  obtain ⟨py, hy, _⟩ := v1.ex
  refine wx_fn (ws_seq ?_)
  repeat (first
    | with_reducible refine wx_op ?_ | with_reducible refine wx_cb ?_ | with_reducible refine wx_cons ?_ | with_reducible refine wx_nil ?_ | with_reducible refine wx_c ?_ | with_reducible refine wx_var rfl (fun z => nomatch z) ?_
    | with_reducible refine wx_addI ?_ | with_reducible refine wx_sub ?_ | with_reducible refine wx_int ?_ | with_reducible refine wx_mul (small_mul (by decide)) ?_ | with_reducible refine wx_mul (small_mul (by omega)) ?_
    | with_reducible refine wx_mod (by first | decide | assumption | omega) ?_ | with_reducible refine wx_div (by first | decide | assumption) ?_ | with_reducible refine wx_pow (by decide) ?_ | with_reducible refine wx_cmp ?_ | with_reducible refine wx_lt ?_ | with_reducible refine wx_gt ?_
     | with_reducible refine ws_asg ?_ | with_reducible refine ws_ret ?_ | with_reducible refine wx_fB ?_ | with_reducible refine wx_and ?_ | with_reducible refine wx_or ?_ | with_reducible refine wx_not ?_ | with_reducible refine ws_if ?_)
  refine wx_call rfl (sp_word hh fun tx s1 g1 htx => ?_)
  have ht : Pd 3 (.str tx) _ := (pd_str htx).mono (by decide)
  have hh1 := g1.hand hh
  refine then_nx (ws_seq ?_)
  repeat (first
    | with_reducible refine wx_op ?_ | with_reducible refine wx_cb ?_ | with_reducible refine wx_cons ?_ | with_reducible refine wx_nil ?_ | with_reducible refine wx_c ?_ | with_reducible refine wx_var rfl (fun z => nomatch z) ?_
    | with_reducible refine wx_addI ?_ | with_reducible refine wx_sub ?_ | with_reducible refine wx_int ?_ | with_reducible refine wx_mul (small_mul (by decide)) ?_ | with_reducible refine wx_mul (small_mul (by omega)) ?_
    | with_reducible refine wx_mod (by first | decide | assumption | omega) ?_ | with_reducible refine wx_div (by first | decide | assumption) ?_ | with_reducible refine wx_pow (by decide) ?_ | with_reducible refine wx_cmp ?_ | with_reducible refine wx_lt ?_ | with_reducible refine wx_gt ?_
     | with_reducible refine ws_asg ?_ | with_reducible refine ws_ret ?_ | with_reducible refine wx_fB ?_ | with_reducible refine wx_and ?_ | with_reducible refine wx_or ?_ | with_reducible refine wx_not ?_ | with_reducible refine ws_if ?_)
  refine wx_call rfl (sp_draw (by decide) (by decide) hh1 fun nv s2 _ _ g2 => ?_)
  have hn : Pd 3 (.int nv) _ := (pd_int nv).mono (by decide)
  replace g2 := g1.trans g2
  have hh2 := g2.hand hh
  refine then_nx (ws_seq ?_)
  refine ws_asg (wx_op (wx_tup ?_))
  repeat (first
    | with_reducible refine wx_op ?_ | with_reducible refine wx_cb ?_ | with_reducible refine wx_cons ?_ | with_reducible refine wx_nil ?_ | with_reducible refine wx_c ?_ | with_reducible refine wx_var rfl (fun z => nomatch z) ?_
    | with_reducible refine wx_addI ?_ | with_reducible refine wx_sub ?_ | with_reducible refine wx_int ?_ | with_reducible refine wx_mul (small_mul (by decide)) ?_ | with_reducible refine wx_mul (small_mul (by omega)) ?_
    | with_reducible refine wx_mod (by first | decide | assumption | omega) ?_ | with_reducible refine wx_div (by first | decide | assumption) ?_ | with_reducible refine wx_pow (by decide) ?_ | with_reducible refine wx_cmp ?_ | with_reducible refine wx_lt ?_ | with_reducible refine wx_gt ?_
     | with_reducible refine ws_asg ?_ | with_reducible refine ws_ret ?_ | with_reducible refine wx_fB ?_ | with_reducible refine wx_and ?_ | with_reducible refine wx_or ?_ | with_reducible refine wx_not ?_ | with_reducible refine ws_if ?_)
  refine ⟨Nat.le_of_ble_eq_true rfl, ?_⟩
  repeat (first
    | with_reducible refine wx_op ?_ | with_reducible refine wx_cb ?_ | with_reducible refine wx_cons ?_ | with_reducible refine wx_nil ?_ | with_reducible refine wx_c ?_ | with_reducible refine wx_var rfl (fun z => nomatch z) ?_
    | with_reducible refine wx_addI ?_ | with_reducible refine wx_sub ?_ | with_reducible refine wx_int ?_ | with_reducible refine wx_mul (small_mul (by decide)) ?_ | with_reducible refine wx_mul (small_mul (by omega)) ?_
    | with_reducible refine wx_mod (by first | decide | assumption | omega) ?_ | with_reducible refine wx_div (by first | decide | assumption) ?_ | with_reducible refine wx_pow (by decide) ?_ | with_reducible refine wx_cmp ?_ | with_reducible refine wx_lt ?_ | with_reducible refine wx_gt ?_
     | with_reducible refine ws_asg ?_ | with_reducible refine ws_ret ?_ | with_reducible refine wx_fB ?_ | with_reducible refine wx_and ?_ | with_reducible refine wx_or ?_ | with_reducible refine wx_not ?_ | with_reducible refine ws_if ?_)
  refine wx_call rfl (sp_draw (by decide) (by decide) hh2 fun z s3 z0 z1 g3 => ?_)
  obtain ⟨pr, hpr⟩ : ∃ pr, atI [D.int 2, D.int 3, D.int 5, D.int 7, D.int 97] z = some (.int pr) := by
    have hz : z = 0 ∨ z = 1 ∨ z = 2 ∨ z = 3 ∨ z = 4 := by omega
    rcases hz with rfl | rfl | rfl | rfl | rfl <;> exact ⟨_, rfl⟩
  refine wx_ixT hpr ?_
  have hp : Pd 3 (.int pr) _ := (pd_int pr).mono (by decide)
  replace g3 := g2.trans g3
  have hh3 := g3.hand hh
  refine then_nx (ws_seq ?_)
  refine ws_asg (wx_cb (wx_cons ?_))
  refine wx_lcE (fun k acc s => Go st s ∧ ∃ ps, PdL 2 acc ps) ?_ ?_ ?_
  · refine wx_bind (wx_cons ?_)
    repeat (first
    | with_reducible refine wx_op ?_ | with_reducible refine wx_cb ?_ | with_reducible refine wx_cons ?_ | with_reducible refine wx_nil ?_ | with_reducible refine wx_c ?_ | with_reducible refine wx_var rfl (fun z => nomatch z) ?_
    | with_reducible refine wx_addI ?_ | with_reducible refine wx_sub ?_ | with_reducible refine wx_int ?_ | with_reducible refine wx_mul (small_mul (by decide)) ?_ | with_reducible refine wx_mul (small_mul (by omega)) ?_
    | with_reducible refine wx_mod (by first | decide | assumption | omega) ?_ | with_reducible refine wx_div (by first | decide | assumption) ?_ | with_reducible refine wx_pow (by decide) ?_ | with_reducible refine wx_cmp ?_ | with_reducible refine wx_lt ?_ | with_reducible refine wx_gt ?_
     | with_reducible refine ws_asg ?_ | with_reducible refine ws_ret ?_ | with_reducible refine wx_fB ?_ | with_reducible refine wx_and ?_ | with_reducible refine wx_or ?_ | with_reducible refine wx_not ?_ | with_reducible refine ws_if ?_)
    refine wx_call rfl (sp_draw (by decide) (by decide) hh3 fun v s4 v0 v1 g4 => ?_)
    repeat (first
    | with_reducible refine wx_op ?_ | with_reducible refine wx_cb ?_ | with_reducible refine wx_cons ?_ | with_reducible refine wx_nil ?_ | with_reducible refine wx_c ?_ | with_reducible refine wx_var rfl (fun z => nomatch z) ?_
    | with_reducible refine wx_addI ?_ | with_reducible refine wx_sub ?_ | with_reducible refine wx_int ?_ | with_reducible refine wx_mul (small_mul (by decide)) ?_ | with_reducible refine wx_mul (small_mul (by omega)) ?_
    | with_reducible refine wx_mod (by first | decide | assumption | omega) ?_ | with_reducible refine wx_div (by first | decide | assumption) ?_ | with_reducible refine wx_pow (by decide) ?_ | with_reducible refine wx_cmp ?_ | with_reducible refine wx_lt ?_ | with_reducible refine wx_gt ?_
     | with_reducible refine ws_asg ?_ | with_reducible refine ws_ret ?_ | with_reducible refine wx_fB ?_ | with_reducible refine wx_and ?_ | with_reducible refine wx_or ?_ | with_reducible refine wx_not ?_ | with_reducible refine ws_if ?_)
    have hr : rngOk (1 + v) = true := by
      unfold rngOk
      rw [Bool.and_eq_true]
      exact ⟨decide_eq_true (by omega), decide_eq_true (by omega)⟩
    refine ⟨.rng 0 (1 + v).toNat, s4, by dsimp only; rw [if_pos hr]; rfl, _, rfl, ?_, g3.trans g4, [], .nil⟩
    unfold bnd
    omega
  · rintro k acc s ⟨gs, ps, hps⟩
    refine wx_tup (wx_cons ?_)
    repeat (first
    | with_reducible refine wx_op ?_ | with_reducible refine wx_cb ?_ | with_reducible refine wx_cons ?_ | with_reducible refine wx_nil ?_ | with_reducible refine wx_c ?_ | with_reducible refine wx_var rfl (fun z => nomatch z) ?_
    | with_reducible refine wx_addI ?_ | with_reducible refine wx_sub ?_ | with_reducible refine wx_int ?_ | with_reducible refine wx_mul (small_mul (by decide)) ?_ | with_reducible refine wx_mul (small_mul (by omega)) ?_
    | with_reducible refine wx_mod (by first | decide | assumption | omega) ?_ | with_reducible refine wx_div (by first | decide | assumption) ?_ | with_reducible refine wx_pow (by decide) ?_ | with_reducible refine wx_cmp ?_ | with_reducible refine wx_lt ?_ | with_reducible refine wx_gt ?_
     | with_reducible refine ws_asg ?_ | with_reducible refine ws_ret ?_ | with_reducible refine wx_fB ?_ | with_reducible refine wx_and ?_ | with_reducible refine wx_or ?_ | with_reducible refine wx_not ?_ | with_reducible refine ws_if ?_)
    refine wx_call rfl (sp_draw (by decide) (by decide) (gs.hand hh) fun v s5 _ _ g5 => ?_)
    repeat (first
    | with_reducible refine wx_op ?_ | with_reducible refine wx_cb ?_ | with_reducible refine wx_cons ?_ | with_reducible refine wx_nil ?_ | with_reducible refine wx_c ?_ | with_reducible refine wx_var rfl (fun z => nomatch z) ?_
    | with_reducible refine wx_addI ?_ | with_reducible refine wx_sub ?_ | with_reducible refine wx_int ?_ | with_reducible refine wx_mul (small_mul (by decide)) ?_ | with_reducible refine wx_mul (small_mul (by omega)) ?_
    | with_reducible refine wx_mod (by first | decide | assumption | omega) ?_ | with_reducible refine wx_div (by first | decide | assumption) ?_ | with_reducible refine wx_pow (by decide) ?_ | with_reducible refine wx_cmp ?_ | with_reducible refine wx_lt ?_ | with_reducible refine wx_gt ?_
     | with_reducible refine ws_asg ?_ | with_reducible refine ws_ret ?_ | with_reducible refine wx_fB ?_ | with_reducible refine wx_and ?_ | with_reducible refine wx_or ?_ | with_reducible refine wx_not ?_ | with_reducible refine ws_if ?_)
    refine ⟨Nat.le_of_ble_eq_true rfl, gs.trans g5, ?_⟩
    have hd : Pd 2 (.tup [.int (v - 500), .int 1]) _ := pd_tup (.cons (pd_int (v - 500)) (.cons (pd_int 1) .nil))
    clear gs g5
    induction hps with
    | nil => exact ⟨_, .cons hd .nil⟩
    | cons a _ ih =>
      obtain ⟨ps2, h2⟩ := ih
      exact ⟨_, .cons a h2⟩
  rintro k acc s4 ⟨g4, ps, hps⟩
  have g5 := g4.trans (Go.push s4 acc)
  refine wx_nil (wx_tupL (At.new s4 acc) ?_)
  have hw : Pd 3 (.tup acc) _ := pd_tup hps
  generalize push s4 acc = s5 at g5
  have hh5 := g5.hand hh
  have hv5 := g5.af _ _ hv
  refine then_nx (ws_seq ?_)
  repeat (first
    | with_reducible refine wx_op ?_ | with_reducible refine wx_cb ?_ | with_reducible refine wx_cons ?_ | with_reducible refine wx_nil ?_ | with_reducible refine wx_c ?_ | with_reducible refine wx_var rfl (fun z => nomatch z) ?_
    | with_reducible refine wx_addI ?_ | with_reducible refine wx_sub ?_ | with_reducible refine wx_int ?_ | with_reducible refine wx_mul (small_mul (by decide)) ?_ | with_reducible refine wx_mul (small_mul (by omega)) ?_
    | with_reducible refine wx_mod (by first | decide | assumption | omega) ?_ | with_reducible refine wx_div (by first | decide | assumption) ?_ | with_reducible refine wx_pow (by decide) ?_ | with_reducible refine wx_cmp ?_ | with_reducible refine wx_lt ?_ | with_reducible refine wx_gt ?_
     | with_reducible refine ws_asg ?_ | with_reducible refine ws_ret ?_ | with_reducible refine wx_fB ?_ | with_reducible refine wx_and ?_ | with_reducible refine wx_or ?_ | with_reducible refine wx_not ?_ | with_reducible refine ws_if ?_)
  refine wx_ixL hv5.2 rfl ?_
  repeat (first
    | with_reducible refine wx_op ?_ | with_reducible refine wx_cb ?_ | with_reducible refine wx_cons ?_ | with_reducible refine wx_nil ?_ | with_reducible refine wx_c ?_ | with_reducible refine wx_var rfl (fun z => nomatch z) ?_
    | with_reducible refine wx_addI ?_ | with_reducible refine wx_sub ?_ | with_reducible refine wx_int ?_ | with_reducible refine wx_mul (small_mul (by decide)) ?_ | with_reducible refine wx_mul (small_mul (by omega)) ?_
    | with_reducible refine wx_mod (by first | decide | assumption | omega) ?_ | with_reducible refine wx_div (by first | decide | assumption) ?_ | with_reducible refine wx_pow (by decide) ?_ | with_reducible refine wx_cmp ?_ | with_reducible refine wx_lt ?_ | with_reducible refine wx_gt ?_
     | with_reducible refine ws_asg ?_ | with_reducible refine ws_ret ?_ | with_reducible refine wx_fB ?_ | with_reducible refine wx_and ?_ | with_reducible refine wx_or ?_ | with_reducible refine wx_not ?_ | with_reducible refine ws_if ?_)
  refine wx_ixL hv5.2 rfl ?_
  repeat (first
    | with_reducible refine wx_op ?_ | with_reducible refine wx_cb ?_ | with_reducible refine wx_cons ?_ | with_reducible refine wx_nil ?_ | with_reducible refine wx_c ?_ | with_reducible refine wx_var rfl (fun z => nomatch z) ?_
    | with_reducible refine wx_addI ?_ | with_reducible refine wx_sub ?_ | with_reducible refine wx_int ?_ | with_reducible refine wx_mul (small_mul (by decide)) ?_ | with_reducible refine wx_mul (small_mul (by omega)) ?_
    | with_reducible refine wx_mod (by first | decide | assumption | omega) ?_ | with_reducible refine wx_div (by first | decide | assumption) ?_ | with_reducible refine wx_pow (by decide) ?_ | with_reducible refine wx_cmp ?_ | with_reducible refine wx_lt ?_ | with_reducible refine wx_gt ?_
     | with_reducible refine ws_asg ?_ | with_reducible refine ws_ret ?_ | with_reducible refine wx_fB ?_ | with_reducible refine wx_and ?_ | with_reducible refine wx_or ?_ | with_reducible refine wx_not ?_ | with_reducible refine ws_if ?_)
  refine wx_call rfl (sp_errors ht.self hn.self hp.self hw.self hx.self hy.self hh5 fun pm s6 g6 am => ?_)
  replace g6 := g5.trans g6
  have hh6 := g6.hand hh
  have hv6 := g6.af _ _ hv
  refine then_nx (ws_seq ?_)
  repeat (first
    | with_reducible refine wx_op ?_ | with_reducible refine wx_cb ?_ | with_reducible refine wx_cons ?_ | with_reducible refine wx_nil ?_ | with_reducible refine wx_c ?_ | with_reducible refine wx_var rfl (fun z => nomatch z) ?_
    | with_reducible refine wx_addI ?_ | with_reducible refine wx_sub ?_ | with_reducible refine wx_int ?_ | with_reducible refine wx_mul (small_mul (by decide)) ?_ | with_reducible refine wx_mul (small_mul (by omega)) ?_
    | with_reducible refine wx_mod (by first | decide | assumption | omega) ?_ | with_reducible refine wx_div (by first | decide | assumption) ?_ | with_reducible refine wx_pow (by decide) ?_ | with_reducible refine wx_cmp ?_ | with_reducible refine wx_lt ?_ | with_reducible refine wx_gt ?_
     | with_reducible refine ws_asg ?_ | with_reducible refine ws_ret ?_ | with_reducible refine wx_fB ?_ | with_reducible refine wx_and ?_ | with_reducible refine wx_or ?_ | with_reducible refine wx_not ?_ | with_reducible refine ws_if ?_)
  refine wx_ixL hv6.2 rfl ?_
  repeat (first
    | with_reducible refine wx_op ?_ | with_reducible refine wx_cb ?_ | with_reducible refine wx_cons ?_ | with_reducible refine wx_nil ?_ | with_reducible refine wx_c ?_ | with_reducible refine wx_var rfl (fun z => nomatch z) ?_
    | with_reducible refine wx_addI ?_ | with_reducible refine wx_sub ?_ | with_reducible refine wx_int ?_ | with_reducible refine wx_mul (small_mul (by decide)) ?_ | with_reducible refine wx_mul (small_mul (by omega)) ?_
    | with_reducible refine wx_mod (by first | decide | assumption | omega) ?_ | with_reducible refine wx_div (by first | decide | assumption) ?_ | with_reducible refine wx_pow (by decide) ?_ | with_reducible refine wx_cmp ?_ | with_reducible refine wx_lt ?_ | with_reducible refine wx_gt ?_
     | with_reducible refine ws_asg ?_ | with_reducible refine ws_ret ?_ | with_reducible refine wx_fB ?_ | with_reducible refine wx_and ?_ | with_reducible refine wx_or ?_ | with_reducible refine wx_not ?_ | with_reducible refine ws_if ?_)
  refine wx_ixL hv6.2 rfl ?_
  repeat (first
    | with_reducible refine wx_op ?_ | with_reducible refine wx_cb ?_ | with_reducible refine wx_cons ?_ | with_reducible refine wx_nil ?_ | with_reducible refine wx_c ?_ | with_reducible refine wx_var rfl (fun z => nomatch z) ?_
    | with_reducible refine wx_addI ?_ | with_reducible refine wx_sub ?_ | with_reducible refine wx_int ?_ | with_reducible refine wx_mul (small_mul (by decide)) ?_ | with_reducible refine wx_mul (small_mul (by omega)) ?_
    | with_reducible refine wx_mod (by first | decide | assumption | omega) ?_ | with_reducible refine wx_div (by first | decide | assumption) ?_ | with_reducible refine wx_pow (by decide) ?_ | with_reducible refine wx_cmp ?_ | with_reducible refine wx_lt ?_ | with_reducible refine wx_gt ?_
     | with_reducible refine ws_asg ?_ | with_reducible refine ws_ret ?_ | with_reducible refine wx_fB ?_ | with_reducible refine wx_and ?_ | with_reducible refine wx_or ?_ | with_reducible refine wx_not ?_ | with_reducible refine ws_if ?_)
  refine wx_call rfl (sp_named_errors ht.self hn.self hp.self hw.self hx.self hy.self hh6 fun pnm s7 g7 an => ?_)
  have am7 := g7.af _ _ am
  replace g7 := g6.trans g7
  have hh7 := g7.hand hh
  refine then_nx (ws_seq ?_)
  repeat (first
    | with_reducible refine wx_op ?_ | with_reducible refine wx_cb ?_ | with_reducible refine wx_cons ?_ | with_reducible refine wx_nil ?_ | with_reducible refine wx_c ?_ | with_reducible refine wx_var rfl (fun z => nomatch z) ?_
    | with_reducible refine wx_addI ?_ | with_reducible refine wx_sub ?_ | with_reducible refine wx_int ?_ | with_reducible refine wx_mul (small_mul (by decide)) ?_ | with_reducible refine wx_mul (small_mul (by omega)) ?_
    | with_reducible refine wx_mod (by first | decide | assumption | omega) ?_ | with_reducible refine wx_div (by first | decide | assumption) ?_ | with_reducible refine wx_pow (by decide) ?_ | with_reducible refine wx_cmp ?_ | with_reducible refine wx_lt ?_ | with_reducible refine wx_gt ?_
     | with_reducible refine ws_asg ?_ | with_reducible refine ws_ret ?_ | with_reducible refine wx_fB ?_ | with_reducible refine wx_and ?_ | with_reducible refine wx_or ?_ | with_reducible refine wx_not ?_ | with_reducible refine ws_if ?_)
  refine wx_call rfl (sp_fields am7 hh7 fun ptd s8 g8 at8 => ?_)
  have am8 := g8.af _ _ am7
  have an8 := g8.af _ _ an
  replace g8 := g7.trans g8
  have hh8 := g8.hand hh
  have hv8 := g8.af _ _ hv
  have hpd := pd_flds ht hn hp hw hx hy
  refine then_nx (ws_seq ?_)
  repeat (first
    | with_reducible refine wx_op ?_ | with_reducible refine wx_cb ?_ | with_reducible refine wx_cons ?_ | with_reducible refine wx_nil ?_ | with_reducible refine wx_c ?_ | with_reducible refine wx_var rfl (fun z => nomatch z) ?_
    | with_reducible refine wx_addI ?_ | with_reducible refine wx_sub ?_ | with_reducible refine wx_int ?_ | with_reducible refine wx_mul (small_mul (by decide)) ?_ | with_reducible refine wx_mul (small_mul (by omega)) ?_
    | with_reducible refine wx_mod (by first | decide | assumption | omega) ?_ | with_reducible refine wx_div (by first | decide | assumption) ?_ | with_reducible refine wx_pow (by decide) ?_ | with_reducible refine wx_cmp ?_ | with_reducible refine wx_lt ?_ | with_reducible refine wx_gt ?_
     | with_reducible refine ws_asg ?_ | with_reducible refine ws_ret ?_ | with_reducible refine wx_fB ?_ | with_reducible refine wx_and ?_ | with_reducible refine wx_or ?_ | with_reducible refine wx_not ?_ | with_reducible refine ws_if ?_)
  refine wx_ixL hv8.2 rfl ?_
  repeat (first
    | with_reducible refine wx_op ?_ | with_reducible refine wx_cb ?_ | with_reducible refine wx_cons ?_ | with_reducible refine wx_nil ?_ | with_reducible refine wx_c ?_ | with_reducible refine wx_var rfl (fun z => nomatch z) ?_
    | with_reducible refine wx_addI ?_ | with_reducible refine wx_sub ?_ | with_reducible refine wx_int ?_ | with_reducible refine wx_mul (small_mul (by decide)) ?_ | with_reducible refine wx_mul (small_mul (by omega)) ?_
    | with_reducible refine wx_mod (by first | decide | assumption | omega) ?_ | with_reducible refine wx_div (by first | decide | assumption) ?_ | with_reducible refine wx_pow (by decide) ?_ | with_reducible refine wx_cmp ?_ | with_reducible refine wx_lt ?_ | with_reducible refine wx_gt ?_
     | with_reducible refine ws_asg ?_ | with_reducible refine ws_ret ?_ | with_reducible refine wx_fB ?_ | with_reducible refine wx_and ?_ | with_reducible refine wx_or ?_ | with_reducible refine wx_not ?_ | with_reducible refine ws_if ?_)
  refine wx_ixL hv8.2 rfl ?_
  repeat (first
    | with_reducible refine wx_op ?_ | with_reducible refine wx_cb ?_ | with_reducible refine wx_cons ?_ | with_reducible refine wx_nil ?_ | with_reducible refine wx_c ?_ | with_reducible refine wx_var rfl (fun z => nomatch z) ?_
    | with_reducible refine wx_addI ?_ | with_reducible refine wx_sub ?_ | with_reducible refine wx_int ?_ | with_reducible refine wx_mul (small_mul (by decide)) ?_ | with_reducible refine wx_mul (small_mul (by omega)) ?_
    | with_reducible refine wx_mod (by first | decide | assumption | omega) ?_ | with_reducible refine wx_div (by first | decide | assumption) ?_ | with_reducible refine wx_pow (by decide) ?_ | with_reducible refine wx_cmp ?_ | with_reducible refine wx_lt ?_ | with_reducible refine wx_gt ?_
     | with_reducible refine ws_asg ?_ | with_reducible refine ws_ret ?_ | with_reducible refine wx_fB ?_ | with_reducible refine wx_and ?_ | with_reducible refine wx_or ?_ | with_reducible refine wx_not ?_ | with_reducible refine ws_if ?_)
  refine wx_call rfl (sp_due_fields ht.self hn.self hp.self hw.self hx.self hy.self hh8 fun pdu s9 g9 ad => ?_)
  have an9 := g9.af _ _ an8
  have am9 := g9.af _ _ am8
  have at9 := at8.go g9
  replace g9 := g8.trans g9
  have hh9 := g9.hand hh
  refine wx_eq (fun _ _ z => nomatch z) (neqLL at9 ad hpd) ⟨_, rfl, iteF ?_⟩
  repeat (first
    | with_reducible refine wx_op ?_ | with_reducible refine wx_cb ?_ | with_reducible refine wx_cons ?_ | with_reducible refine wx_nil ?_ | with_reducible refine wx_c ?_ | with_reducible refine wx_var rfl (fun z => nomatch z) ?_
    | with_reducible refine wx_addI ?_ | with_reducible refine wx_sub ?_ | with_reducible refine wx_int ?_ | with_reducible refine wx_mul (small_mul (by decide)) ?_ | with_reducible refine wx_mul (small_mul (by omega)) ?_
    | with_reducible refine wx_mod (by first | decide | assumption | omega) ?_ | with_reducible refine wx_div (by first | decide | assumption) ?_ | with_reducible refine wx_pow (by decide) ?_ | with_reducible refine wx_cmp ?_ | with_reducible refine wx_lt ?_ | with_reducible refine wx_gt ?_
     | with_reducible refine ws_asg ?_ | with_reducible refine ws_ret ?_ | with_reducible refine wx_fB ?_ | with_reducible refine wx_and ?_ | with_reducible refine wx_or ?_ | with_reducible refine wx_not ?_ | with_reducible refine ws_if ?_)
  refine wx_call rfl (sp_fields an9 hh9 fun pt2 s10 g10 at10 => ?_)
  have am10 := g10.af _ _ am9
  have an10 := g10.af _ _ an9
  have at10b := at9.go g10
  replace g10 := g9.trans g10
  have hh10 := g10.hand hh
  repeat (first
    | with_reducible refine wx_op ?_ | with_reducible refine wx_cb ?_ | with_reducible refine wx_cons ?_ | with_reducible refine wx_nil ?_ | with_reducible refine wx_c ?_ | with_reducible refine wx_var rfl (fun z => nomatch z) ?_
    | with_reducible refine wx_addI ?_ | with_reducible refine wx_sub ?_ | with_reducible refine wx_int ?_ | with_reducible refine wx_mul (small_mul (by decide)) ?_ | with_reducible refine wx_mul (small_mul (by omega)) ?_
    | with_reducible refine wx_mod (by first | decide | assumption | omega) ?_ | with_reducible refine wx_div (by first | decide | assumption) ?_ | with_reducible refine wx_pow (by decide) ?_ | with_reducible refine wx_cmp ?_ | with_reducible refine wx_lt ?_ | with_reducible refine wx_gt ?_
     | with_reducible refine ws_asg ?_ | with_reducible refine ws_ret ?_ | with_reducible refine wx_fB ?_ | with_reducible refine wx_and ?_ | with_reducible refine wx_or ?_ | with_reducible refine wx_not ?_ | with_reducible refine ws_if ?_)
  refine wx_eq (fun _ _ z => nomatch z) (neqLL at10 at10b hpd) ⟨_, rfl, iteF ?_⟩
  repeat (first
    | with_reducible refine wx_op ?_ | with_reducible refine wx_cb ?_ | with_reducible refine wx_cons ?_ | with_reducible refine wx_nil ?_ | with_reducible refine wx_c ?_ | with_reducible refine wx_var rfl (fun z => nomatch z) ?_
    | with_reducible refine wx_addI ?_ | with_reducible refine wx_sub ?_ | with_reducible refine wx_int ?_ | with_reducible refine wx_mul (small_mul (by decide)) ?_ | with_reducible refine wx_mul (small_mul (by omega)) ?_
    | with_reducible refine wx_mod (by first | decide | assumption | omega) ?_ | with_reducible refine wx_div (by first | decide | assumption) ?_ | with_reducible refine wx_pow (by decide) ?_ | with_reducible refine wx_cmp ?_ | with_reducible refine wx_lt ?_ | with_reducible refine wx_gt ?_
     | with_reducible refine ws_asg ?_ | with_reducible refine ws_ret ?_ | with_reducible refine wx_fB ?_ | with_reducible refine wx_and ?_ | with_reducible refine wx_or ?_ | with_reducible refine wx_not ?_ | with_reducible refine ws_if ?_)
  refine wx_lenL am10.2 ?_
  repeat (first
    | with_reducible refine wx_op ?_ | with_reducible refine wx_cb ?_ | with_reducible refine wx_cons ?_ | with_reducible refine wx_nil ?_ | with_reducible refine wx_c ?_ | with_reducible refine wx_var rfl (fun z => nomatch z) ?_
    | with_reducible refine wx_addI ?_ | with_reducible refine wx_sub ?_ | with_reducible refine wx_int ?_ | with_reducible refine wx_mul (small_mul (by decide)) ?_ | with_reducible refine wx_mul (small_mul (by omega)) ?_
    | with_reducible refine wx_mod (by first | decide | assumption | omega) ?_ | with_reducible refine wx_div (by first | decide | assumption) ?_ | with_reducible refine wx_pow (by decide) ?_ | with_reducible refine wx_cmp ?_ | with_reducible refine wx_lt ?_ | with_reducible refine wx_gt ?_
     | with_reducible refine ws_asg ?_ | with_reducible refine ws_ret ?_ | with_reducible refine wx_fB ?_ | with_reducible refine wx_and ?_ | with_reducible refine wx_or ?_ | with_reducible refine wx_not ?_ | with_reducible refine ws_if ?_)
  refine wx_eq (fun _ _ z => nomatch z) eq_intT ⟨false, rfl, iteF ?_⟩
  refine ws_pass (then_nx (ws_seq (ws_for (wx_rng1 (j := 39) ?_))))
  repeat (first
    | with_reducible refine wx_op ?_ | with_reducible refine wx_cb ?_ | with_reducible refine wx_cons ?_ | with_reducible refine wx_nil ?_ | with_reducible refine wx_c ?_ | with_reducible refine wx_var rfl (fun z => nomatch z) ?_
    | with_reducible refine wx_addI ?_ | with_reducible refine wx_sub ?_ | with_reducible refine wx_int ?_ | with_reducible refine wx_mul (small_mul (by decide)) ?_ | with_reducible refine wx_mul (small_mul (by omega)) ?_
    | with_reducible refine wx_mod (by first | decide | assumption | omega) ?_ | with_reducible refine wx_div (by first | decide | assumption) ?_ | with_reducible refine wx_pow (by decide) ?_ | with_reducible refine wx_cmp ?_ | with_reducible refine wx_lt ?_ | with_reducible refine wx_gt ?_
     | with_reducible refine ws_asg ?_ | with_reducible refine ws_ret ?_ | with_reducible refine wx_fB ?_ | with_reducible refine wx_and ?_ | with_reducible refine wx_or ?_ | with_reducible refine wx_not ?_ | with_reducible refine ws_if ?_)
  refine ⟨rfl, by decide, ?_⟩
  refine ws_rng (n := 39) (fun k e s => ∃ c9 c10 c11, e = [some (.ptr 1), some (.ptr pv), some (.str tx), some (.int nv), some (.int pr), some (.tup acc), some (.ptr pm), some (.ptr pnm), some (.ptr ptd), c9, c10, c11] ∧ Go st s ∧ Af s pm (errsL (.str tx) (.int nv) (.int pr) (.tup acc) x0 x1) ∧ Af s pnm (errsL (.str tx) (.int nv) (.int pr) (.tup acc) x0 x1)) ?_ ?_ 39 0 _ _ rfl ⟨_, _, _, rfl, g10, am10, an10⟩
  · rintro k e s hk ⟨c9, c10, c11, rfl, gs, am, an⟩
    have hhs := gs.hand hh
    obtain ⟨c, ds, hc, hat, hkd⟩ := errs_at (.str tx) (.int nv) (.int pr) (.tup acc) x0 x1 k hk
    obtain ⟨pdus, hdu⟩ := pd_due k 39
    refine ws_seq (ws_asg ?_)
    refine wx_lcR (n := 39) (fun j acc s2 => acc = dueL k j ∧ s2 = s) ?_ ?_ ?_
    · refine wx_rng1 (j := 39) ?_
      repeat (first
    | with_reducible refine wx_op ?_ | with_reducible refine wx_cb ?_ | with_reducible refine wx_cons ?_ | with_reducible refine wx_nil ?_ | with_reducible refine wx_c ?_ | with_reducible refine wx_var rfl (fun z => nomatch z) ?_
    | with_reducible refine wx_addI ?_ | with_reducible refine wx_sub ?_ | with_reducible refine wx_int ?_ | with_reducible refine wx_mul (small_mul (by decide)) ?_ | with_reducible refine wx_mul (small_mul (by omega)) ?_
    | with_reducible refine wx_mod (by first | decide | assumption | omega) ?_ | with_reducible refine wx_div (by first | decide | assumption) ?_ | with_reducible refine wx_pow (by decide) ?_ | with_reducible refine wx_cmp ?_ | with_reducible refine wx_lt ?_ | with_reducible refine wx_gt ?_
     | with_reducible refine ws_asg ?_ | with_reducible refine ws_ret ?_ | with_reducible refine wx_fB ?_ | with_reducible refine wx_and ?_ | with_reducible refine wx_or ?_ | with_reducible refine wx_not ?_ | with_reducible refine ws_if ?_)
      exact ⟨rfl, by decide, rfl, by decide, rfl, rfl⟩
    · rintro j acc2 s2 hj ⟨rfl, rfl⟩
      repeat (first
    | with_reducible refine wx_op ?_ | with_reducible refine wx_cb ?_ | with_reducible refine wx_cons ?_ | with_reducible refine wx_nil ?_ | with_reducible refine wx_c ?_ | with_reducible refine wx_var rfl (fun z => nomatch z) ?_
    | with_reducible refine wx_addI ?_ | with_reducible refine wx_sub ?_ | with_reducible refine wx_int ?_ | with_reducible refine wx_mul (small_mul (by decide)) ?_ | with_reducible refine wx_mul (small_mul (by omega)) ?_
    | with_reducible refine wx_mod (by first | decide | assumption | omega) ?_ | with_reducible refine wx_div (by first | decide | assumption) ?_ | with_reducible refine wx_pow (by decide) ?_ | with_reducible refine wx_cmp ?_ | with_reducible refine wx_lt ?_ | with_reducible refine wx_gt ?_
     | with_reducible refine ws_asg ?_ | with_reducible refine ws_ret ?_ | with_reducible refine wx_fB ?_ | with_reducible refine wx_and ?_ | with_reducible refine wx_or ?_ | with_reducible refine wx_not ?_ | with_reducible refine ws_if ?_)
      refine wx_eq (fun _ _ z => nomatch z) eq_intF ⟨?_, rfl⟩
      unfold dueL
      rw [List.range_succ, List.map_append]
      congr 2
      have e1 : (((j : Nat) : Int) == ((k : Nat) : Int)) = (j == k) := by
        rw [Bool.eq_iff_iff]
        simp only [beq_iff_eq]
        omega
      show _ = D.bl (j == k)
      rw [e1]
    rintro acc2 s2 ⟨rfl, rfl⟩
    have gp := Go.push s2 (dueL k 39)
    have adu := Af.new hhs (dueL k 39)
    have am1 := gp.af _ _ am
    have an1 := gp.af _ _ an
    replace gp := gs.trans gp
    have hhp := gp.hand hh
    refine then_nx (ws_seq ?_)
    repeat (first
    | with_reducible refine wx_op ?_ | with_reducible refine wx_cb ?_ | with_reducible refine wx_cons ?_ | with_reducible refine wx_nil ?_ | with_reducible refine wx_c ?_ | with_reducible refine wx_var rfl (fun z => nomatch z) ?_
    | with_reducible refine wx_addI ?_ | with_reducible refine wx_sub ?_ | with_reducible refine wx_int ?_ | with_reducible refine wx_mul (small_mul (by decide)) ?_ | with_reducible refine wx_mul (small_mul (by omega)) ?_
    | with_reducible refine wx_mod (by first | decide | assumption | omega) ?_ | with_reducible refine wx_div (by first | decide | assumption) ?_ | with_reducible refine wx_pow (by decide) ?_ | with_reducible refine wx_cmp ?_ | with_reducible refine wx_lt ?_ | with_reducible refine wx_gt ?_
     | with_reducible refine ws_asg ?_ | with_reducible refine ws_ret ?_ | with_reducible refine wx_fB ?_ | with_reducible refine wx_and ?_ | with_reducible refine wx_or ?_ | with_reducible refine wx_not ?_ | with_reducible refine ws_if ?_)
    refine wx_ixL am1.2 (atI_nat hat) ?_
    repeat (first
    | with_reducible refine wx_op ?_ | with_reducible refine wx_cb ?_ | with_reducible refine wx_cons ?_ | with_reducible refine wx_nil ?_ | with_reducible refine wx_c ?_ | with_reducible refine wx_var rfl (fun z => nomatch z) ?_
    | with_reducible refine wx_addI ?_ | with_reducible refine wx_sub ?_ | with_reducible refine wx_int ?_ | with_reducible refine wx_mul (small_mul (by decide)) ?_ | with_reducible refine wx_mul (small_mul (by omega)) ?_
    | with_reducible refine wx_mod (by first | decide | assumption | omega) ?_ | with_reducible refine wx_div (by first | decide | assumption) ?_ | with_reducible refine wx_pow (by decide) ?_ | with_reducible refine wx_cmp ?_ | with_reducible refine wx_lt ?_ | with_reducible refine wx_gt ?_
     | with_reducible refine ws_asg ?_ | with_reducible refine ws_ret ?_ | with_reducible refine wx_fB ?_ | with_reducible refine wx_and ?_ | with_reducible refine wx_or ?_ | with_reducible refine wx_not ?_ | with_reducible refine ws_if ?_)
    refine wx_call rfl (sp_kinds hc hhp fun p1 s3 g3 a3 => ?_)
    have an3 := g3.af _ _ an1
    have am3 := g3.af _ _ am1
    have ad3 := g3.af _ _ adu
    rw [hkd] at a3
    replace g3 := gp.trans g3
    repeat (first
    | with_reducible refine wx_op ?_ | with_reducible refine wx_cb ?_ | with_reducible refine wx_cons ?_ | with_reducible refine wx_nil ?_ | with_reducible refine wx_c ?_ | with_reducible refine wx_var rfl (fun z => nomatch z) ?_
    | with_reducible refine wx_addI ?_ | with_reducible refine wx_sub ?_ | with_reducible refine wx_int ?_ | with_reducible refine wx_mul (small_mul (by decide)) ?_ | with_reducible refine wx_mul (small_mul (by omega)) ?_
    | with_reducible refine wx_mod (by first | decide | assumption | omega) ?_ | with_reducible refine wx_div (by first | decide | assumption) ?_ | with_reducible refine wx_pow (by decide) ?_ | with_reducible refine wx_cmp ?_ | with_reducible refine wx_lt ?_ | with_reducible refine wx_gt ?_
     | with_reducible refine ws_asg ?_ | with_reducible refine ws_ret ?_ | with_reducible refine wx_fB ?_ | with_reducible refine wx_and ?_ | with_reducible refine wx_or ?_ | with_reducible refine wx_not ?_ | with_reducible refine ws_if ?_)
    refine wx_eq (fun _ _ z => nomatch z) (neqA a3 ad3 hdu) ⟨_, rfl, iteF ?_⟩
    repeat (first
    | with_reducible refine wx_op ?_ | with_reducible refine wx_cb ?_ | with_reducible refine wx_cons ?_ | with_reducible refine wx_nil ?_ | with_reducible refine wx_c ?_ | with_reducible refine wx_var rfl (fun z => nomatch z) ?_
    | with_reducible refine wx_addI ?_ | with_reducible refine wx_sub ?_ | with_reducible refine wx_int ?_ | with_reducible refine wx_mul (small_mul (by decide)) ?_ | with_reducible refine wx_mul (small_mul (by omega)) ?_
    | with_reducible refine wx_mod (by first | decide | assumption | omega) ?_ | with_reducible refine wx_div (by first | decide | assumption) ?_ | with_reducible refine wx_pow (by decide) ?_ | with_reducible refine wx_cmp ?_ | with_reducible refine wx_lt ?_ | with_reducible refine wx_gt ?_
     | with_reducible refine ws_asg ?_ | with_reducible refine ws_ret ?_ | with_reducible refine wx_fB ?_ | with_reducible refine wx_and ?_ | with_reducible refine wx_or ?_ | with_reducible refine wx_not ?_ | with_reducible refine ws_if ?_)
    refine wx_ixL an3.2 (atI_nat hat) ?_
    repeat (first
    | with_reducible refine wx_op ?_ | with_reducible refine wx_cb ?_ | with_reducible refine wx_cons ?_ | with_reducible refine wx_nil ?_ | with_reducible refine wx_c ?_ | with_reducible refine wx_var rfl (fun z => nomatch z) ?_
    | with_reducible refine wx_addI ?_ | with_reducible refine wx_sub ?_ | with_reducible refine wx_int ?_ | with_reducible refine wx_mul (small_mul (by decide)) ?_ | with_reducible refine wx_mul (small_mul (by omega)) ?_
    | with_reducible refine wx_mod (by first | decide | assumption | omega) ?_ | with_reducible refine wx_div (by first | decide | assumption) ?_ | with_reducible refine wx_pow (by decide) ?_ | with_reducible refine wx_cmp ?_ | with_reducible refine wx_lt ?_ | with_reducible refine wx_gt ?_
     | with_reducible refine ws_asg ?_ | with_reducible refine ws_ret ?_ | with_reducible refine wx_fB ?_ | with_reducible refine wx_and ?_ | with_reducible refine wx_or ?_ | with_reducible refine wx_not ?_ | with_reducible refine ws_if ?_)
    refine wx_call rfl (sp_kinds hc (g3.hand hh) fun p2 s4 g4 a4 => ?_)
    have an4 := g4.af _ _ an3
    have am4 := g4.af _ _ am3
    have ad4 := g4.af _ _ ad3
    rw [hkd] at a4
    replace g4 := g3.trans g4
    repeat (first
    | with_reducible refine wx_op ?_ | with_reducible refine wx_cb ?_ | with_reducible refine wx_cons ?_ | with_reducible refine wx_nil ?_ | with_reducible refine wx_c ?_ | with_reducible refine wx_var rfl (fun z => nomatch z) ?_
    | with_reducible refine wx_addI ?_ | with_reducible refine wx_sub ?_ | with_reducible refine wx_int ?_ | with_reducible refine wx_mul (small_mul (by decide)) ?_ | with_reducible refine wx_mul (small_mul (by omega)) ?_
    | with_reducible refine wx_mod (by first | decide | assumption | omega) ?_ | with_reducible refine wx_div (by first | decide | assumption) ?_ | with_reducible refine wx_pow (by decide) ?_ | with_reducible refine wx_cmp ?_ | with_reducible refine wx_lt ?_ | with_reducible refine wx_gt ?_
     | with_reducible refine ws_asg ?_ | with_reducible refine ws_ret ?_ | with_reducible refine wx_fB ?_ | with_reducible refine wx_and ?_ | with_reducible refine wx_or ?_ | with_reducible refine wx_not ?_ | with_reducible refine ws_if ?_)
    refine wx_eq (fun _ _ z => nomatch z) (neqA a4 ad4 hdu) ⟨_, rfl, iteF ?_⟩
    refine ws_pass (then_nx ?_)
    refine ws_if (wx_or (wx_not (wx_fB (wx_isE ?_))))
    repeat (first
    | with_reducible refine wx_op ?_ | with_reducible refine wx_cb ?_ | with_reducible refine wx_cons ?_ | with_reducible refine wx_nil ?_ | with_reducible refine wx_c ?_ | with_reducible refine wx_var rfl (fun z => nomatch z) ?_
    | with_reducible refine wx_addI ?_ | with_reducible refine wx_sub ?_ | with_reducible refine wx_int ?_ | with_reducible refine wx_mul (small_mul (by decide)) ?_ | with_reducible refine wx_mul (small_mul (by omega)) ?_
    | with_reducible refine wx_mod (by first | decide | assumption | omega) ?_ | with_reducible refine wx_div (by first | decide | assumption) ?_ | with_reducible refine wx_pow (by decide) ?_ | with_reducible refine wx_cmp ?_ | with_reducible refine wx_lt ?_ | with_reducible refine wx_gt ?_
     | with_reducible refine ws_asg ?_ | with_reducible refine ws_ret ?_ | with_reducible refine wx_fB ?_ | with_reducible refine wx_and ?_ | with_reducible refine wx_or ?_ | with_reducible refine wx_not ?_ | with_reducible refine ws_if ?_)
    refine wx_ixL am4.2 (atI_nat hat) ⟨_, _, rfl, isi0 hc, _, rfl, iteF ?_⟩
    refine wx_or (wx_not (wx_fB (wx_isE ?_)))
    repeat (first
    | with_reducible refine wx_op ?_ | with_reducible refine wx_cb ?_ | with_reducible refine wx_cons ?_ | with_reducible refine wx_nil ?_ | with_reducible refine wx_c ?_ | with_reducible refine wx_var rfl (fun z => nomatch z) ?_
    | with_reducible refine wx_addI ?_ | with_reducible refine wx_sub ?_ | with_reducible refine wx_int ?_ | with_reducible refine wx_mul (small_mul (by decide)) ?_ | with_reducible refine wx_mul (small_mul (by omega)) ?_
    | with_reducible refine wx_mod (by first | decide | assumption | omega) ?_ | with_reducible refine wx_div (by first | decide | assumption) ?_ | with_reducible refine wx_pow (by decide) ?_ | with_reducible refine wx_cmp ?_ | with_reducible refine wx_lt ?_ | with_reducible refine wx_gt ?_
     | with_reducible refine ws_asg ?_ | with_reducible refine ws_ret ?_ | with_reducible refine wx_fB ?_ | with_reducible refine wx_and ?_ | with_reducible refine wx_or ?_ | with_reducible refine wx_not ?_ | with_reducible refine ws_if ?_)
    refine wx_ixL am4.2 (atI_nat hat) ⟨_, _, rfl, isiV hc, _, rfl, iteF ?_⟩
    refine wx_not (wx_fB (wx_isE ?_))
    repeat (first
    | with_reducible refine wx_op ?_ | with_reducible refine wx_cb ?_ | with_reducible refine wx_cons ?_ | with_reducible refine wx_nil ?_ | with_reducible refine wx_c ?_ | with_reducible refine wx_var rfl (fun z => nomatch z) ?_
    | with_reducible refine wx_addI ?_ | with_reducible refine wx_sub ?_ | with_reducible refine wx_int ?_ | with_reducible refine wx_mul (small_mul (by decide)) ?_ | with_reducible refine wx_mul (small_mul (by omega)) ?_
    | with_reducible refine wx_mod (by first | decide | assumption | omega) ?_ | with_reducible refine wx_div (by first | decide | assumption) ?_ | with_reducible refine wx_pow (by decide) ?_ | with_reducible refine wx_cmp ?_ | with_reducible refine wx_lt ?_ | with_reducible refine wx_gt ?_
     | with_reducible refine ws_asg ?_ | with_reducible refine ws_ret ?_ | with_reducible refine wx_fB ?_ | with_reducible refine wx_and ?_ | with_reducible refine wx_or ?_ | with_reducible refine wx_not ?_ | with_reducible refine ws_if ?_)
    refine wx_ixL an4.2 (atI_nat hat) ⟨_, _, rfl, isi0 hc, _, rfl, iteF ?_⟩
    exact ws_pass ⟨_, _, _, rfl, g4, am4, an4⟩
  · rintro e s ⟨c9, c10, c11, rfl, gs, am, an⟩
    exact then_nx (ws_ret (wx_c (q s gs)))
end
end Pl
/-! Pl7: the results right; the law. -/
namespace Pl
open PySem PySem.Spec PyProof.Rows L2 Vm Wk
theorem res_at : ∀ k, k < 21 → ∃ c m, resC[k]? = some (c, m) ∧ (1 ≤ m ∧ m ≤ 5) ∧ (40 ≤ c ∧ c < 61) ∧ ∀ x0 x1 x2 x3 x4 : D, (resL x0 x1 x2 x3 x4)[k]? = some (.ins c ([x0, x1, x2, x3, x4].take m)) ∧ (thsL x0 x1 x2 x3 x4)[k]? = some ([x0, x1, x2, x3, x4].take m) := fun k h => match k, h with
  | 0, _ => ⟨54, 4, rfl, by decide, by decide, fun _ _ _ _ _ => ⟨rfl, rfl⟩⟩
  | 1, _ => ⟨47, 3, rfl, by decide, by decide, fun _ _ _ _ _ => ⟨rfl, rfl⟩⟩
  | 2, _ => ⟨55, 2, rfl, by decide, by decide, fun _ _ _ _ _ => ⟨rfl, rfl⟩⟩
  | 3, _ => ⟨56, 1, rfl, by decide, by decide, fun _ _ _ _ _ => ⟨rfl, rfl⟩⟩
  | 4, _ => ⟨57, 3, rfl, by decide, by decide, fun _ _ _ _ _ => ⟨rfl, rfl⟩⟩
  | 5, _ => ⟨60, 5, rfl, by decide, by decide, fun _ _ _ _ _ => ⟨rfl, rfl⟩⟩
  | 6, _ => ⟨40, 4, rfl, by decide, by decide, fun _ _ _ _ _ => ⟨rfl, rfl⟩⟩
  | 7, _ => ⟨45, 2, rfl, by decide, by decide, fun _ _ _ _ _ => ⟨rfl, rfl⟩⟩
  | 8, _ => ⟨41, 2, rfl, by decide, by decide, fun _ _ _ _ _ => ⟨rfl, rfl⟩⟩
  | 9, _ => ⟨42, 1, rfl, by decide, by decide, fun _ _ _ _ _ => ⟨rfl, rfl⟩⟩
  | 10, _ => ⟨43, 2, rfl, by decide, by decide, fun _ _ _ _ _ => ⟨rfl, rfl⟩⟩
  | 11, _ => ⟨48, 4, rfl, by decide, by decide, fun _ _ _ _ _ => ⟨rfl, rfl⟩⟩
  | 12, _ => ⟨49, 4, rfl, by decide, by decide, fun _ _ _ _ _ => ⟨rfl, rfl⟩⟩
  | 13, _ => ⟨50, 2, rfl, by decide, by decide, fun _ _ _ _ _ => ⟨rfl, rfl⟩⟩
  | 14, _ => ⟨51, 4, rfl, by decide, by decide, fun _ _ _ _ _ => ⟨rfl, rfl⟩⟩
  | 15, _ => ⟨52, 2, rfl, by decide, by decide, fun _ _ _ _ _ => ⟨rfl, rfl⟩⟩
  | 16, _ => ⟨53, 3, rfl, by decide, by decide, fun _ _ _ _ _ => ⟨rfl, rfl⟩⟩
  | 17, _ => ⟨58, 2, rfl, by decide, by decide, fun _ _ _ _ _ => ⟨rfl, rfl⟩⟩
  | 18, _ => ⟨46, 3, rfl, by decide, by decide, fun _ _ _ _ _ => ⟨rfl, rfl⟩⟩
  | 19, _ => ⟨59, 4, rfl, by decide, by decide, fun _ _ _ _ _ => ⟨rfl, rfl⟩⟩
  | 20, _ => ⟨44, 2, rfl, by decide, by decide, fun _ _ _ _ _ => ⟨rfl, rfl⟩⟩
  | n + 21, h => absurd h (by omega)
theorem res_ne {k j c m m2 : Nat} (h1 : resC[k]? = some (c, m)) (h2 : resC[j]? = some (c, m2)) : k = j := by
  have nd : (resC.map (·.1)).Nodup := by decide
  have e1 : (resC.map (·.1))[k]? = some c := by rw [List.getElem?_map, h1]; rfl
  have e2 : (resC.map (·.1))[j]? = some c := by rw [List.getElem?_map, h2]; rfl
  exact nd_ix nd e1 e2
def chD : D := .tup [.str "changed", .int 0]
theorem pd_ch : Pd 3 chD CH := (pd_tup (.cons (pd_str (strOk_of _)) (.cons (pd_int 0) .nil))).mono (by decide)
section
variable {K : PySem.W.Frag} {st : Sto} {Q : D → Sto → Prop} {x0 x1 x2 x3 x4 : D} {p0 p1 p2 p3 p4 : PyData}
theorem pd_ths (h0 : Pd 3 x0 p0) (h1 : Pd 3 x1 p1) (h2 : Pd 3 x2 p2) (h3 : Pd 3 x3 p3) (h4 : Pd 3 x4 p4) : PdLL 3 (thsL x0 x1 x2 x3 x4) [.list [p0, p1, p2, p3], .list [p0, p1, p2], .list [p0, p1], .list [p0], .list [p0, p1, p2], .list [p0, p1, p2, p3, p4], .list [p0, p1, p2, p3], .list [p0, p1], .list [p0, p1], .list [p0], .list [p0, p1], .list [p0, p1, p2, p3], .list [p0, p1, p2, p3], .list [p0, p1], .list [p0, p1, p2, p3], .list [p0, p1], .list [p0, p1, p2], .list [p0, p1], .list [p0, p1, p2], .list [p0, p1, p2, p3], .list [p0, p1]] := (.cons (.cons h0 (.cons h1 (.cons h2 (.cons h3 .nil)))) (.cons (.cons h0 (.cons h1 (.cons h2 .nil))) (.cons (.cons h0 (.cons h1 .nil)) (.cons (.cons h0 .nil) (.cons (.cons h0 (.cons h1 (.cons h2 .nil))) (.cons (.cons h0 (.cons h1 (.cons h2 (.cons h3 (.cons h4 .nil))))) (.cons (.cons h0 (.cons h1 (.cons h2 (.cons h3 .nil)))) (.cons (.cons h0 (.cons h1 .nil)) (.cons (.cons h0 (.cons h1 .nil)) (.cons (.cons h0 .nil) (.cons (.cons h0 (.cons h1 .nil)) (.cons (.cons h0 (.cons h1 (.cons h2 (.cons h3 .nil)))) (.cons (.cons h0 (.cons h1 (.cons h2 (.cons h3 .nil)))) (.cons (.cons h0 (.cons h1 .nil)) (.cons (.cons h0 (.cons h1 (.cons h2 (.cons h3 .nil)))) (.cons (.cons h0 (.cons h1 .nil)) (.cons (.cons h0 (.cons h1 (.cons h2 .nil))) (.cons (.cons h0 (.cons h1 .nil)) (.cons (.cons h0 (.cons h1 (.cons h2 .nil))) (.cons (.cons h0 (.cons h1 (.cons h2 (.cons h3 .nil)))) (.cons (.cons h0 (.cons h1 .nil)) .nil)))))))))))))))))))))
theorem PdL.take {n : Nat} {ds : List D} {ps : List PyData} (h : PdL n ds ps) : ∀ m, PdL n (ds.take m) (ps.take m) := by
  induction h with
  | nil => intro m; simp only [List.take_nil]; exact .nil
  | cons a _ ih =>
    intro m
    cases m with
    | zero => exact .nil
    | succ m => exact .cons a (ih m)
theorem take_len {m : Nat} (hm : m ≤ 5) : ([x0, x1, x2, x3, x4].take m).length = m := by
  rw [List.length_take]
  exact Nat.min_eq_left hm
theorem cut5 {m : Nat} (hm : m ≤ 5) : cutD [x0, x1, x2, x3, x4] none (some (m : Int)) = [x0, x1, x2, x3, x4].take m := by
  match m, hm with
  | 0, _ => rfl
  | 1, _ => rfl
  | 2, _ => rfl
  | 3, _ => rfl
  | 4, _ => rfl
  | 5, _ => rfl
  | n + 6, h => exact absurd h (by omega)
theorem changed_ex (h0 : Pd 3 x0 p0) (h1 : Pd 3 x1 p1) (h2 : Pd 3 x2 p2) (h3 : Pd 3 x3 p3) (h4 : Pd 3 x4 p4) (c0 : PyData.eqv p0 CH = false) (c1 : PyData.eqv p1 CH = false) (c2 : PyData.eqv p2 CH = false) (c3 : PyData.eqv p3 CH = false) (c4 : PyData.eqv p4 CH = false) {m r : Nat} (hr : r < m) (hm : m ≤ 5) :
    ∃ y0 y1 y2 y3 y4 qs, [x0, x1, x2, x3, x4].set r chD = [y0, y1, y2, y3, y4] ∧ PdL 3 [y0, y1, y2, y3, y4] qs ∧ PyData.eqvAll ([p0, p1, p2, p3, p4].take m) (qs.take m) = false := by
  have r0 := h0.rf
  have r1 := h1.rf
  have r2 := h2.rf
  have r3 := h3.rf
  match r, hr with
  | 0, hr =>
    refine ⟨chD, x1, x2, x3, x4, [CH, p1, p2, p3, p4], rfl, .cons pd_ch (.cons h1 (.cons h2 (.cons h3 (.cons h4 .nil)))), ?_⟩
    obtain ⟨k, rfl⟩ : ∃ k, m = k + 1 := ⟨m - 1, by omega⟩
    simp [PyData.eqvAll, c0]
  | 1, hr =>
    refine ⟨x0, chD, x2, x3, x4, [p0, CH, p2, p3, p4], rfl, .cons h0 (.cons pd_ch (.cons h2 (.cons h3 (.cons h4 .nil)))), ?_⟩
    obtain ⟨k, rfl⟩ : ∃ k, m = k + 2 := ⟨m - 2, by omega⟩
    simp [PyData.eqvAll, c1]
  | 2, hr =>
    refine ⟨x0, x1, chD, x3, x4, [p0, p1, CH, p3, p4], rfl, .cons h0 (.cons h1 (.cons pd_ch (.cons h3 (.cons h4 .nil)))), ?_⟩
    obtain ⟨k, rfl⟩ : ∃ k, m = k + 3 := ⟨m - 3, by omega⟩
    simp [PyData.eqvAll, c2]
  | 3, hr =>
    refine ⟨x0, x1, x2, chD, x4, [p0, p1, p2, CH, p4], rfl, .cons h0 (.cons h1 (.cons h2 (.cons pd_ch (.cons h4 .nil)))), ?_⟩
    obtain ⟨k, rfl⟩ : ∃ k, m = k + 4 := ⟨m - 4, by omega⟩
    simp [PyData.eqvAll, c3]
  | 4, hr =>
    refine ⟨x0, x1, x2, x3, chD, [p0, p1, p2, p3, CH], rfl, .cons h0 (.cons h1 (.cons h2 (.cons h3 (.cons pd_ch .nil)))), ?_⟩
    obtain ⟨k, rfl⟩ : ∃ k, m = k + 5 := ⟨m - 5, by omega⟩
    simp [PyData.eqvAll, c4]
  | n + 5, hr => exact absurd hr (by omega)
theorem eq_bl {neg a b : Bool} : eqPD neg st (.bl a) (.bl b) = some (if neg then !(a == b) else (a == b)) := by
  rw [eq_of ((pd_bl a).rd st (by decide)) ((pd_bl b).rd st (by decide))]
  simp only [PyData.eqv]
theorem divSmall {m : Nat} (h1 : 1 ≤ m) (h5 : m ≤ 5) : divOk (m : Int) = true := by
  match m, h1, h5 with
  | 1, _, _ => decide
  | 2, _, _ => decide
  | 3, _, _ => decide
  | 4, _, _ => decide
  | 5, _, _ => decide
  | n + 6, _, h => exact absurd h (by omega)
theorem ws_setE {e : Vm.Env} {f g fv : EF} {QS : SR → Sto → Prop} {n : Nat} (h0 : Wx (fv e) st fun v st1 => Wx (f e) st1 fun o st2 => o = .ptr n ∧ Wx (g e) st2 fun j st3 => ∃ k m ds, j = .int k ∧ At st3 n ds ∧ ixN ds.length k = some m ∧ QS (.nx e) { st3 with l := st3.l.set n (ds.set m v) }) : Ws (sSet f g fv) e st QS := by
  obtain ⟨v, st1, e1, o, st2, e2, rfl, j, st3, e3, k, m, ds, rfl, a1, a2, q⟩ := h0
  exact ws_set (n := n) (m := m) (k := k) (ds := ds) ⟨v, st1, e1, _, st2, e2, rfl, _, st3, e3, rfl, a1, a2, q⟩
/-- == of two made things -/
theorem wx_made {neg : Bool} {c m : Nat} {F : FnF} {ds es : List D} {ps qs : List PyData} (hF : et (tab K) c = some F) (hE : EqS K c m F) (h1 : PdL 3 ds ps) (h2 : PdL 3 es qs) (l1 : ds.length = m) (l2 : es.length = m) (q : Q (.bl (if neg then !PyData.eqvAll ps qs else PyData.eqvAll ps qs)) st) : Wx (gEq (tab K) (et (tab K)) neg (.ins c ds) (.ins c es)) st Q :=
  wx_eqI hF (.inl rfl) (hE st _ ds es ps qs h1 h2 l1 l2 ⟨rfl, q⟩)
theorem wx_unmade {neg : Bool} {c c2 : Nat} {F : FnF} {ds es : List D} (hF : et (tab K) c = some F) (hN : NeS K c F) (hi : (tab K).isi (.ins c2) (.own c) = some false) (q : Q (.bl neg) st) : Wx (gEq (tab K) (et (tab K)) neg (.ins c ds) (.ins c2 es)) st Q :=
  wx_eqI (b := false) hF (.inr hi) (hN st _ c2 ds es hi ⟨rfl, by cases neg <;> exact q⟩)
theorem sp_results_right {pv : Nat} (hh : HandOk st) (hv : Af st pv [x0, x1, x2, x3, x4]) (v0 : Val x0) (v1 : Val x1) (v2 : Val x2) (v3 : Val x3) (v4 : Val x4) (q : ∀ st', Go st st' → Q (.bl true) st') : Wx (F_law_results_right (tab K) [.ptr 1, .ptr pv]) st Q := by
  obtain ⟨p0, h0, c0, _⟩ := v0.ex
  obtain ⟨p1, h1, c1, _⟩ := v1.ex
  obtain ⟨p2, h2, c2, _⟩ := v2.ex
  obtain ⟨p3, h3, c3, _⟩ := v3.ex
  obtain ⟨p4, h4, c4, _⟩ := v4.ex
  have hx : PdL 3 [x0, x1, x2, x3, x4] [p0, p1, p2, p3, p4] := .cons h0 (.cons h1 (.cons h2 (.cons h3 (.cons h4 .nil))))
  have hpd := pd_ths h0 h1 h2 h3 h4
  refine wx_fn (ws_seq ?_)
  repeat (first
    | with_reducible refine wx_op ?_ | with_reducible refine wx_cb ?_ | with_reducible refine wx_cons ?_ | with_reducible refine wx_nil ?_ | with_reducible refine wx_c ?_ | with_reducible refine wx_var rfl (fun z => nomatch z) ?_
    | with_reducible refine wx_addI ?_ | with_reducible refine wx_sub ?_ | with_reducible refine wx_int ?_ | with_reducible refine wx_mul (small_mul (by decide)) ?_ | with_reducible refine wx_mul (small_mul (by omega)) ?_
    | with_reducible refine wx_mod (by first | decide | assumption | omega) ?_ | with_reducible refine wx_div (by first | decide | assumption) ?_ | with_reducible refine wx_pow (by decide) ?_ | with_reducible refine wx_cmp ?_ | with_reducible refine wx_lt ?_ | with_reducible refine wx_gt ?_
     | with_reducible refine ws_asg ?_ | with_reducible refine ws_ret ?_ | with_reducible refine wx_fB ?_ | with_reducible refine wx_and ?_ | with_reducible refine wx_or ?_ | with_reducible refine wx_not ?_ | with_reducible refine ws_if ?_)
  refine wx_call rfl (sp_results hv hh fun pm s1 g1 am => ?_)
  refine then_nx (ws_seq ?_)
  repeat (first
    | with_reducible refine wx_op ?_ | with_reducible refine wx_cb ?_ | with_reducible refine wx_cons ?_ | with_reducible refine wx_nil ?_ | with_reducible refine wx_c ?_ | with_reducible refine wx_var rfl (fun z => nomatch z) ?_
    | with_reducible refine wx_addI ?_ | with_reducible refine wx_sub ?_ | with_reducible refine wx_int ?_ | with_reducible refine wx_mul (small_mul (by decide)) ?_ | with_reducible refine wx_mul (small_mul (by omega)) ?_
    | with_reducible refine wx_mod (by first | decide | assumption | omega) ?_ | with_reducible refine wx_div (by first | decide | assumption) ?_ | with_reducible refine wx_pow (by decide) ?_ | with_reducible refine wx_cmp ?_ | with_reducible refine wx_lt ?_ | with_reducible refine wx_gt ?_
     | with_reducible refine ws_asg ?_ | with_reducible refine ws_ret ?_ | with_reducible refine wx_fB ?_ | with_reducible refine wx_and ?_ | with_reducible refine wx_or ?_ | with_reducible refine wx_not ?_ | with_reducible refine ws_if ?_)
  refine wx_call rfl (sp_named_results (g1.af _ _ hv) (g1.hand hh) fun pn s2 g2 an => ?_)
  have am2 := g2.af _ _ am
  replace g2 := g1.trans g2
  refine then_nx (ws_seq ?_)
  repeat (first
    | with_reducible refine wx_op ?_ | with_reducible refine wx_cb ?_ | with_reducible refine wx_cons ?_ | with_reducible refine wx_nil ?_ | with_reducible refine wx_c ?_ | with_reducible refine wx_var rfl (fun z => nomatch z) ?_
    | with_reducible refine wx_addI ?_ | with_reducible refine wx_sub ?_ | with_reducible refine wx_int ?_ | with_reducible refine wx_mul (small_mul (by decide)) ?_ | with_reducible refine wx_mul (small_mul (by omega)) ?_
    | with_reducible refine wx_mod (by first | decide | assumption | omega) ?_ | with_reducible refine wx_div (by first | decide | assumption) ?_ | with_reducible refine wx_pow (by decide) ?_ | with_reducible refine wx_cmp ?_ | with_reducible refine wx_lt ?_ | with_reducible refine wx_gt ?_
     | with_reducible refine ws_asg ?_ | with_reducible refine ws_ret ?_ | with_reducible refine wx_fB ?_ | with_reducible refine wx_and ?_ | with_reducible refine wx_or ?_ | with_reducible refine wx_not ?_ | with_reducible refine ws_if ?_)
  refine wx_call rfl (sp_things am2 (g2.hand hh) fun pt s3 g3 at3 => ?_)
  have am3 := g3.af _ _ am2
  have an3 := g3.af _ _ an
  replace g3 := g2.trans g3
  refine then_nx (ws_seq ?_)
  repeat (first
    | with_reducible refine wx_op ?_ | with_reducible refine wx_cb ?_ | with_reducible refine wx_cons ?_ | with_reducible refine wx_nil ?_ | with_reducible refine wx_c ?_ | with_reducible refine wx_var rfl (fun z => nomatch z) ?_
    | with_reducible refine wx_addI ?_ | with_reducible refine wx_sub ?_ | with_reducible refine wx_int ?_ | with_reducible refine wx_mul (small_mul (by decide)) ?_ | with_reducible refine wx_mul (small_mul (by omega)) ?_
    | with_reducible refine wx_mod (by first | decide | assumption | omega) ?_ | with_reducible refine wx_div (by first | decide | assumption) ?_ | with_reducible refine wx_pow (by decide) ?_ | with_reducible refine wx_cmp ?_ | with_reducible refine wx_lt ?_ | with_reducible refine wx_gt ?_
     | with_reducible refine ws_asg ?_ | with_reducible refine ws_ret ?_ | with_reducible refine wx_fB ?_ | with_reducible refine wx_and ?_ | with_reducible refine wx_or ?_ | with_reducible refine wx_not ?_ | with_reducible refine ws_if ?_)
  refine wx_call rfl (sp_things an3 (g3.hand hh) fun pt2 s4 g4 at4 => ?_)
  have am4 := g4.af _ _ am3
  have an4 := g4.af _ _ an3
  have at4b := at3.go g4
  replace g4 := g3.trans g4
  repeat (first
    | with_reducible refine wx_op ?_ | with_reducible refine wx_cb ?_ | with_reducible refine wx_cons ?_ | with_reducible refine wx_nil ?_ | with_reducible refine wx_c ?_ | with_reducible refine wx_var rfl (fun z => nomatch z) ?_
    | with_reducible refine wx_addI ?_ | with_reducible refine wx_sub ?_ | with_reducible refine wx_int ?_ | with_reducible refine wx_mul (small_mul (by decide)) ?_ | with_reducible refine wx_mul (small_mul (by omega)) ?_
    | with_reducible refine wx_mod (by first | decide | assumption | omega) ?_ | with_reducible refine wx_div (by first | decide | assumption) ?_ | with_reducible refine wx_pow (by decide) ?_ | with_reducible refine wx_cmp ?_ | with_reducible refine wx_lt ?_ | with_reducible refine wx_gt ?_
     | with_reducible refine ws_asg ?_ | with_reducible refine ws_ret ?_ | with_reducible refine wx_fB ?_ | with_reducible refine wx_and ?_ | with_reducible refine wx_or ?_ | with_reducible refine wx_not ?_ | with_reducible refine ws_if ?_)
  refine wx_eq (fun _ _ z => nomatch z) (neqLL at4 at4b hpd) ⟨_, rfl, iteF ?_⟩
  refine ws_pass (then_nx (ws_seq (ws_for (wx_rng1 (j := 21) ?_))))
  repeat (first
    | with_reducible refine wx_op ?_ | with_reducible refine wx_cb ?_ | with_reducible refine wx_cons ?_ | with_reducible refine wx_nil ?_ | with_reducible refine wx_c ?_ | with_reducible refine wx_var rfl (fun z => nomatch z) ?_
    | with_reducible refine wx_addI ?_ | with_reducible refine wx_sub ?_ | with_reducible refine wx_int ?_ | with_reducible refine wx_mul (small_mul (by decide)) ?_ | with_reducible refine wx_mul (small_mul (by omega)) ?_
    | with_reducible refine wx_mod (by first | decide | assumption | omega) ?_ | with_reducible refine wx_div (by first | decide | assumption) ?_ | with_reducible refine wx_pow (by decide) ?_ | with_reducible refine wx_cmp ?_ | with_reducible refine wx_lt ?_ | with_reducible refine wx_gt ?_
     | with_reducible refine ws_asg ?_ | with_reducible refine ws_ret ?_ | with_reducible refine wx_fB ?_ | with_reducible refine wx_and ?_ | with_reducible refine wx_or ?_ | with_reducible refine wx_not ?_ | with_reducible refine ws_if ?_)
  refine ⟨rfl, by decide, ?_⟩
  refine ws_rng (n := 21) (fun k e s => ∃ c5 c6 c7 c8, e = [some (.ptr 1), some (.ptr pv), some (.ptr pm), some (.ptr pn), some (.ptr pt), c5, c6, c7, c8] ∧ Go st s ∧ Af s pm (resL x0 x1 x2 x3 x4) ∧ Af s pn (resL x0 x1 x2 x3 x4) ∧ LL s pt (thsL x0 x1 x2 x3 x4)) ?_ ?_ 21 0 _ _ rfl ⟨_, _, _, _, rfl, g4, am4, an4, at4b⟩
  · rintro k e s hk ⟨c5, c6, c7, c8, rfl, gs, am, an, at_⟩
    obtain ⟨c, m, hc, ⟨hm1, hm5⟩, ⟨hc1, hc2⟩, hat⟩ := res_at k hk
    obtain ⟨F, hF, hE, hN⟩ := eqs k c m hc
    have hhs := gs.hand hh
    have hvs := gs.af _ _ hv
    obtain ⟨hr, ht⟩ := hat x0 x1 x2 x3 x4
    obtain ⟨qs, aq, al⟩ := id at_
    obtain ⟨qk, hq1, hq2⟩ := al.get k _ ht
    have hqm : (qs.map D.ptr)[k]? = some (.ptr qk) := by
      rw [List.getElem?_map, hq1]
      rfl
    have hxm := PdL.take hx m
    have hlm := take_len (x0 := x0) (x1 := x1) (x2 := x2) (x3 := x3) (x4 := x4) hm5
    refine ws_seq (ws_if (wx_or (wx_fB (wx_op ?_))))
    repeat (first
    | with_reducible refine wx_op ?_ | with_reducible refine wx_cb ?_ | with_reducible refine wx_cons ?_ | with_reducible refine wx_nil ?_ | with_reducible refine wx_c ?_ | with_reducible refine wx_var rfl (fun z => nomatch z) ?_
    | with_reducible refine wx_addI ?_ | with_reducible refine wx_sub ?_ | with_reducible refine wx_int ?_ | with_reducible refine wx_mul (small_mul (by decide)) ?_ | with_reducible refine wx_mul (small_mul (by omega)) ?_
    | with_reducible refine wx_mod (by first | decide | assumption | omega) ?_ | with_reducible refine wx_div (by first | decide | assumption) ?_ | with_reducible refine wx_pow (by decide) ?_ | with_reducible refine wx_cmp ?_ | with_reducible refine wx_lt ?_ | with_reducible refine wx_gt ?_
     | with_reducible refine ws_asg ?_ | with_reducible refine ws_ret ?_ | with_reducible refine wx_fB ?_ | with_reducible refine wx_and ?_ | with_reducible refine wx_or ?_ | with_reducible refine wx_not ?_ | with_reducible refine ws_if ?_)
    refine wx_ixL aq.2 (atI_nat hqm) ?_
    refine wx_bind (wx_var rfl (fun z => nomatch z) (wx_bind (wx_ret (wx_bind (wx_bind ?_)))))
    repeat (first
    | with_reducible refine wx_op ?_ | with_reducible refine wx_cb ?_ | with_reducible refine wx_cons ?_ | with_reducible refine wx_nil ?_ | with_reducible refine wx_c ?_ | with_reducible refine wx_var rfl (fun z => nomatch z) ?_
    | with_reducible refine wx_addI ?_ | with_reducible refine wx_sub ?_ | with_reducible refine wx_int ?_ | with_reducible refine wx_mul (small_mul (by decide)) ?_ | with_reducible refine wx_mul (small_mul (by omega)) ?_
    | with_reducible refine wx_mod (by first | decide | assumption | omega) ?_ | with_reducible refine wx_div (by first | decide | assumption) ?_ | with_reducible refine wx_pow (by decide) ?_ | with_reducible refine wx_cmp ?_ | with_reducible refine wx_lt ?_ | with_reducible refine wx_gt ?_
     | with_reducible refine ws_asg ?_ | with_reducible refine ws_ret ?_ | with_reducible refine wx_fB ?_ | with_reducible refine wx_and ?_ | with_reducible refine wx_or ?_ | with_reducible refine wx_not ?_ | with_reducible refine ws_if ?_)
    refine wx_ixL aq.2 (atI_nat hqm) ?_
    repeat (first
    | with_reducible refine wx_op ?_ | with_reducible refine wx_cb ?_ | with_reducible refine wx_cons ?_ | with_reducible refine wx_nil ?_ | with_reducible refine wx_c ?_ | with_reducible refine wx_var rfl (fun z => nomatch z) ?_
    | with_reducible refine wx_addI ?_ | with_reducible refine wx_sub ?_ | with_reducible refine wx_int ?_ | with_reducible refine wx_mul (small_mul (by decide)) ?_ | with_reducible refine wx_mul (small_mul (by omega)) ?_
    | with_reducible refine wx_mod (by first | decide | assumption | omega) ?_ | with_reducible refine wx_div (by first | decide | assumption) ?_ | with_reducible refine wx_pow (by decide) ?_ | with_reducible refine wx_cmp ?_ | with_reducible refine wx_lt ?_ | with_reducible refine wx_gt ?_
     | with_reducible refine ws_asg ?_ | with_reducible refine ws_ret ?_ | with_reducible refine wx_fB ?_ | with_reducible refine wx_and ?_ | with_reducible refine wx_or ?_ | with_reducible refine wx_not ?_ | with_reducible refine ws_if ?_)
    refine wx_lenL hq2.2 (wx_ret ?_)
    have hsl : gSl (.ptr pv) none (some ((([x0, x1, x2, x3, x4].take m).length : Nat) : Int)) s = some (.ok (.ptr s.l.length), push s ([x0, x1, x2, x3, x4].take m)) := by
      have h' : s.l[pv]? = some [x0, x1, x2, x3, x4] := hvs.2
      unfold gSl
      dsimp only
      rw [h']
      dsimp only
      rw [hlm, cut5 hm5]
      rfl
    refine ⟨_, _, hsl, ?_⟩
    have g5 := Go.push s ([x0, x1, x2, x3, x4].take m)
    have a5 := Af.new hhs ([x0, x1, x2, x3, x4].take m)
    have q5 := g5.af _ _ hq2
    have am5 := g5.af _ _ am
    have an5 := g5.af _ _ an
    have at5 := at_.go g5
    have aq5 := g5.af _ _ aq
    replace g5 := gs.trans g5
    generalize push s ([x0, x1, x2, x3, x4].take m) = s5 at g5 a5 q5 am5 an5 at5 aq5
    refine wx_eq (fun _ _ z => nomatch z) (neqA q5 a5 hxm) ⟨_, rfl, iteF ?_⟩
    repeat (first
    | with_reducible refine wx_op ?_ | with_reducible refine wx_cb ?_ | with_reducible refine wx_cons ?_ | with_reducible refine wx_nil ?_ | with_reducible refine wx_c ?_ | with_reducible refine wx_var rfl (fun z => nomatch z) ?_
    | with_reducible refine wx_addI ?_ | with_reducible refine wx_sub ?_ | with_reducible refine wx_int ?_ | with_reducible refine wx_mul (small_mul (by decide)) ?_ | with_reducible refine wx_mul (small_mul (by omega)) ?_
    | with_reducible refine wx_mod (by first | decide | assumption | omega) ?_ | with_reducible refine wx_div (by first | decide | assumption) ?_ | with_reducible refine wx_pow (by decide) ?_ | with_reducible refine wx_cmp ?_ | with_reducible refine wx_lt ?_ | with_reducible refine wx_gt ?_
     | with_reducible refine ws_asg ?_ | with_reducible refine ws_ret ?_ | with_reducible refine wx_fB ?_ | with_reducible refine wx_and ?_ | with_reducible refine wx_or ?_ | with_reducible refine wx_not ?_ | with_reducible refine ws_if ?_)
    refine wx_ixL am5.2 (atI_nat hr) ?_
    repeat (first
    | with_reducible refine wx_op ?_ | with_reducible refine wx_cb ?_ | with_reducible refine wx_cons ?_ | with_reducible refine wx_nil ?_ | with_reducible refine wx_c ?_ | with_reducible refine wx_var rfl (fun z => nomatch z) ?_
    | with_reducible refine wx_addI ?_ | with_reducible refine wx_sub ?_ | with_reducible refine wx_int ?_ | with_reducible refine wx_mul (small_mul (by decide)) ?_ | with_reducible refine wx_mul (small_mul (by omega)) ?_
    | with_reducible refine wx_mod (by first | decide | assumption | omega) ?_ | with_reducible refine wx_div (by first | decide | assumption) ?_ | with_reducible refine wx_pow (by decide) ?_ | with_reducible refine wx_cmp ?_ | with_reducible refine wx_lt ?_ | with_reducible refine wx_gt ?_
     | with_reducible refine ws_asg ?_ | with_reducible refine ws_ret ?_ | with_reducible refine wx_fB ?_ | with_reducible refine wx_and ?_ | with_reducible refine wx_or ?_ | with_reducible refine wx_not ?_ | with_reducible refine ws_if ?_)
    refine wx_ixL an5.2 (atI_nat hr) ?_
    refine wx_made hF hE hxm hxm hlm hlm ⟨true, by rw [hxm.rf]; rfl, iteF ?_⟩
    repeat (first
    | with_reducible refine wx_op ?_ | with_reducible refine wx_cb ?_ | with_reducible refine wx_cons ?_ | with_reducible refine wx_nil ?_ | with_reducible refine wx_c ?_ | with_reducible refine wx_var rfl (fun z => nomatch z) ?_
    | with_reducible refine wx_addI ?_ | with_reducible refine wx_sub ?_ | with_reducible refine wx_int ?_ | with_reducible refine wx_mul (small_mul (by decide)) ?_ | with_reducible refine wx_mul (small_mul (by omega)) ?_
    | with_reducible refine wx_mod (by first | decide | assumption | omega) ?_ | with_reducible refine wx_div (by first | decide | assumption) ?_ | with_reducible refine wx_pow (by decide) ?_ | with_reducible refine wx_cmp ?_ | with_reducible refine wx_lt ?_ | with_reducible refine wx_gt ?_
     | with_reducible refine ws_asg ?_ | with_reducible refine ws_ret ?_ | with_reducible refine wx_fB ?_ | with_reducible refine wx_and ?_ | with_reducible refine wx_or ?_ | with_reducible refine wx_not ?_ | with_reducible refine ws_if ?_)
    refine wx_ixL am5.2 (atI_nat hr) ?_
    repeat (first
    | with_reducible refine wx_op ?_ | with_reducible refine wx_cb ?_ | with_reducible refine wx_cons ?_ | with_reducible refine wx_nil ?_ | with_reducible refine wx_c ?_ | with_reducible refine wx_var rfl (fun z => nomatch z) ?_
    | with_reducible refine wx_addI ?_ | with_reducible refine wx_sub ?_ | with_reducible refine wx_int ?_ | with_reducible refine wx_mul (small_mul (by decide)) ?_ | with_reducible refine wx_mul (small_mul (by omega)) ?_
    | with_reducible refine wx_mod (by first | decide | assumption | omega) ?_ | with_reducible refine wx_div (by first | decide | assumption) ?_ | with_reducible refine wx_pow (by decide) ?_ | with_reducible refine wx_cmp ?_ | with_reducible refine wx_lt ?_ | with_reducible refine wx_gt ?_
     | with_reducible refine ws_asg ?_ | with_reducible refine ws_ret ?_ | with_reducible refine wx_fB ?_ | with_reducible refine wx_and ?_ | with_reducible refine wx_or ?_ | with_reducible refine wx_not ?_ | with_reducible refine ws_if ?_)
    refine wx_ixL an5.2 (atI_nat hr) ?_
    refine wx_made hF hE hxm hxm hlm hlm ⟨false, by rw [hxm.rf]; rfl, iteF ?_⟩
    refine ws_pass (then_nx (ws_seq (ws_asg (wx_cb (wx_cons ?_)))))
    repeat (first
    | with_reducible refine wx_op ?_ | with_reducible refine wx_cb ?_ | with_reducible refine wx_cons ?_ | with_reducible refine wx_nil ?_ | with_reducible refine wx_c ?_ | with_reducible refine wx_var rfl (fun z => nomatch z) ?_
    | with_reducible refine wx_addI ?_ | with_reducible refine wx_sub ?_ | with_reducible refine wx_int ?_ | with_reducible refine wx_mul (small_mul (by decide)) ?_ | with_reducible refine wx_mul (small_mul (by omega)) ?_
    | with_reducible refine wx_mod (by first | decide | assumption | omega) ?_ | with_reducible refine wx_div (by first | decide | assumption) ?_ | with_reducible refine wx_pow (by decide) ?_ | with_reducible refine wx_cmp ?_ | with_reducible refine wx_lt ?_ | with_reducible refine wx_gt ?_
     | with_reducible refine ws_asg ?_ | with_reducible refine ws_ret ?_ | with_reducible refine wx_fB ?_ | with_reducible refine wx_and ?_ | with_reducible refine wx_or ?_ | with_reducible refine wx_not ?_ | with_reducible refine ws_if ?_)
    have hv5 := g5.af _ _ hv
    have hh5 := g5.hand hh
    refine wx_listL hv5.2 ?_
    have g6 := Go.push s5 [x0, x1, x2, x3, x4]
    have a6 := Af.new hh5 [x0, x1, x2, x3, x4]
    have q6 := g6.af _ _ q5
    have aq6 := g6.af _ _ aq5
    have hh6 := g6.hand hh5
    refine then_nx (ws_seq (ws_setE (n := s5.l.length) (wx_tup ?_)))
    repeat (first
    | with_reducible refine wx_op ?_ | with_reducible refine wx_cb ?_ | with_reducible refine wx_cons ?_ | with_reducible refine wx_nil ?_ | with_reducible refine wx_c ?_ | with_reducible refine wx_var rfl (fun z => nomatch z) ?_
    | with_reducible refine wx_addI ?_ | with_reducible refine wx_sub ?_ | with_reducible refine wx_int ?_ | with_reducible refine wx_mul (small_mul (by decide)) ?_ | with_reducible refine wx_mul (small_mul (by omega)) ?_
    | with_reducible refine wx_mod (by first | decide | assumption | omega) ?_ | with_reducible refine wx_div (by first | decide | assumption) ?_ | with_reducible refine wx_pow (by decide) ?_ | with_reducible refine wx_cmp ?_ | with_reducible refine wx_lt ?_ | with_reducible refine wx_gt ?_
     | with_reducible refine ws_asg ?_ | with_reducible refine ws_ret ?_ | with_reducible refine wx_fB ?_ | with_reducible refine wx_and ?_ | with_reducible refine wx_or ?_ | with_reducible refine wx_not ?_ | with_reducible refine ws_if ?_)
    refine ⟨Nat.le_of_ble_eq_true rfl, ?_⟩
    repeat (first
    | with_reducible refine wx_op ?_ | with_reducible refine wx_cb ?_ | with_reducible refine wx_cons ?_ | with_reducible refine wx_nil ?_ | with_reducible refine wx_c ?_ | with_reducible refine wx_var rfl (fun z => nomatch z) ?_
    | with_reducible refine wx_addI ?_ | with_reducible refine wx_sub ?_ | with_reducible refine wx_int ?_ | with_reducible refine wx_mul (small_mul (by decide)) ?_ | with_reducible refine wx_mul (small_mul (by omega)) ?_
    | with_reducible refine wx_mod (by first | decide | assumption | omega) ?_ | with_reducible refine wx_div (by first | decide | assumption) ?_ | with_reducible refine wx_pow (by decide) ?_ | with_reducible refine wx_cmp ?_ | with_reducible refine wx_lt ?_ | with_reducible refine wx_gt ?_
     | with_reducible refine ws_asg ?_ | with_reducible refine ws_ret ?_ | with_reducible refine wx_fB ?_ | with_reducible refine wx_and ?_ | with_reducible refine wx_or ?_ | with_reducible refine wx_not ?_ | with_reducible refine ws_if ?_)
    refine ⟨rfl, ?_⟩
    repeat (first
    | with_reducible refine wx_op ?_ | with_reducible refine wx_cb ?_ | with_reducible refine wx_cons ?_ | with_reducible refine wx_nil ?_ | with_reducible refine wx_c ?_ | with_reducible refine wx_var rfl (fun z => nomatch z) ?_
    | with_reducible refine wx_addI ?_ | with_reducible refine wx_sub ?_ | with_reducible refine wx_int ?_ | with_reducible refine wx_mul (small_mul (by decide)) ?_ | with_reducible refine wx_mul (small_mul (by omega)) ?_
    | with_reducible refine wx_mod (by first | decide | assumption | omega) ?_ | with_reducible refine wx_div (by first | decide | assumption) ?_ | with_reducible refine wx_pow (by decide) ?_ | with_reducible refine wx_cmp ?_ | with_reducible refine wx_lt ?_ | with_reducible refine wx_gt ?_
     | with_reducible refine ws_asg ?_ | with_reducible refine ws_ret ?_ | with_reducible refine wx_fB ?_ | with_reducible refine wx_and ?_ | with_reducible refine wx_or ?_ | with_reducible refine wx_not ?_ | with_reducible refine ws_if ?_)
    refine wx_ixL aq6.2 (atI_nat hqm) ?_
    repeat (first
    | with_reducible refine wx_op ?_ | with_reducible refine wx_cb ?_ | with_reducible refine wx_cons ?_ | with_reducible refine wx_nil ?_ | with_reducible refine wx_c ?_ | with_reducible refine wx_var rfl (fun z => nomatch z) ?_
    | with_reducible refine wx_addI ?_ | with_reducible refine wx_sub ?_ | with_reducible refine wx_int ?_ | with_reducible refine wx_mul (small_mul (by decide)) ?_ | with_reducible refine wx_mul (small_mul (by omega)) ?_
    | with_reducible refine wx_mod (by first | decide | assumption | omega) ?_ | with_reducible refine wx_div (by first | decide | assumption) ?_ | with_reducible refine wx_pow (by decide) ?_ | with_reducible refine wx_cmp ?_ | with_reducible refine wx_lt ?_ | with_reducible refine wx_gt ?_
     | with_reducible refine ws_asg ?_ | with_reducible refine ws_ret ?_ | with_reducible refine wx_fB ?_ | with_reducible refine wx_and ?_ | with_reducible refine wx_or ?_ | with_reducible refine wx_not ?_ | with_reducible refine ws_if ?_)
    refine wx_lenL q6.2 ?_
    repeat (first
    | with_reducible refine wx_op ?_ | with_reducible refine wx_cb ?_ | with_reducible refine wx_cons ?_ | with_reducible refine wx_nil ?_ | with_reducible refine wx_c ?_ | with_reducible refine wx_var rfl (fun z => nomatch z) ?_
    | with_reducible refine wx_addI ?_ | with_reducible refine wx_sub ?_ | with_reducible refine wx_int ?_ | with_reducible refine wx_mul (small_mul (by decide)) ?_ | with_reducible refine wx_mul (small_mul (by omega)) ?_
    | with_reducible refine wx_mod (by first | decide | assumption | omega) ?_ | with_reducible refine wx_div (by first | decide | assumption) ?_ | with_reducible refine wx_pow (by decide) ?_ | with_reducible refine wx_cmp ?_ | with_reducible refine wx_lt ?_ | with_reducible refine wx_gt ?_
     | with_reducible refine ws_asg ?_ | with_reducible refine ws_ret ?_ | with_reducible refine wx_fB ?_ | with_reducible refine wx_and ?_ | with_reducible refine wx_or ?_ | with_reducible refine wx_not ?_ | with_reducible refine ws_if ?_)
    rw [hlm]
    refine wx_call rfl (sp_draw (by omega) (divSmall hm1 hm5) hh6 fun r s7 r0 r1 g7 => ?_)
    have hrm : r.toNat < m := by omega
    have hix : ixN [x0, x1, x2, x3, x4].length r = some r.toNat := by
      unfold ixN
      rw [if_pos r0, if_pos (by simp only [List.length_cons, List.length_nil]; omega)]
    refine ⟨r, r.toNat, [x0, x1, x2, x3, x4], rfl, (g7.af _ _ a6).2, hix, ?_⟩
    obtain ⟨y0, y1, y2, y3, y4, qs2, hset, hy, hne⟩ := changed_ex h0 h1 h2 h3 h4 c0 c1 c2 c3 c4 hrm hm5
    have hset2 : [x0, x1, x2, x3, x4].set r.toNat (D.tup [.str "changed", .int 0]) = [y0, y1, y2, y3, y4] := hset
    rw [hset2]
    have g8 : Go s5 { s7 with l := s7.l.set s5.l.length [y0, y1, y2, y3, y4] } := app_go (g6.trans g7) hh5 (Nat.le_refl _)
    have a8 : Af { s7 with l := s7.l.set s5.l.length [y0, y1, y2, y3, y4] } s5.l.length [y0, y1, y2, y3, y4] := app_af (g7.af _ _ a6)
    generalize ({ s7 with l := s7.l.set s5.l.length [y0, y1, y2, y3, y4] } : Sto) = s8 at g8 a8
    have am8 := g8.af _ _ am5
    have an8 := g8.af _ _ an5
    have at8 := at5.go g8
    replace g8 := g5.trans g8
    have hh8 := g8.hand hh
    obtain ⟨hru, _⟩ := hat y0 y1 y2 y3 y4
    have hym := PdL.take hy m
    have hlm2 := take_len (x0 := y0) (x1 := y1) (x2 := y2) (x3 := y3) (x4 := y4) hm5
    refine then_nx (ws_seq (ws_asg (wx_op (wx_cb (wx_cons ?_)))))
    repeat (first
    | with_reducible refine wx_op ?_ | with_reducible refine wx_cb ?_ | with_reducible refine wx_cons ?_ | with_reducible refine wx_nil ?_ | with_reducible refine wx_c ?_ | with_reducible refine wx_var rfl (fun z => nomatch z) ?_
    | with_reducible refine wx_addI ?_ | with_reducible refine wx_sub ?_ | with_reducible refine wx_int ?_ | with_reducible refine wx_mul (small_mul (by decide)) ?_ | with_reducible refine wx_mul (small_mul (by omega)) ?_
    | with_reducible refine wx_mod (by first | decide | assumption | omega) ?_ | with_reducible refine wx_div (by first | decide | assumption) ?_ | with_reducible refine wx_pow (by decide) ?_ | with_reducible refine wx_cmp ?_ | with_reducible refine wx_lt ?_ | with_reducible refine wx_gt ?_
     | with_reducible refine ws_asg ?_ | with_reducible refine ws_ret ?_ | with_reducible refine wx_fB ?_ | with_reducible refine wx_and ?_ | with_reducible refine wx_or ?_ | with_reducible refine wx_not ?_ | with_reducible refine ws_if ?_)
    refine wx_call rfl (sp_results a8 hh8 fun pu s9 g9 au => ?_)
    have am9 := g9.af _ _ am8
    have an9 := g9.af _ _ an8
    have at9 := at8.go g9
    replace g9 := g8.trans g9
    repeat (first
    | with_reducible refine wx_op ?_ | with_reducible refine wx_cb ?_ | with_reducible refine wx_cons ?_ | with_reducible refine wx_nil ?_ | with_reducible refine wx_c ?_ | with_reducible refine wx_var rfl (fun z => nomatch z) ?_
    | with_reducible refine wx_addI ?_ | with_reducible refine wx_sub ?_ | with_reducible refine wx_int ?_ | with_reducible refine wx_mul (small_mul (by decide)) ?_ | with_reducible refine wx_mul (small_mul (by omega)) ?_
    | with_reducible refine wx_mod (by first | decide | assumption | omega) ?_ | with_reducible refine wx_div (by first | decide | assumption) ?_ | with_reducible refine wx_pow (by decide) ?_ | with_reducible refine wx_cmp ?_ | with_reducible refine wx_lt ?_ | with_reducible refine wx_gt ?_
     | with_reducible refine ws_asg ?_ | with_reducible refine ws_ret ?_ | with_reducible refine wx_fB ?_ | with_reducible refine wx_and ?_ | with_reducible refine wx_or ?_ | with_reducible refine wx_not ?_ | with_reducible refine ws_if ?_)
    refine wx_ixL au.2 (atI_nat hru) ?_
    refine then_nx (ws_seq (ws_if (wx_or (wx_fB (wx_op ?_)))))
    repeat (first
    | with_reducible refine wx_op ?_ | with_reducible refine wx_cb ?_ | with_reducible refine wx_cons ?_ | with_reducible refine wx_nil ?_ | with_reducible refine wx_c ?_ | with_reducible refine wx_var rfl (fun z => nomatch z) ?_
    | with_reducible refine wx_addI ?_ | with_reducible refine wx_sub ?_ | with_reducible refine wx_int ?_ | with_reducible refine wx_mul (small_mul (by decide)) ?_ | with_reducible refine wx_mul (small_mul (by omega)) ?_
    | with_reducible refine wx_mod (by first | decide | assumption | omega) ?_ | with_reducible refine wx_div (by first | decide | assumption) ?_ | with_reducible refine wx_pow (by decide) ?_ | with_reducible refine wx_cmp ?_ | with_reducible refine wx_lt ?_ | with_reducible refine wx_gt ?_
     | with_reducible refine ws_asg ?_ | with_reducible refine ws_ret ?_ | with_reducible refine wx_fB ?_ | with_reducible refine wx_and ?_ | with_reducible refine wx_or ?_ | with_reducible refine wx_not ?_ | with_reducible refine ws_if ?_)
    refine wx_ixL am9.2 (atI_nat hr) ?_
    repeat (first
    | with_reducible refine wx_op ?_ | with_reducible refine wx_cb ?_ | with_reducible refine wx_cons ?_ | with_reducible refine wx_nil ?_ | with_reducible refine wx_c ?_ | with_reducible refine wx_var rfl (fun z => nomatch z) ?_
    | with_reducible refine wx_addI ?_ | with_reducible refine wx_sub ?_ | with_reducible refine wx_int ?_ | with_reducible refine wx_mul (small_mul (by decide)) ?_ | with_reducible refine wx_mul (small_mul (by omega)) ?_
    | with_reducible refine wx_mod (by first | decide | assumption | omega) ?_ | with_reducible refine wx_div (by first | decide | assumption) ?_ | with_reducible refine wx_pow (by decide) ?_ | with_reducible refine wx_cmp ?_ | with_reducible refine wx_lt ?_ | with_reducible refine wx_gt ?_
     | with_reducible refine ws_asg ?_ | with_reducible refine ws_ret ?_ | with_reducible refine wx_fB ?_ | with_reducible refine wx_and ?_ | with_reducible refine wx_or ?_ | with_reducible refine wx_not ?_ | with_reducible refine ws_if ?_)
    refine wx_made hF hE hxm hym hlm hlm2 ⟨false, by rw [hne]; rfl, iteF ?_⟩
    refine wx_not (wx_fB (wx_op ?_))
    repeat (first
    | with_reducible refine wx_op ?_ | with_reducible refine wx_cb ?_ | with_reducible refine wx_cons ?_ | with_reducible refine wx_nil ?_ | with_reducible refine wx_c ?_ | with_reducible refine wx_var rfl (fun z => nomatch z) ?_
    | with_reducible refine wx_addI ?_ | with_reducible refine wx_sub ?_ | with_reducible refine wx_int ?_ | with_reducible refine wx_mul (small_mul (by decide)) ?_ | with_reducible refine wx_mul (small_mul (by omega)) ?_
    | with_reducible refine wx_mod (by first | decide | assumption | omega) ?_ | with_reducible refine wx_div (by first | decide | assumption) ?_ | with_reducible refine wx_pow (by decide) ?_ | with_reducible refine wx_cmp ?_ | with_reducible refine wx_lt ?_ | with_reducible refine wx_gt ?_
     | with_reducible refine ws_asg ?_ | with_reducible refine ws_ret ?_ | with_reducible refine wx_fB ?_ | with_reducible refine wx_and ?_ | with_reducible refine wx_or ?_ | with_reducible refine wx_not ?_ | with_reducible refine ws_if ?_)
    refine wx_ixL am9.2 (atI_nat hr) ?_
    repeat (first
    | with_reducible refine wx_op ?_ | with_reducible refine wx_cb ?_ | with_reducible refine wx_cons ?_ | with_reducible refine wx_nil ?_ | with_reducible refine wx_c ?_ | with_reducible refine wx_var rfl (fun z => nomatch z) ?_
    | with_reducible refine wx_addI ?_ | with_reducible refine wx_sub ?_ | with_reducible refine wx_int ?_ | with_reducible refine wx_mul (small_mul (by decide)) ?_ | with_reducible refine wx_mul (small_mul (by omega)) ?_
    | with_reducible refine wx_mod (by first | decide | assumption | omega) ?_ | with_reducible refine wx_div (by first | decide | assumption) ?_ | with_reducible refine wx_pow (by decide) ?_ | with_reducible refine wx_cmp ?_ | with_reducible refine wx_lt ?_ | with_reducible refine wx_gt ?_
     | with_reducible refine ws_asg ?_ | with_reducible refine ws_ret ?_ | with_reducible refine wx_fB ?_ | with_reducible refine wx_and ?_ | with_reducible refine wx_or ?_ | with_reducible refine wx_not ?_ | with_reducible refine ws_if ?_)
    refine wx_made hF hE hxm hym hlm hlm2 ⟨true, by rw [hne]; rfl, iteF ?_⟩
    refine ws_pass (then_nx (ws_for (wx_rng1 (j := 21) ?_)))
    repeat (first
    | with_reducible refine wx_op ?_ | with_reducible refine wx_cb ?_ | with_reducible refine wx_cons ?_ | with_reducible refine wx_nil ?_ | with_reducible refine wx_c ?_ | with_reducible refine wx_var rfl (fun z => nomatch z) ?_
    | with_reducible refine wx_addI ?_ | with_reducible refine wx_sub ?_ | with_reducible refine wx_int ?_ | with_reducible refine wx_mul (small_mul (by decide)) ?_ | with_reducible refine wx_mul (small_mul (by omega)) ?_
    | with_reducible refine wx_mod (by first | decide | assumption | omega) ?_ | with_reducible refine wx_div (by first | decide | assumption) ?_ | with_reducible refine wx_pow (by decide) ?_ | with_reducible refine wx_cmp ?_ | with_reducible refine wx_lt ?_ | with_reducible refine wx_gt ?_
     | with_reducible refine ws_asg ?_ | with_reducible refine ws_ret ?_ | with_reducible refine wx_fB ?_ | with_reducible refine wx_and ?_ | with_reducible refine wx_or ?_ | with_reducible refine wx_not ?_ | with_reducible refine ws_if ?_)
    refine ⟨rfl, by decide, ?_⟩
    refine ws_rng (n := 21) (fun j e s => ∃ c8, e = [some (.ptr 1), some (.ptr pv), some (.ptr pm), some (.ptr pn), some (.ptr pt), some (.int (k : Nat)), some (.ptr s5.l.length), some (.ins c ([y0, y1, y2, y3, y4].take m)), c8] ∧ Go st s ∧ Af s pm (resL x0 x1 x2 x3 x4) ∧ Af s pn (resL x0 x1 x2 x3 x4) ∧ LL s pt (thsL x0 x1 x2 x3 x4)) ?_ ?_ 21 0 _ _ rfl ⟨_, rfl, g9, am9, an9, at9⟩
    · rintro j e s hj ⟨c8, rfl, gs, am, an, at_⟩
      obtain ⟨cj, mj, hcj, ⟨hmj1, hmj5⟩, ⟨hcj1, hcj2⟩, hatj⟩ := res_at j hj
      obtain ⟨hrj, _⟩ := hatj x0 x1 x2 x3 x4
      have hcmp : ∀ (neg : Bool) (st : Sto) (Q : D → Sto → Prop), Q (.bl (if neg then !(k == j) else (k == j))) st → Wx (gEq (tab K) (et (tab K)) neg (.ins c ([x0, x1, x2, x3, x4].take m)) (.ins cj ([x0, x1, x2, x3, x4].take mj))) st Q := by
        intro neg st Q q
        by_cases hkj : k = j
        · subst hkj
          rw [hc] at hcj
          cases hcj
          refine wx_made hF hE hxm hxm hlm hlm ?_
          rw [hxm.rf]
          have e : (k == k) = true := by simp
          rw [e] at q
          exact q
        · have hcc : cj ≠ c := fun z => hkj (res_ne hc (by rw [← z]; exact hcj))
          refine wx_unmade hF hN ?_ ?_
          · show isiT (.ins cj) (.own c) = some false
            unfold isiT
            dsimp only
            rw [if_pos ⟨⟨hcj1, hcj2⟩, hc1, hc2⟩]
            rw [show (cj == c) = false by simpa using hcc]
          · have e : (k == j) = false := by simpa using hkj
            rw [e] at q
            cases neg <;> exact q
      have e1 : (((k : Nat) : Int) == ((j : Nat) : Int)) = (k == j) := by
        rw [Bool.eq_iff_iff]
        simp only [beq_iff_eq]
        omega
      refine ws_if (wx_or (wx_fB (wx_op (wx_op ?_))))
      repeat (first
    | with_reducible refine wx_op ?_ | with_reducible refine wx_cb ?_ | with_reducible refine wx_cons ?_ | with_reducible refine wx_nil ?_ | with_reducible refine wx_c ?_ | with_reducible refine wx_var rfl (fun z => nomatch z) ?_
    | with_reducible refine wx_addI ?_ | with_reducible refine wx_sub ?_ | with_reducible refine wx_int ?_ | with_reducible refine wx_mul (small_mul (by decide)) ?_ | with_reducible refine wx_mul (small_mul (by omega)) ?_
    | with_reducible refine wx_mod (by first | decide | assumption | omega) ?_ | with_reducible refine wx_div (by first | decide | assumption) ?_ | with_reducible refine wx_pow (by decide) ?_ | with_reducible refine wx_cmp ?_ | with_reducible refine wx_lt ?_ | with_reducible refine wx_gt ?_
     | with_reducible refine ws_asg ?_ | with_reducible refine ws_ret ?_ | with_reducible refine wx_fB ?_ | with_reducible refine wx_and ?_ | with_reducible refine wx_or ?_ | with_reducible refine wx_not ?_ | with_reducible refine ws_if ?_)
      refine wx_ixL am.2 (atI_nat hr) ?_
      repeat (first
    | with_reducible refine wx_op ?_ | with_reducible refine wx_cb ?_ | with_reducible refine wx_cons ?_ | with_reducible refine wx_nil ?_ | with_reducible refine wx_c ?_ | with_reducible refine wx_var rfl (fun z => nomatch z) ?_
    | with_reducible refine wx_addI ?_ | with_reducible refine wx_sub ?_ | with_reducible refine wx_int ?_ | with_reducible refine wx_mul (small_mul (by decide)) ?_ | with_reducible refine wx_mul (small_mul (by omega)) ?_
    | with_reducible refine wx_mod (by first | decide | assumption | omega) ?_ | with_reducible refine wx_div (by first | decide | assumption) ?_ | with_reducible refine wx_pow (by decide) ?_ | with_reducible refine wx_cmp ?_ | with_reducible refine wx_lt ?_ | with_reducible refine wx_gt ?_
     | with_reducible refine ws_asg ?_ | with_reducible refine ws_ret ?_ | with_reducible refine wx_fB ?_ | with_reducible refine wx_and ?_ | with_reducible refine wx_or ?_ | with_reducible refine wx_not ?_ | with_reducible refine ws_if ?_)
      refine wx_ixL am.2 (atI_nat hrj) (hcmp false _ _ ?_)
      repeat (first
    | with_reducible refine wx_op ?_ | with_reducible refine wx_cb ?_ | with_reducible refine wx_cons ?_ | with_reducible refine wx_nil ?_ | with_reducible refine wx_c ?_ | with_reducible refine wx_var rfl (fun z => nomatch z) ?_
    | with_reducible refine wx_addI ?_ | with_reducible refine wx_sub ?_ | with_reducible refine wx_int ?_ | with_reducible refine wx_mul (small_mul (by decide)) ?_ | with_reducible refine wx_mul (small_mul (by omega)) ?_
    | with_reducible refine wx_mod (by first | decide | assumption | omega) ?_ | with_reducible refine wx_div (by first | decide | assumption) ?_ | with_reducible refine wx_pow (by decide) ?_ | with_reducible refine wx_cmp ?_ | with_reducible refine wx_lt ?_ | with_reducible refine wx_gt ?_
     | with_reducible refine ws_asg ?_ | with_reducible refine ws_ret ?_ | with_reducible refine wx_fB ?_ | with_reducible refine wx_and ?_ | with_reducible refine wx_or ?_ | with_reducible refine wx_not ?_ | with_reducible refine ws_if ?_)
      refine wx_eq (fun _ _ z => nomatch z) eq_intF ?_
      rw [e1]
      refine wx_eq (fun _ _ z => nomatch z) eq_bl ⟨false, by simp, iteF ?_⟩
      refine wx_fB (wx_op (wx_op ?_))
      repeat (first
    | with_reducible refine wx_op ?_ | with_reducible refine wx_cb ?_ | with_reducible refine wx_cons ?_ | with_reducible refine wx_nil ?_ | with_reducible refine wx_c ?_ | with_reducible refine wx_var rfl (fun z => nomatch z) ?_
    | with_reducible refine wx_addI ?_ | with_reducible refine wx_sub ?_ | with_reducible refine wx_int ?_ | with_reducible refine wx_mul (small_mul (by decide)) ?_ | with_reducible refine wx_mul (small_mul (by omega)) ?_
    | with_reducible refine wx_mod (by first | decide | assumption | omega) ?_ | with_reducible refine wx_div (by first | decide | assumption) ?_ | with_reducible refine wx_pow (by decide) ?_ | with_reducible refine wx_cmp ?_ | with_reducible refine wx_lt ?_ | with_reducible refine wx_gt ?_
     | with_reducible refine ws_asg ?_ | with_reducible refine ws_ret ?_ | with_reducible refine wx_fB ?_ | with_reducible refine wx_and ?_ | with_reducible refine wx_or ?_ | with_reducible refine wx_not ?_ | with_reducible refine ws_if ?_)
      refine wx_ixL am.2 (atI_nat hr) ?_
      repeat (first
    | with_reducible refine wx_op ?_ | with_reducible refine wx_cb ?_ | with_reducible refine wx_cons ?_ | with_reducible refine wx_nil ?_ | with_reducible refine wx_c ?_ | with_reducible refine wx_var rfl (fun z => nomatch z) ?_
    | with_reducible refine wx_addI ?_ | with_reducible refine wx_sub ?_ | with_reducible refine wx_int ?_ | with_reducible refine wx_mul (small_mul (by decide)) ?_ | with_reducible refine wx_mul (small_mul (by omega)) ?_
    | with_reducible refine wx_mod (by first | decide | assumption | omega) ?_ | with_reducible refine wx_div (by first | decide | assumption) ?_ | with_reducible refine wx_pow (by decide) ?_ | with_reducible refine wx_cmp ?_ | with_reducible refine wx_lt ?_ | with_reducible refine wx_gt ?_
     | with_reducible refine ws_asg ?_ | with_reducible refine ws_ret ?_ | with_reducible refine wx_fB ?_ | with_reducible refine wx_and ?_ | with_reducible refine wx_or ?_ | with_reducible refine wx_not ?_ | with_reducible refine ws_if ?_)
      refine wx_ixL am.2 (atI_nat hrj) (hcmp true _ _ ?_)
      repeat (first
    | with_reducible refine wx_op ?_ | with_reducible refine wx_cb ?_ | with_reducible refine wx_cons ?_ | with_reducible refine wx_nil ?_ | with_reducible refine wx_c ?_ | with_reducible refine wx_var rfl (fun z => nomatch z) ?_
    | with_reducible refine wx_addI ?_ | with_reducible refine wx_sub ?_ | with_reducible refine wx_int ?_ | with_reducible refine wx_mul (small_mul (by decide)) ?_ | with_reducible refine wx_mul (small_mul (by omega)) ?_
    | with_reducible refine wx_mod (by first | decide | assumption | omega) ?_ | with_reducible refine wx_div (by first | decide | assumption) ?_ | with_reducible refine wx_pow (by decide) ?_ | with_reducible refine wx_cmp ?_ | with_reducible refine wx_lt ?_ | with_reducible refine wx_gt ?_
     | with_reducible refine ws_asg ?_ | with_reducible refine ws_ret ?_ | with_reducible refine wx_fB ?_ | with_reducible refine wx_and ?_ | with_reducible refine wx_or ?_ | with_reducible refine wx_not ?_ | with_reducible refine ws_if ?_)
      refine wx_eq (fun _ _ z => nomatch z) eq_intT ?_
      rw [e1]
      refine wx_eq (fun _ _ z => nomatch z) eq_bl ⟨false, by simp, iteF ?_⟩
      exact ws_pass ⟨_, rfl, gs, am, an, at_⟩
    · rintro e s ⟨c8, rfl, gs, am, an, at_⟩
      exact ⟨_, _, _, _, rfl, gs, am, an, at_⟩
  · rintro e s ⟨c5, c6, c7, c8, rfl, gs, am, an, at_⟩
    refine then_nx (ws_ret ?_)
    repeat (first
    | with_reducible refine wx_op ?_ | with_reducible refine wx_cb ?_ | with_reducible refine wx_cons ?_ | with_reducible refine wx_nil ?_ | with_reducible refine wx_c ?_ | with_reducible refine wx_var rfl (fun z => nomatch z) ?_
    | with_reducible refine wx_addI ?_ | with_reducible refine wx_sub ?_ | with_reducible refine wx_int ?_ | with_reducible refine wx_mul (small_mul (by decide)) ?_ | with_reducible refine wx_mul (small_mul (by omega)) ?_
    | with_reducible refine wx_mod (by first | decide | assumption | omega) ?_ | with_reducible refine wx_div (by first | decide | assumption) ?_ | with_reducible refine wx_pow (by decide) ?_ | with_reducible refine wx_cmp ?_ | with_reducible refine wx_lt ?_ | with_reducible refine wx_gt ?_
     | with_reducible refine ws_asg ?_ | with_reducible refine ws_ret ?_ | with_reducible refine wx_fB ?_ | with_reducible refine wx_and ?_ | with_reducible refine wx_or ?_ | with_reducible refine wx_not ?_ | with_reducible refine ws_if ?_)
    refine wx_call rfl (sp_things am (gs.hand hh) fun p9 s9 g9 a9 => ?_)
    have at9 := at_.go g9
    repeat (first
    | with_reducible refine wx_op ?_ | with_reducible refine wx_cb ?_ | with_reducible refine wx_cons ?_ | with_reducible refine wx_nil ?_ | with_reducible refine wx_c ?_ | with_reducible refine wx_var rfl (fun z => nomatch z) ?_
    | with_reducible refine wx_addI ?_ | with_reducible refine wx_sub ?_ | with_reducible refine wx_int ?_ | with_reducible refine wx_mul (small_mul (by decide)) ?_ | with_reducible refine wx_mul (small_mul (by omega)) ?_
    | with_reducible refine wx_mod (by first | decide | assumption | omega) ?_ | with_reducible refine wx_div (by first | decide | assumption) ?_ | with_reducible refine wx_pow (by decide) ?_ | with_reducible refine wx_cmp ?_ | with_reducible refine wx_lt ?_ | with_reducible refine wx_gt ?_
     | with_reducible refine ws_asg ?_ | with_reducible refine ws_ret ?_ | with_reducible refine wx_fB ?_ | with_reducible refine wx_and ?_ | with_reducible refine wx_or ?_ | with_reducible refine wx_not ?_ | with_reducible refine ws_if ?_)
    exact wx_eq (fun _ _ z => nomatch z) (eqqLL a9 at9 hpd) (q _ (gs.trans g9))
/-! ### the law -/
theorem sp_law (ns : List Int) (hl : ns.length ≤ 1000) (me : Option (Nat × List D)) : Wx (Flaw (tab K) [.fro (ns.map .int)]) ⟨[], me⟩ (fun d _ => d = .bl true) := by
  refine wx_fn (ws_seq ?_)
  repeat (first
    | with_reducible refine wx_op ?_ | with_reducible refine wx_cb ?_ | with_reducible refine wx_cons ?_ | with_reducible refine wx_nil ?_ | with_reducible refine wx_c ?_ | with_reducible refine wx_var rfl (fun z => nomatch z) ?_
    | with_reducible refine wx_addI ?_ | with_reducible refine wx_sub ?_ | with_reducible refine wx_int ?_ | with_reducible refine wx_mul (small_mul (by decide)) ?_ | with_reducible refine wx_mul (small_mul (by omega)) ?_
    | with_reducible refine wx_mod (by first | decide | assumption | omega) ?_ | with_reducible refine wx_div (by first | decide | assumption) ?_ | with_reducible refine wx_pow (by decide) ?_ | with_reducible refine wx_cmp ?_ | with_reducible refine wx_lt ?_ | with_reducible refine wx_gt ?_
     | with_reducible refine ws_asg ?_ | with_reducible refine ws_ret ?_ | with_reducible refine wx_fB ?_ | with_reducible refine wx_and ?_ | with_reducible refine wx_or ?_ | with_reducible refine wx_not ?_ | with_reducible refine ws_if ?_)
  refine wx_call rfl (sp_hand ns hl me fun s1 hh _ => ?_)
  refine then_nx (ws_seq (ws_for (wx_rng1 (j := 2) ?_)))
  repeat (first
    | with_reducible refine wx_op ?_ | with_reducible refine wx_cb ?_ | with_reducible refine wx_cons ?_ | with_reducible refine wx_nil ?_ | with_reducible refine wx_c ?_ | with_reducible refine wx_var rfl (fun z => nomatch z) ?_
    | with_reducible refine wx_addI ?_ | with_reducible refine wx_sub ?_ | with_reducible refine wx_int ?_ | with_reducible refine wx_mul (small_mul (by decide)) ?_ | with_reducible refine wx_mul (small_mul (by omega)) ?_
    | with_reducible refine wx_mod (by first | decide | assumption | omega) ?_ | with_reducible refine wx_div (by first | decide | assumption) ?_ | with_reducible refine wx_pow (by decide) ?_ | with_reducible refine wx_cmp ?_ | with_reducible refine wx_lt ?_ | with_reducible refine wx_gt ?_
     | with_reducible refine ws_asg ?_ | with_reducible refine ws_ret ?_ | with_reducible refine wx_fB ?_ | with_reducible refine wx_and ?_ | with_reducible refine wx_or ?_ | with_reducible refine wx_not ?_ | with_reducible refine ws_if ?_)
  refine ⟨rfl, by decide, ?_⟩
  refine ws_rng (n := 2) (fun k e s => ∃ c2 c3, e = [some (.fro (ns.map .int)), some (.ptr 1), c2, c3] ∧ HandOk s) ?_ ?_ 2 0 _ _ rfl ⟨_, _, rfl, hh⟩
  · rintro k e s hk ⟨c2, c3, rfl, hh⟩
    refine ws_seq ?_
    repeat (first
    | with_reducible refine wx_op ?_ | with_reducible refine wx_cb ?_ | with_reducible refine wx_cons ?_ | with_reducible refine wx_nil ?_ | with_reducible refine wx_c ?_ | with_reducible refine wx_var rfl (fun z => nomatch z) ?_
    | with_reducible refine wx_addI ?_ | with_reducible refine wx_sub ?_ | with_reducible refine wx_int ?_ | with_reducible refine wx_mul (small_mul (by decide)) ?_ | with_reducible refine wx_mul (small_mul (by omega)) ?_
    | with_reducible refine wx_mod (by first | decide | assumption | omega) ?_ | with_reducible refine wx_div (by first | decide | assumption) ?_ | with_reducible refine wx_pow (by decide) ?_ | with_reducible refine wx_cmp ?_ | with_reducible refine wx_lt ?_ | with_reducible refine wx_gt ?_
     | with_reducible refine ws_asg ?_ | with_reducible refine ws_ret ?_ | with_reducible refine wx_fB ?_ | with_reducible refine wx_and ?_ | with_reducible refine wx_or ?_ | with_reducible refine wx_not ?_ | with_reducible refine ws_if ?_)
    refine wx_call rfl (sp_drawn hh fun p s2 x0 x1 x2 x3 x4 g2 v0 v1 v2 v3 v4 a2 => ?_)
    have hh2 := g2.hand hh
    refine then_nx (ws_if (wx_or (wx_not (wx_fB (wx_cb ?_)))))
    repeat (first
    | with_reducible refine wx_op ?_ | with_reducible refine wx_cb ?_ | with_reducible refine wx_cons ?_ | with_reducible refine wx_nil ?_ | with_reducible refine wx_c ?_ | with_reducible refine wx_var rfl (fun z => nomatch z) ?_
    | with_reducible refine wx_addI ?_ | with_reducible refine wx_sub ?_ | with_reducible refine wx_int ?_ | with_reducible refine wx_mul (small_mul (by decide)) ?_ | with_reducible refine wx_mul (small_mul (by omega)) ?_
    | with_reducible refine wx_mod (by first | decide | assumption | omega) ?_ | with_reducible refine wx_div (by first | decide | assumption) ?_ | with_reducible refine wx_pow (by decide) ?_ | with_reducible refine wx_cmp ?_ | with_reducible refine wx_lt ?_ | with_reducible refine wx_gt ?_
     | with_reducible refine ws_asg ?_ | with_reducible refine ws_ret ?_ | with_reducible refine wx_fB ?_ | with_reducible refine wx_and ?_ | with_reducible refine wx_or ?_ | with_reducible refine wx_not ?_ | with_reducible refine ws_if ?_)
    refine wx_call rfl (sp_errors_right hh2 a2 v0 v1 fun s3 g3 => ⟨true, rfl, iteF ?_⟩)
    have hh3 := g3.hand hh2
    refine wx_not (wx_fB (wx_cb ?_))
    repeat (first
    | with_reducible refine wx_op ?_ | with_reducible refine wx_cb ?_ | with_reducible refine wx_cons ?_ | with_reducible refine wx_nil ?_ | with_reducible refine wx_c ?_ | with_reducible refine wx_var rfl (fun z => nomatch z) ?_
    | with_reducible refine wx_addI ?_ | with_reducible refine wx_sub ?_ | with_reducible refine wx_int ?_ | with_reducible refine wx_mul (small_mul (by decide)) ?_ | with_reducible refine wx_mul (small_mul (by omega)) ?_
    | with_reducible refine wx_mod (by first | decide | assumption | omega) ?_ | with_reducible refine wx_div (by first | decide | assumption) ?_ | with_reducible refine wx_pow (by decide) ?_ | with_reducible refine wx_cmp ?_ | with_reducible refine wx_lt ?_ | with_reducible refine wx_gt ?_
     | with_reducible refine ws_asg ?_ | with_reducible refine ws_ret ?_ | with_reducible refine wx_fB ?_ | with_reducible refine wx_and ?_ | with_reducible refine wx_or ?_ | with_reducible refine wx_not ?_ | with_reducible refine ws_if ?_)
    refine wx_call rfl (sp_results_right hh3 (g3.af _ _ a2) v0 v1 v2 v3 v4 fun s4 g4 => ⟨true, rfl, iteF ?_⟩)
    exact ws_pass ⟨_, _, rfl, g4.hand hh3⟩
  · rintro e s ⟨c2, c3, rfl, hh⟩
    exact then_nx (ws_ret (wx_c rfl))
end
end Pl
/-! Wk7: the law. -/
namespace Wk
open PySem PySem.Spec PyProof.Rows L2 Vm He
theorem only_rs {T : Vm.Tab} {K : PySem.W.Frag} {H : Hp} : RS T K ⟨[], none, []⟩ H ⟨[], none⟩ := ⟨rfl, List.nodup_nil, fun n a ds h => by simp at h, trivial, fun a h => nomatch h⟩
theorem ints_rp {T : Vm.Tab} {K : PySem.W.Frag} {ρ : Rho} {H : Hp} : ∀ ns : List Int, RpL T K ρ H (ns.map V.int) (ns.map D.int)
  | [] => .nil
  | n :: ns => .cons (.int n) (ints_rp ns)
theorem walkW {l : PySem.W.OpenLaw} {n k : Nat} {q : Program} {loose : List Str} {XP : (Str → Option Value) → Heap → Prop} {YP : World → Heap → Prop} {d : DefRec} {CX : World → CXT} {x : Str}
    (hn : l.most = some n) (hn2 : n ≤ sizeLine) (hdf : d.params.defaults = []) (hr : Room k callerA)
    (F : ∀ (w : World) (mg : Str → Option Value) (fa : Addr) (h : Heap), YP w h → h.Ns mainGlobals mg → mg d.name = some (.ref fa) →
      ∃ (K : PySem.W.Frag) (fd : FuncData) (sp : Sp), K.In h ∧ (∀ (s : Shared) (u : Value), BindsTo s fd ⟨[u], []⟩ [(x, u)]) ∧
        (∀ (H : Hp) (a : Addr) (ns : List Int), ns.length ≤ n → Only H → SqL K H a (ns.map V.int) → sp [.ref a] H (fun v _ => v = .bl true) fun _ _ _ => False) ∧
        ∀ base : Heap, K.In base → base.Ns mainGlobals mg → FnOk l.prog w K mg base (CX w) k fa fd [x] sp)
    (hCX : ∀ (w : World) (H : Hp) (s : Shared) (e : Value) (s' : Shared), CX w [] H s (fun _ _ _ => False) e s' → False) :
    PySem.W.WalkO q loose XP YP l.row.toRowW d [] (fun f vs => PySem.call f vs) := by
  refine Att.attach_call hn hdf fun w s₀ s₁ mg mb fa o pm cd doc a vs ns G Y ho hd hcd hmg hobj hints hlen hg => ?_
  obtain ⟨K, fd, sp, KX, hb, hsp, hF⟩ := F w mg fa _ Y G.T.g hmg
  exact law_call KX G.T.g G.T.b G.T.builtins G.T.nolimit hg hobj hints (Nat.le_trans hlen hn2) hr hF hb (fun H hO hS => hsp H a ns hlen hO hS) fun H e s' => hCX w H s₁ e s'
theorem law_sp {K : PySem.W.Frag} {H : Hp} {a : Addr} {ns : List Int} (hl : ns.length ≤ 1000) (hO : Only H) (hS : SqL K H a (ns.map V.int)) : spM (tab K) K (Flaw (tab K)) 1 [.ref a] H (fun v _ => v = .bl true) fun _ _ _ => False := by
  have hf : Fro K H a (ns.map V.int) := by
    rcases hS with (h | ⟨o, h⟩) | h
    · rcases hO a with q | ⟨o, xs, q⟩
      · rw [q] at h
        cases h
      · rw [q] at h
        cases h
    · exact .inl ⟨o, h⟩
    · exact .inr h
  obtain ⟨d, st', e, rfl⟩ := Pl.sp_law (K := K) ns hl none
  refine ⟨⟨[], none, []⟩, [.fro (ns.map .int)], ⟨[], none⟩, _, _, rfl, only_rs, .cons (.inl (.fro hf (ints_rp ns))) .nil, e, ?_⟩
  intro v H' ρ' _ _ rp
  cases rp
  rfl
end Wk
open PySem PySem.W PySem.Calls PyProof.Rows
theorem PySem.Challenge.cw_untaughthelm_k54_whole_errors_and_result_holds : PySem.Challenge.rw_untaughthelm_k54_whole_errors_and_result.Holds := by
  w_on; o_law
  refine HandSHeadRun.head_any (r := OpenLaw.row PySem.Challenge.rw_untaughthelm_k54_whole_errors_and_result) (q := view (OpenLaw.row PySem.Challenge.rw_untaughthelm_k54_whole_errors_and_result).prog [92]) (H := Wk.hook) (ob := Wk.ob) (M := 20000) (loose := Hd.names) (d := HandSHeadRun.topDef (OpenLaw.row PySem.Challenge.rw_untaughthelm_k54_whole_errors_and_result).prog 92) (kwd := []) Wk.ob_eq
    (by kernel_rfl) (fun s => by kernel_rfl) Hd.run (by kernel_rfl) (by kernel_rfl) (by kernel_rfl) (by rfl) (by first | assumption | decide +kernel) (by decide +kernel) ⟨rfl, rfl, rfl, rfl, rfl, by decide +kernel⟩ ?hw ?hc
  case hw => w_witness2
  case hc =>
    refine Wk.walkW (l := PySem.Challenge.rw_untaughthelm_k54_whole_errors_and_result) (n := 63) (k := 7) (x := "script") (CX := L2.CX PySem.Challenge.rw_untaughthelm_k54_whole_errors_and_result.prog) rfl (by decide) (by kernel_rfl) ⟨rfl, by decide, by decide⟩ ?F ?C
    case C =>
      intro w H s e s' h
      obtain ⟨_, _, _, _, _, _, _, _, _, _, _, _, h⟩ := h
      exact h
    case F =>
      intro w mg fa h Y G hmg0
      obtain ⟨K, KX, c⟩ := Y
      have hmg : mg ("law" : PySem.Str) = some (.ref fa) := by
        have e : (HandSHeadRun.topDef (OpenLaw.row PySem.Challenge.rw_untaughthelm_k54_whole_errors_and_result).prog 92).name = ("law" : PySem.Str) := by kernel_rfl
        rw [← e]
        exact hmg0
      have fx := Wk.fx_of KX G c
      have e := hmg.symm.trans (fx.def_ 15 rfl)
      cases e
      obtain ⟨fd, F⟩ := fx.fun_ 95 Wk.d95 rfl
      have b := L2.FunD.bindsA (ps := ["script"]) F fun _ _ _ _ _ _ us hl => match us, hl with | [_], _ => rfl
      exact ⟨K, fd, _, KX, fun s u => b s [u] rfl, fun H a ns hl hO hS => Wk.law_sp (Nat.le_trans hl (by decide)) hO hS, fun base _ _ => (Wk.wlawF fx _ w base (Wk.eo fx _ w base) F).ok⟩
