import PyProof.Rows.All
import Wide.All
import OpenK.AllK
import Wide.FinOn
import PySem.Challenge.RW_messengers_k04_whole_call_rows
import HandS.ForMost
import HandS.Flow
import HandS.TupAny
import HandS.Wide
import HandS.Zip
import HandS.Rev
import HandS.TupLen
import HandS.Conv
import HandS.Small
import KE.DataEq
import KE.DataAny
import KE.DataCmp
import KE.DataMinMax
import KE.DataFind
import KE.SortData
import HandS.Style
import HandS.ListItems
import KE.GoesEnum
import KE.KRevSl
import HandS.TupMul
import HandS.Deep
import HandS.IsInst
import HandS.Codes
import KE.KDictSum
import HandS.Comp
import HandS.Iter
import KE.KDictKeyed
import HandS.More
import HandS.CallLocal
import HandS.Defaults
import HandS.Words
import HandS.Ends
import HandS.HeadEnd
import HandS.HeadHook1
import HandS.HeadHook2
import KE.KStateDown
import Lean
import HandS.Head0
import HandS.Head1
import HandS.Head2
set_option Elab.async false
set_option linter.all false
set_option maxRecDepth 100000
set_option maxHeartbeats 4000000
/-! R1: pure values U, the relation to V over an abstract heap, worlds and their extension -/
namespace R
open PySem PySem.Spec PyProof.Rows L2


/-- values: pure trees; ob i is the object number i of the store; fn i the def number i -/
inductive U where
  | non | bl (b : Bool) | int (i : Int) | str (x : Str)
  | tup (xs : List U) | lst (xs : List U) | dk (ks : List Key) (vs : List U) | dt (ks : List (List Key)) (vs : List U)
  | ob (i : Nat) | fn (i : Nat) | scr (ns : List Int)

abbrev Mu := List U

/-- a frozen tuple, a frozen list -/
def FT (t m : List Addr) (H : Hp) (a : Addr) (vs : List V) : Prop := H a = some (.tup vs) ∧ a ∉ m ∧ a ∉ t
def FL (t m : List Addr) (H : Hp) (a : Addr) (vs : List V) : Prop := H a = some (.lst vs) ∧ a ∉ m ∧ a ∉ t
/-- the script -/
def FS (K : PySem.W.Frag) (t m : List Addr) (H : Hp) (a : Addr) (vs : List V) : Prop :=
  (Rd H a (.lst vs) ∧ a ∉ m ∧ a ∉ t) ∨ ∃ (o : Obj) (its : Array Value) (n : Nat), K.lookup a = some o ∧ o.cls = .type "list" ∧ o.dict = none ∧ o.data = .seq its n ∧ its.size ≤ sizeLine ∧ Vals vs its.toList
theorem FT.sq {K : PySem.W.Frag} {t m H a vs} (h : FT t m H a vs) : SqT K H a vs := .inl (.inl h.1)
theorem FL.sq {K : PySem.W.Frag} {t m H a vs} (h : FL t m H a vs) : SqL K H a vs := .inl (.inl h.1)
theorem FS.sq {K t m H a vs} (h : FS K t m H a vs) : SqL K H a vs := h.elim (fun q => .inl q.1) .inr

mutual
/-- v stands for u; mutable ones are those of the list m, numbers below n -/
inductive Rp (K : PySem.W.Frag) (fa : Nat → Option Addr) (t m : List Addr) (n : Nat) (H : Hp) : U → V → Prop
  | non : Rp K fa t m n H .non .non
  | bl (b : Bool) : Rp K fa t m n H (.bl b) (.bl b)
  | int (i : Int) : Rp K fa t m n H (.int i) (.int i)
  | str (x : Str) : Rp K fa t m n H (.str x) (.str x)
  | tup {a : Addr} {vs : List V} {xs : List U} : FT t m H a vs → RpA K fa t m n H xs vs → Rp K fa t m n H (.tup xs) (.ref a)
  | lst {a : Addr} {vs : List V} {xs : List U} : FL t m H a vs → RpA K fa t m n H xs vs → Rp K fa t m n H (.lst xs) (.ref a)
  | dK {a : Addr} {kvs : List (Key × V)} {us : List U} : H a = some (.dK kvs) → a ∉ m → a ∉ t → RpA K fa t m n H us (kvs.map (·.2)) → Rp K fa t m n H (.dk (kvs.map (·.1)) us) (.ref a)
  | dT {a : Addr} {kvs : List (List Key × V)} {us : List U} : H a = some (.dT kvs) → a ∉ m → a ∉ t → RpA K fa t m n H us (kvs.map (·.2)) → Rp K fa t m n H (.dt (kvs.map (·.1)) us) (.ref a)
  | ob {i : Nat} {a : Addr} : i < n → m[i]? = some a → Rp K fa t m n H (.ob i) (.ref a)
  | fn {i : Nat} {a : Addr} : fa i = some a → Rp K fa t m n H (.fn i) (.ref a)
  | scr {a : Addr} {ns : List Int} : FS K t m H a (ns.map V.int) → Rp K fa t m n H (.scr ns) (.ref a)
inductive RpA (K : PySem.W.Frag) (fa : Nat → Option Addr) (t m : List Addr) (n : Nat) (H : Hp) : List U → List V → Prop
  | nil : RpA K fa t m n H [] []
  | cons {u : U} {v : V} {us : List U} {vs : List V} : Rp K fa t m n H u v → RpA K fa t m n H us vs → RpA K fa t m n H (u :: us) (v :: vs)
end

/-- the world may grow: new mutable ones are new addresses, what is not mutable stays -/
structure Ex (m : List Addr) (H : Hp) (m' : List Addr) (H' : Hp) : Prop where
  pre : ∃ t, m' = m ++ t
  keep : ∀ a o, H a = some o → a ∉ m → H' a = some o
  new : ∀ a, a ∈ m' → a ∉ m → H a = none

theorem Ex.refl (m : List Addr) (H : Hp) : Ex m H m H := ⟨⟨[], by simp⟩, fun _ _ h _ => h, fun a h n => absurd h n⟩
theorem Ex.sub {m H m' H'} (e : Ex m H m' H') {a : Addr} (h : a ∈ m) : a ∈ m' := by
  obtain ⟨t, rfl⟩ := e.pre; exact List.mem_append_left _ h
theorem Ex.at_ {m H m' H'} (e : Ex m H m' H') {i : Nat} {a : Addr} (h : m[i]? = some a) : m'[i]? = some a := by
  obtain ⟨t, rfl⟩ := e.pre
  have hi : i < m.length := (List.getElem?_eq_some_iff.mp h).1
  rw [List.getElem?_append_left hi]; exact h
theorem Ex.len {m H m' H'} (e : Ex m H m' H') : m.length ≤ m'.length := by
  obtain ⟨t, rfl⟩ := e.pre; simp
theorem Ex.nin {m H m' H'} (e : Ex m H m' H') {a : Addr} {o : HO} (h : H a = some o) (n : a ∉ m) : a ∉ m' := fun z => by
  have q := e.new a z n; rw [h] at q; cases q
theorem Ex.trans {m H m1 H1 m2 H2} (a : Ex m H m1 H1) (b : Ex m1 H1 m2 H2) : Ex m H m2 H2 where
  pre := by
    obtain ⟨t, rfl⟩ := a.pre; obtain ⟨t', rfl⟩ := b.pre; exact ⟨t ++ t', by simp⟩
  keep := fun c o h n => b.keep c o (a.keep c o h n) (a.nin h n)
  new := fun c h n => by
    by_cases hc : c ∈ m1
    · exact a.new c hc n
    · cases q : H c with
      | none => rfl
      | some o =>
        have q1 := a.keep c o q n
        have q2 := b.new c h hc
        rw [q1] at q2; cases q2
theorem Ex.upd {m : List Addr} {H : Hp} {p : Addr} {o : HO} (h : H p = none) : Ex m H m (upd H p o) :=
  ⟨⟨[], by simp⟩, fun a u e _ => by rw [upd_ne (ne_of_none e h)]; exact e, fun a h n => absurd h n⟩
theorem Ex.alloc {m : List Addr} {H : Hp} {p : Addr} {o : HO} (h : H p = none) : Ex m H (m ++ [p]) (L2.upd H p o) :=
  ⟨⟨[p], rfl⟩, fun a u e _ => by rw [upd_ne (ne_of_none e h)]; exact e, fun a q n => by
    rcases List.mem_append.mp q with q | q
    · exact absurd q n
    · simp at q; subst q; exact h⟩
theorem Ex.write {m : List Addr} {H : Hp} {p : Addr} {o : HO} (h : p ∈ m) : Ex m H m (L2.upd H p o) :=
  ⟨⟨[], by simp⟩, fun a u e n => by rw [upd_ne (fun z : a = p => n (by rw [z]; exact h))]; exact e, fun a h n => absurd h n⟩

section
variable {K : PySem.W.Frag} {fa : Nat → Option Addr} {t t' m m' : List Addr} {n n' : Nat} {H H' : Hp}
theorem Rd.ex (e : Ex m H m' H') {a : Addr} {o : HO} (h : Rd H a o) (n : a ∉ m) : Rd H' a o ∧ a ∉ m' := by
  rcases h with h | ⟨ob, h⟩
  · exact ⟨.inl (e.keep _ _ h n), e.nin h n⟩
  · exact ⟨.inr ⟨ob, e.keep _ _ h n⟩, e.nin h n⟩
theorem FT.ex (e : Ex m H m' H') {a vs} (h : FT t m H a vs) : FT t m' H' a vs := ⟨e.keep _ _ h.1 h.2.1, e.nin h.1 h.2.1, h.2.2⟩
theorem FL.ex (e : Ex m H m' H') {a vs} (h : FL t m H a vs) : FL t m' H' a vs := ⟨e.keep _ _ h.1 h.2.1, e.nin h.1 h.2.1, h.2.2⟩
theorem FS.ex (e : Ex m H m' H') {a vs} (h : FS K t m H a vs) : FS K t m' H' a vs := h.elim (fun q => .inl ⟨(Rd.ex e q.1 q.2.1).1, (Rd.ex e q.1 q.2.1).2, q.2.2⟩) .inr
mutual
theorem Rp.ex (e : Ex m H m' H') (hn : n ≤ n') : ∀ {u : U} {v : V}, Rp K fa t m n H u v → Rp K fa t m' n' H' u v
  | _, _, .non => .non
  | _, _, .bl b => .bl b
  | _, _, .int i => .int i
  | _, _, .str x => .str x
  | _, _, .tup h r => .tup (h.ex e) (RpA.ex e hn r)
  | _, _, .lst h r => .lst (h.ex e) (RpA.ex e hn r)
  | _, _, .dK h n z r => .dK (e.keep _ _ h n) (e.nin h n) z (RpA.ex e hn r)
  | _, _, .dT h n z r => .dT (e.keep _ _ h n) (e.nin h n) z (RpA.ex e hn r)
  | _, _, .ob hi h => .ob (Nat.lt_of_lt_of_le hi hn) (e.at_ h)
  | _, _, .fn h => .fn h
  | _, _, .scr h => .scr (h.ex e)
theorem RpA.ex (e : Ex m H m' H') (hn : n ≤ n') : ∀ {us : List U} {vs : List V}, RpA K fa t m n H us vs → RpA K fa t m' n' H' us vs
  | _, _, .nil => .nil
  | _, _, .cons h r => .cons (Rp.ex e hn h) (RpA.ex e hn r)
end
theorem RpA.length : ∀ {us : List U} {vs : List V}, RpA K fa t m n H us vs → us.length = vs.length
  | _, _, .nil => rfl
  | _, _, .cons _ r => by simp [RpA.length r]
theorem RpA.get : ∀ {us : List U} {vs : List V} {i : Nat} {u : U}, RpA K fa t m n H us vs → us[i]? = some u → ∃ v, vs[i]? = some v ∧ Rp K fa t m n H u v
  | _, _, _, _, .nil, e => by simp at e
  | _, _, 0, _, .cons h _, e => by simp at e; subst e; exact ⟨_, rfl, h⟩
  | _, _, i + 1, u, .cons _ r, e => by
    obtain ⟨v, h1, h2⟩ := RpA.get (i := i) (u := u) r (by simpa using e)
    exact ⟨v, by simpa using h1, h2⟩
theorem RpA.getV : ∀ {us : List U} {vs : List V} {i : Nat} {v : V}, RpA K fa t m n H us vs → vs[i]? = some v → ∃ u, us[i]? = some u ∧ Rp K fa t m n H u v
  | _, _, _, _, .nil, e => by simp at e
  | _, _, 0, _, .cons h _, e => by simp at e; subst e; exact ⟨_, rfl, h⟩
  | _, _, i + 1, u, .cons _ r, e => by
    obtain ⟨v, h1, h2⟩ := RpA.getV (i := i) (v := u) r (by simpa using e)
    exact ⟨v, by simpa using h1, h2⟩
theorem RpA.append : ∀ {us ys : List U} {vs ws : List V}, RpA K fa t m n H us vs → RpA K fa t m n H ys ws → RpA K fa t m n H (us ++ ys) (vs ++ ws)
  | _, _, _, _, .nil, s => s
  | _, _, _, _, .cons h r, s => .cons h (RpA.append r s)
theorem RpA.take : ∀ {us : List U} {vs : List V} (k : Nat), RpA K fa t m n H us vs → RpA K fa t m n H (us.take k) (vs.take k)
  | _, _, 0, _ => .nil
  | _, _, _ + 1, .nil => .nil
  | _, _, k + 1, .cons h r => .cons h (RpA.take k r)
theorem RpA.drop : ∀ {us : List U} {vs : List V} (k : Nat), RpA K fa t m n H us vs → RpA K fa t m n H (us.drop k) (vs.drop k)
  | _, _, 0, r => r
  | _, _, _ + 1, .nil => .nil
  | _, _, k + 1, .cons _ r => RpA.drop k r
theorem RpA.set {u : U} {v : V} (h : Rp K fa t m n H u v) : ∀ {us : List U} {vs : List V} (i : Nat), RpA K fa t m n H us vs → RpA K fa t m n H (us.set i u) (vs.set i v)
  | _, _, _, .nil => .nil
  | _, _, 0, .cons _ r => .cons h r
  | _, _, i + 1, .cons q r => .cons q (RpA.set h i r)
theorem RpA.one {u : U} {v : V} (h : Rp K fa t m n H u v) : RpA K fa t m n H [u] [v] := .cons h .nil
theorem RpA.rev : ∀ {us : List U} {vs : List V}, RpA K fa t m n H us vs → RpA K fa t m n H us.reverse vs.reverse
  | _, _, .nil => .nil
  | _, _, .cons h r => by
    rw [List.reverse_cons, List.reverse_cons]
    exact (RpA.rev r).append (.one h)
theorem RpA.rep (k : Nat) : ∀ {us : List U} {vs : List V}, RpA K fa t m n H us vs → RpA K fa t m n H (List.replicate k us).flatten (List.replicate k vs).flatten := by
  intro us vs h
  induction k with
  | zero => exact .nil
  | succ k ih => simpa [List.replicate_succ] using h.append ih
theorem RpA.ints : ∀ (is : List Int), RpA K fa t m n H (is.map U.int) (is.map V.int)
  | [] => .nil
  | i :: r => .cons (.int i) (RpA.ints r)

/-- what a mutable object holds -/
inductive Ct (K : PySem.W.Frag) (fa : Nat → Option Addr) (t m : List Addr) (n : Nat) (H : Hp) (a : Addr) : U → Prop
  | lst {vs : List V} {xs : List U} : H a = some (.lst vs) → RpA K fa t m n H xs vs → Ct K fa t m n H a (.lst xs)
  | dK {kvs : List (Key × V)} {us : List U} : H a = some (.dK kvs) → RpA K fa t m n H us (kvs.map (·.2)) → Ct K fa t m n H a (.dk (kvs.map (·.1)) us)
  | dT {kvs : List (List Key × V)} {us : List U} : H a = some (.dT kvs) → RpA K fa t m n H us (kvs.map (·.2)) → Ct K fa t m n H a (.dt (kvs.map (·.1)) us)
theorem Ct.ex (e : Ex m H m' H') (hn : n ≤ n') {a : Addr} {o : U} (ha : H' a = H a) (h : Ct K fa t m n H a o) : Ct K fa t m' n' H' a o := by
  cases h with
  | lst h r => exact .lst (ha.trans h) (r.ex e hn)
  | dK h r => exact .dK (ha.trans h) (r.ex e hn)
  | dT h r => exact .dT (ha.trans h) (r.ex e hn)

/-- the store: bs the bounds of the objects that stood at the frame's entry -/
structure Me (K : PySem.W.Frag) (fa : Nat → Option Addr) (bs : List Nat) (t m : List Addr) (H : Hp) (μ : Mu) : Prop where
  len : m.length = μ.length
  low : bs.length ≤ m.length
  nd : m.Nodup
  ct : ∀ (i : Nat) (a : Addr) (o : U), m[i]? = some a → μ[i]? = some o → Ct K fa t m (bs[i]?.getD m.length) H a o
  bd : ∀ (i b : Nat), bs[i]? = some b → b ≤ bs.length
  tt : ∀ a ∈ t, a ∉ m ∧ ∃ o, H a = some o ∧ ∀ vs, o ≠ .tup vs

/-! ### temporaries -/
mutual
/-- fewer temporaries are to be avoided -/
theorem Rp.tw (ht : ∀ a ∈ t', a ∈ t) : ∀ {u : U} {v : V}, Rp K fa t m n H u v → Rp K fa t' m n H u v
  | _, _, .non => .non
  | _, _, .bl b => .bl b
  | _, _, .int i => .int i
  | _, _, .str x => .str x
  | _, _, .tup h r => .tup ⟨h.1, h.2.1, fun z => h.2.2 (ht _ z)⟩ (RpA.tw ht r)
  | _, _, .lst h r => .lst ⟨h.1, h.2.1, fun z => h.2.2 (ht _ z)⟩ (RpA.tw ht r)
  | _, _, .dK h n z r => .dK h n (fun q => z (ht _ q)) (RpA.tw ht r)
  | _, _, .dT h n z r => .dT h n (fun q => z (ht _ q)) (RpA.tw ht r)
  | _, _, .ob hi h => .ob hi h
  | _, _, .fn h => .fn h
  | _, _, .scr h => .scr (h.elim (fun q => .inl ⟨q.1, q.2.1, fun z => q.2.2 (ht _ z)⟩) .inr)
theorem RpA.tw (ht : ∀ a ∈ t', a ∈ t) : ∀ {us : List U} {vs : List V}, RpA K fa t m n H us vs → RpA K fa t' m n H us vs
  | _, _, .nil => .nil
  | _, _, .cons h r => .cons (Rp.tw ht h) (RpA.tw ht r)
end
theorem Rd.some {a : Addr} {o : HO} (h : Rd H a o) : ∃ u, H a = some u := h.elim (fun q => ⟨_, q⟩) fun ⟨_, q⟩ => ⟨_, q⟩
mutual
/-- a new temporary at D -/
theorem Rp.tn {D : Addr} (hD : H D = none) : ∀ {u : U} {v : V}, Rp K fa t m n H u v → Rp K fa (D :: t) m n H u v
  | _, _, .non => .non
  | _, _, .bl b => .bl b
  | _, _, .int i => .int i
  | _, _, .str x => .str x
  | _, _, .tup h r => .tup ⟨h.1, h.2.1, fun z => by
      rcases List.mem_cons.mp z with z | z
      · have e := h.1; rw [z, hD] at e; cases e
      · exact h.2.2 z⟩ (RpA.tn hD r)
  | _, _, .lst h r => .lst ⟨h.1, h.2.1, fun z => by
      rcases List.mem_cons.mp z with z | z
      · have e := h.1; rw [z, hD] at e; cases e
      · exact h.2.2 z⟩ (RpA.tn hD r)
  | _, _, .dK h n q r => .dK h n (fun z => by
      rcases List.mem_cons.mp z with z | z
      · rw [z, hD] at h; cases h
      · exact q z) (RpA.tn hD r)
  | _, _, .dT h n q r => .dT h n (fun z => by
      rcases List.mem_cons.mp z with z | z
      · rw [z, hD] at h; cases h
      · exact q z) (RpA.tn hD r)
  | _, _, .ob hi h => .ob hi h
  | _, _, .fn h => .fn h
  | _, _, .scr h => .scr (h.elim (fun q => .inl ⟨q.1, q.2.1, fun z => by
      obtain ⟨u, e⟩ := Rd.some q.1
      rcases List.mem_cons.mp z with z | z
      · rw [z, hD] at e; cases e
      · exact q.2.2 z⟩) .inr)
theorem RpA.tn {D : Addr} (hD : H D = none) : ∀ {us : List U} {vs : List V}, RpA K fa t m n H us vs → RpA K fa (D :: t) m n H us vs
  | _, _, .nil => .nil
  | _, _, .cons h r => .cons (Rp.tn hD h) (RpA.tn hD r)
end
theorem Rd.off {a D : Addr} {o u : HO} (hne : a ≠ D) (h : Rd H a u) : Rd (L2.upd H D o) a u := by
  rcases h with e | ⟨ob, e⟩
  · exact .inl (by rw [upd_ne hne]; exact e)
  · exact .inr ⟨ob, by rw [upd_ne hne]; exact e⟩
theorem FL.off {a D : Addr} {o u : HO} (hne : a ≠ D) (h : H a = some u) : (L2.upd H D o) a = some u := by rw [upd_ne hne]; exact h
mutual
/-- a temporary is written -/
theorem Rp.td {D : Addr} {o : HO} (hD : D ∈ t) : ∀ {u : U} {v : V}, Rp K fa t m n H u v → Rp K fa t m n (L2.upd H D o) u v
  | _, _, .non => .non
  | _, _, .bl b => .bl b
  | _, _, .int i => .int i
  | _, _, .str x => .str x
  | _, _, .tup h r => .tup ⟨FL.off (fun z => h.2.2 (z ▸ hD)) h.1, h.2.1, h.2.2⟩ (RpA.td hD r)
  | _, _, .lst h r => .lst ⟨FL.off (fun z => h.2.2 (z ▸ hD)) h.1, h.2.1, h.2.2⟩ (RpA.td hD r)
  | _, _, .dK h n q r => .dK (by rw [upd_ne (fun z => q (by rw [z]; exact hD))]; exact h) n q (RpA.td hD r)
  | _, _, .dT h n q r => .dT (by rw [upd_ne (fun z => q (by rw [z]; exact hD))]; exact h) n q (RpA.td hD r)
  | _, _, .ob hi h => .ob hi h
  | _, _, .fn h => .fn h
  | _, _, .scr h => .scr (h.elim (fun q => .inl ⟨Rd.off (fun z => q.2.2 (z ▸ hD)) q.1, q.2.1, q.2.2⟩) .inr)
theorem RpA.td {D : Addr} {o : HO} (hD : D ∈ t) : ∀ {us : List U} {vs : List V}, RpA K fa t m n H us vs → RpA K fa t m n (L2.upd H D o) us vs
  | _, _, .nil => .nil
  | _, _, .cons h r => .cons (Rp.td hD h) (RpA.td hD r)
end
theorem Ct.some {a : Addr} {o : U} (h : Ct K fa t m n H a o) : ∃ u, H a = some u := by
  cases h with
  | lst h _ => exact ⟨_, h⟩
  | dK h _ => exact ⟨_, h⟩
  | dT h _ => exact ⟨_, h⟩
theorem Ct.tw (ht : ∀ a ∈ t', a ∈ t) {a : Addr} {o : U} (h : Ct K fa t m n H a o) : Ct K fa t' m n H a o := by
  cases h with
  | lst h r => exact .lst h (r.tw ht)
  | dK h r => exact .dK h (r.tw ht)
  | dT h r => exact .dT h (r.tw ht)
variable {bs : List Nat} {μ : Mu}
theorem Me.there (M : Me K fa bs t m H μ) {a : Addr} (h : a ∈ m) : ∃ o, H a = some o := by
  obtain ⟨i, hi⟩ := List.mem_iff_getElem?.mp h
  have hl : i < μ.length := by rw [← M.len]; exact (List.getElem?_eq_some_iff.mp hi).1
  exact (M.ct i a _ hi (List.getElem?_eq_getElem hl)).some
theorem Me.fresh (M : Me K fa bs t m H μ) {p : Addr} (h : H p = none) : p ∉ m ∧ p ∉ t := by
  refine ⟨fun z => ?_, fun z => ?_⟩
  · obtain ⟨o, e⟩ := M.there z; rw [h] at e; cases e
  · obtain ⟨_, o, e, _⟩ := M.tt _ z; rw [h] at e; cases e
/-- a tuple is no mutable one, no temporary -/
theorem Me.tupN (M : Me K fa bs t m H μ) {b : Addr} {vs : List V} (h : H b = some (.tup vs)) : FT t m H b vs := by
  refine ⟨h, fun z => ?_, fun z => ?_⟩
  · obtain ⟨i, hi⟩ := List.mem_iff_getElem?.mp z
    have hl : i < μ.length := by rw [← M.len]; exact (List.getElem?_eq_some_iff.mp hi).1
    have c := M.ct i b _ hi (List.getElem?_eq_getElem hl)
    generalize μ[i] = o at c
    cases c with
    | lst q _ => rw [h] at q; cases q
    | dK q _ => rw [h] at q; cases q
    | dT q _ => rw [h] at q; cases q
  · obtain ⟨_, o, e, w⟩ := M.tt _ z
    rw [h] at e
    cases e
    exact w _ rfl
/-- only new objects beside -/
theorem Me.ext (M : Me K fa bs t m H μ) (k : ∀ a o, H a = some o → H' a = some o) : Me K fa bs t m H' μ := by
  have e : Ex m H m H' := ⟨⟨[], by simp⟩, fun a o h _ => k a o h, fun a h n => absurd h n⟩
  refine ⟨M.len, M.low, M.nd, fun i a o h1 h2 => ?_, M.bd, fun a h => ⟨(M.tt a h).1, let ⟨o, q, w⟩ := (M.tt a h).2; ⟨o, k _ _ q, w⟩⟩⟩
  have q := M.ct i a o h1 h2
  obtain ⟨u, hu⟩ := q.some
  exact q.ex e (Nat.le_refl _) ((k _ _ hu).trans hu.symm)
theorem Me.upd (M : Me K fa bs t m H μ) {p : Addr} {o : HO} (h : H p = none) : Me K fa bs t m (L2.upd H p o) μ :=
  M.ext fun a u e => by rw [upd_ne (ne_of_none e h)]; exact e
theorem Me.bnd (M : Me K fa bs t m H μ) (i : Nat) : (bs[i]?.getD m.length) ≤ m.length := by
  cases e : bs[i]? with
  | none => exact Nat.le_refl _
  | some b => exact Nat.le_trans (M.bd i b e) M.low
/-- a new mutable object -/
theorem Me.alloc (M : Me K fa bs t m H μ) {p : Addr} {ho : HO} {o : U} (h : H p = none) (c : Ct K fa t (m ++ [p]) (m.length + 1) (L2.upd H p ho) p o) : Me K fa bs t (m ++ [p]) (L2.upd H p ho) (μ ++ [o]) := by
  have e : Ex m H (m ++ [p]) (L2.upd H p ho) := Ex.alloc h
  obtain ⟨nm, nt⟩ := M.fresh h
  refine ⟨by simp [M.len], by have := M.low; simp; omega, ?_, fun i a u h1 h2 => ?_, M.bd, fun a ha => ?_⟩
  · rw [List.nodup_append]
    refine ⟨M.nd, by simp, fun a ha b hb => ?_⟩
    simp at hb; subst hb
    exact fun z => nm (z ▸ ha)
  · by_cases hi : i < m.length
    · rw [List.getElem?_append_left hi] at h1
      rw [List.getElem?_append_left (by rw [← M.len]; exact hi)] at h2
      have q := M.ct i a u h1 h2
      have hne : a ≠ p := fun z => nm (z ▸ List.mem_of_getElem? h1)
      refine q.ex e ?_ (upd_ne hne)
      cases hb : bs[i]? with
      | none => simp
      | some b => simp
    · have hi' : i = m.length := by
        have := (List.getElem?_eq_some_iff.mp h1).1
        simp at this; omega
      subst hi'
      simp at h1
      rw [M.len] at h2
      simp at h2
      subst h1 h2
      have hb : bs[m.length]? = none := List.getElem?_eq_none_iff.mpr M.low
      rw [hb]
      simpa using c
  · obtain ⟨h1, o', h2, h3⟩ := M.tt a ha
    refine ⟨fun z => ?_, o', e.keep _ _ h2 h1, h3⟩
    rcases List.mem_append.mp z with z | z
    · exact h1 z
    · simp at z; subst z; exact nt ha
/-- a mutable object is written -/
theorem Me.write (M : Me K fa bs t m H μ) {i : Nat} {p : Addr} {ho : HO} {o : U} (h : m[i]? = some p) (c : Ct K fa t m (bs[i]?.getD m.length) (L2.upd H p ho) p o) : Me K fa bs t m (L2.upd H p ho) (μ.set i o) := by
  have hm := List.mem_of_getElem? h
  have e : Ex m H m (L2.upd H p ho) := Ex.write hm
  refine ⟨by simp [M.len], M.low, M.nd, fun j a u h1 h2 => ?_, M.bd, fun a ha => ?_⟩
  · by_cases hj : j = i
    · subst hj
      rw [h] at h1; cases h1
      have hl : j < μ.length := by rw [← M.len]; exact (List.getElem?_eq_some_iff.mp h).1
      rw [List.getElem?_set_self hl] at h2
      cases h2
      exact c
    · rw [List.getElem?_set_ne (fun z => hj z.symm)] at h2
      have hne : a ≠ p := fun z => by
        subst z
        have h3 := (List.getElem?_eq_some_iff.mp h1)
        have h4 := (List.getElem?_eq_some_iff.mp h)
        obtain ⟨l1, e1⟩ := h3
        obtain ⟨l2, e2⟩ := h4
        exact hj ((List.getElem_inj M.nd).mp (e1.trans e2.symm))
      exact (M.ct j a u h1 h2).ex e (Nat.le_refl _) (upd_ne hne)
  · obtain ⟨h1, o', h2, h3⟩ := M.tt a ha
    exact ⟨h1, o', e.keep _ _ h2 h1, h3⟩
/-- a temporary begins, is written, ends -/
theorem Me.tn (M : Me K fa bs t m H μ) {D : Addr} {o : HO} (h : H D = none) (ho : ∀ vs, o ≠ .tup vs := by intro _ h; cases h) : Me K fa bs (D :: t) m (L2.upd H D o) μ := by
  have M' := M.upd (o := o) h
  obtain ⟨nm, nt⟩ := M.fresh h
  have e : Ex m H m (L2.upd H D o) := Ex.upd h
  refine ⟨M.len, M.low, M.nd, fun i a u h1 h2 => ?_, M.bd, fun a ha => ?_⟩
  · have q := M.ct i a u h1 h2
    have hne : a ≠ D := fun z => nm (z ▸ List.mem_of_getElem? h1)
    cases q with
    | lst q r => exact .lst (by rw [upd_ne hne]; exact q) ((r.tn h).ex e (Nat.le_refl _))
    | dK q r => exact .dK (by rw [upd_ne hne]; exact q) ((r.tn h).ex e (Nat.le_refl _))
    | dT q r => exact .dT (by rw [upd_ne hne]; exact q) ((r.tn h).ex e (Nat.le_refl _))
  · rcases List.mem_cons.mp ha with ha | ha
    · subst ha; exact ⟨nm, o, upd_same, ho⟩
    · exact M'.tt a ha
theorem Me.td (M : Me K fa bs t m H μ) {D : Addr} {o : HO} (h : D ∈ t) (ho : ∀ vs, o ≠ .tup vs := by intro _ h; cases h) : Me K fa bs t m (L2.upd H D o) μ := by
  refine ⟨M.len, M.low, M.nd, fun i a u h1 h2 => ?_, M.bd, fun a ha => ?_⟩
  · have q := M.ct i a u h1 h2
    have hne : a ≠ D := fun z => (M.tt D h).1 (z ▸ List.mem_of_getElem? h1)
    cases q with
    | lst q r => exact .lst (by rw [upd_ne hne]; exact q) (r.td h)
    | dK q r => exact .dK (by rw [upd_ne hne]; exact q) (r.td h)
    | dT q r => exact .dT (by rw [upd_ne hne]; exact q) (r.td h)
  · obtain ⟨h1, o', h2, h3⟩ := M.tt a ha
    by_cases z : a = D
    · subst z; exact ⟨h1, o, upd_same, ho⟩
    · exact ⟨h1, o', by rw [upd_ne z]; exact h2, h3⟩
theorem Me.tw (M : Me K fa bs t m H μ) (ht : ∀ a ∈ t', a ∈ t) : Me K fa bs t' m H μ :=
  ⟨M.len, M.low, M.nd, fun i a u h1 h2 => (M.ct i a u h1 h2).tw ht, M.bd, fun a ha => M.tt a (ht a ha)⟩

end
end R

set_option Elab.async false
set_option linter.all false
set_option maxRecDepth 100000
set_option maxHeartbeats 4000000
/-! R2: a small language of my own and its evaluator -/
namespace R
open PySem L2

abbrev Env := List (Option U)
def SZ : Nat := 16777216

inductive Pt where
  | slot (i : Nat)
  | tup (ps : List Pt)
inductive Bo where
  | add | sub | mul | fdiv | mod | pow | shl | shr | band | bor | bxor
inductive Co where
  | eq | ne | lt | le | gt | ge | isin | notin | is_ | isnot
inductive Bi where
  | len | int | abs | all | any | sum | min1 | max1 | min2 | max2
  deriving DecidableEq
/-- what is walked -/
inductive Ik where
  | ex | rng | enm | zip
  deriving DecidableEq
/-- what is collected into -/
inductive Cl where
  | list | tuple | sorted | dict (tk : Bool)
  deriving DecidableEq
inductive Mt where
  | append | pop0 | pop1 | get2 | index | count
  deriving DecidableEq
inductive Ty where
  | int | bool | str | tuple | list | dict
  deriving DecidableEq

inductive E where
  | var (i : Nat)
  | non | bl (b : Bool) | int (i : Int) | str (x : Str)
  | gint (i : Int)
  | fnv (f : Nat)
  | tup (es : List E)
  | lst (al : Bool) (es : List E)
  | dct (al tk : Bool) (es : List E)
  | bin (al : Bool) (op : Bo) (a b : E)
  | neg (a : E)
  | cmp (op : Co) (a b : E)
  | chain (op op' : Co) (a b c : E)
  | bool (and : Bool) (es : List E)
  | not (a : E)
  | ite (c a b : E)
  | idx (a i : E)
  | slc (al : Bool) (a lo hi : E)
  | rev (al : Bool) (a : E)
  | comp (al : Bool) (p : Pt) (ik : Ik) (its : List E) (c e : E) (ws : List Nat)
  | col (al : Bool) (c : Cl) (ik : Ik) (its : List E)
  | call (f : Nat) (es : List E)
  | bi (b : Bi) (es : List E)
  | isi (e : E) (t : Ty)
  | me (al : Bool) (m : Mt) (a : E) (es : List E)
  | itms (a : E)

inductive S where
  | set (i : Nat) (e : E)
  | par (is : List Nat) (es : List E)
  | asg (p : Pt) (e : E)
  | sub (a i e : E)
  | asg2 (a i a' i' e : E)
  | sub2 (a i a' i' e e' : E)
  | ex (e : E)
  | ret (e : E)
  | iff (c : E) (t f : List S)
  | for_ (p : Pt) (ik : Ik) (its : List E) (b : List S)
  | wh (c : E) (b : List S)
  | pass | brk | cont | stuck

/-! ### values -/
def mapO {α β : Type} (f : α → Option β) : List α → Option (List β)
  | [] => some []
  | x :: xs => match f x with
    | some y => match mapO f xs with
      | some ys => some (y :: ys)
      | none => none
    | none => none

mutual
/-- no mutable one within -/
def nomut : U → Bool
  | .ob _ => false
  | .tup xs => nomuts xs
  | .lst xs => nomuts xs
  | .dk _ vs => nomuts vs
  | .dt _ vs => nomuts vs
  | _ => true
def nomuts : List U → Bool
  | [] => true
  | x :: xs => nomut x && nomuts xs
end

/-- data: what == and < see -/
def dat (μ : Mu) : Nat → U → Option PyData
  | _, .non => some .none
  | _, .bl b => some (.bool b)
  | _, .int i => some (.int i)
  | _, .str x => some (.str x)
  | k + 1, .tup xs => match mapO (dat μ k) xs with
    | some ds => some (.tuple ds)
    | none => none
  | k + 1, .lst xs => match mapO (dat μ k) xs with
    | some ds => some (.list ds)
    | none => none
  | k + 1, .ob i => match μ[i]? with
    | some o => dat μ k o
    | none => none
  | _, _ => none

/-- the mutable ones from n on, frozen -/
def frz (n : Nat) (μ : Mu) : Nat → U → Option U
  | k + 1, .tup xs => match mapO (frz n μ k) xs with
    | some ys => some (.tup ys)
    | none => none
  | k + 1, .lst xs => match mapO (frz n μ k) xs with
    | some ys => some (.lst ys)
    | none => none
  | k + 1, .dk ks xs => match mapO (frz n μ k) xs with
    | some ys => some (.dk ks ys)
    | none => none
  | k + 1, .dt ks xs => match mapO (frz n μ k) xs with
    | some ys => some (.dt ks ys)
    | none => none
  | k + 1, .ob i => if i < n then some (.ob i) else match μ[i]? with
    | some (.lst xs) => match mapO (frz n μ k) xs with
      | some ys => some (.lst ys)
      | none => none
    | some (.dk ks xs) => match mapO (frz n μ k) xs with
      | some ys => some (.dk ks ys)
      | none => none
    | some (.dt ks xs) => match mapO (frz n μ k) xs with
      | some ys => some (.dt ks ys)
      | none => none
    | _ => none
  | _, .non => some .non
  | _, .bl b => some (.bl b)
  | _, .int i => some (.int i)
  | _, .str x => some (.str x)
  | _, .fn i => some (.fn i)
  | _, .scr ns => some (.scr ns)
  | _, _ => none

def D0 : Nat := 12

def asL (μ : Mu) : U → Option (List U)
  | .lst xs => some xs
  | .ob i => match μ[i]? with
    | some (.lst xs) => some xs
    | _ => none
  | _ => none
def asS (μ : Mu) : U → Option (List U)
  | .tup xs => some xs
  | u => asL μ u
def asInt : U → Option Int
  | .int i => some i
  | _ => none
def asBl : U → Option Bool
  | .bl b => some b
  | _ => none
def sky : U → Option Key
  | .int i => some (.inl i)
  | .str x => some (.inr x)
  | _ => none
def tky : U → Option (List Key)
  | .tup xs => mapO sky xs
  | _ => none
/-- a look-up -/
def lk {κ : Type} [DecidableEq κ] : List κ → List U → κ → Option U
  | k :: ks, v :: vs, q => if k = q then some v else lk ks vs q
  | _, _, _ => none
def rpl {κ : Type} [DecidableEq κ] : List κ → List U → κ → U → List U
  | k :: ks, v :: vs, q, u => (if k = q then u else v) :: rpl ks vs q u
  | _, _, _, _ => []
def pt {κ : Type} [DecidableEq κ] (ks : List κ) (vs : List U) (q : κ) (u : U) : List U := if q ∈ ks then rpl ks vs q u else vs ++ [u]
def ptk {κ : Type} [DecidableEq κ] (ks : List κ) (q : κ) : List κ := if q ∈ ks then ks else ks ++ [q]
/-- the value itself, or what the mutable one holds -/
def cont (μ : Mu) : U → Option U
  | .ob i => μ[i]?
  | u => some u
/-- none: no dict or a key of the wrong kind -/
def dget (μ : Mu) (d k : U) : Option (Option U) :=
  match cont μ d with
  | some (.dk ks vs) => match sky k with
    | some q => some (lk ks vs q)
    | none => none
  | some (.dt ks vs) => match tky k with
    | some q => some (lk ks vs q)
    | none => none
  | _ => none
def dput (o k v : U) : Option U :=
  match o with
  | .dk ks vs => match sky k with
    | some q => if ks.length < SZ then some (.dk (ptk ks q) (pt ks vs q v)) else none
    | none => none
  | .dt ks vs => match tky k with
    | some q => if ks.length < SZ then some (.dt (ptk ks q) (pt ks vs q v)) else none
    | none => none
  | _ => none

def truth (μ : Mu) : U → Option Bool
  | .non => some false
  | .bl b => some b
  | .int i => some (i != 0)
  | .str x => if x.length ≤ SZ then some ((x.length : Int) != 0) else none
  | .tup xs => some !xs.isEmpty
  | .lst xs => some !xs.isEmpty
  | .ob i => match μ[i]? with
    | some (.lst xs) => some !xs.isEmpty
    | some (.dk ks _) => some !ks.isEmpty
    | _ => none
  | _ => none

def fresh (al : Bool) (u : U) (μ : Mu) : U × Mu := if al then (.ob μ.length, μ ++ [u]) else (u, μ)

def mulOk (i j : Int) : Bool := (decide (-(2 ^ 64) < i) && decide (i < 2 ^ 64)) || (decide (-(2 ^ 64) < j) && decide (j < 2 ^ 64))
def evBin (al : Bool) (μ : Mu) : Bo → U → U → Option (U × Mu)
  | .add, .int i, .int j => some (.int (i + j), μ)
  | .sub, .int i, .int j => some (.int (i - j), μ)
  | .mul, .int i, .int j => if mulOk i j then some (.int (i * j), μ) else none
  | .fdiv, .int i, .int j => if 0 < j ∧ j < 1073741824 then some (.int (i / j), μ) else none
  | .mod, .int i, .int j => if 0 < j then some (.int (i % j), μ) else none
  | .pow, .int i, .int j => if 0 ≤ j ∧ j ≤ 1000000 ∧ i.natAbs < 2 ^ 64 then some (.int (i ^ j.toNat), μ) else none
  | .shl, .int i, .int j => if 0 ≤ j ∧ j ≤ 1000000 ∧ i.natAbs < 2 ^ 64 then some (.int (i * 2 ^ j.toNat), μ) else none
  | .shr, .int i, .int j => if 0 ≤ j then some (.int (i / 2 ^ j.toNat), μ) else none
  | .band, .int i, .int j => some (.int (Builtin.bitAnd i j), μ)
  | .bor, .int i, .int j => some (.int (Builtin.bitOr i j), μ)
  | .bxor, .int i, .int j => some (.int (Builtin.bitXor i j), μ)
  | .add, .str a, .str b => if a.length + b.length ≤ SZ then some (.str (a ++ b), μ) else none
  | .add, .tup xs, .tup ys => if xs.length + ys.length ≤ SZ then some (.tup (xs ++ ys), μ) else none
  | .add, u, v => match asL μ u, asL μ v with
    | some xs, some ys => if xs.length + ys.length ≤ SZ then some (fresh al (.lst (xs ++ ys)) μ) else none
    | _, _ => none
  | .mul, .tup xs, .int k => if -(2 ^ 63) ≤ k ∧ k < 2 ^ 63 ∧ xs.length * k.toNat ≤ SZ then some (.tup (List.replicate k.toNat xs).flatten, μ) else none
  | .mul, u, .int k => match asL μ u with
    | some xs => if -(2 ^ 63) ≤ k ∧ k < 2 ^ 63 ∧ xs.length * k.toNat ≤ SZ then some (fresh al (.lst (List.replicate k.toNat xs).flatten) μ) else none
    | none => none
  | _, _, _ => none

def evEq (μ : Mu) (a b : U) : Option Bool :=
  match dat μ D0 a, dat μ D0 b with
  | some x, some y => some (PyData.eqv x y)
  | _, _ => none
def evIn (μ : Mu) (a b : U) : Option Bool :=
  match cont μ b with
  | some (.dk ks vs) => match dget μ b a with
    | some o => some o.isSome
    | none => none
  | some (.dt ks vs) => match dget μ b a with
    | some o => some o.isSome
    | none => none
  | _ => match dat μ D0 a, dat μ D0 b with
    | some x, some (.tuple ys) => some (ys.any fun y => y.eqv x)
    | some x, some (.list ys) => some (ys.any fun y => y.eqv x)
    | _, _ => none
def evLt (μ : Mu) (a b : U) : Option Bool :=
  match a, b with
  | .int i, .int j => some (decide (i < j))
  | a, b => match dat μ D0 a, dat μ D0 b with
    | some .none, _ => none
    | some x, some y => if PySem.W.alike x y then some (PySem.W.dataLt x y) else none
    | _, _ => none
def isNon : U → Bool
  | .non => true
  | _ => false
def neg? : Option Bool → Option Bool
  | some b => some !b
  | none => none
def evCmp (μ : Mu) : Co → U → U → Option Bool
  | .eq, a, b => evEq μ a b
  | .ne, a, b => neg? (evEq μ a b)
  | .lt, a, b => evLt μ a b
  | .gt, a, b => evLt μ b a
  | .le, a, b => neg? (evLt μ b a)
  | .ge, a, b => neg? (evLt μ a b)
  | .isin, a, b => evIn μ a b
  | .notin, a, b => neg? (evIn μ a b)
  | .is_, a, .non => some (isNon a)
  | .isnot, a, .non => some !isNon a
  | _, _, _ => none

def evIdx (μ : Mu) (a i : U) : Option U :=
  match cont μ a with
  | some (.dk _ _) => (dget μ a i).bind id
  | some (.dt _ _) => (dget μ a i).bind id
  | some (.str x) => match i with
    | .int j => if x.length ≤ SZ then (match L2.atI x.cps.toList j with | some c => some (.str ⟨#[c]⟩) | none => none) else none
    | _ => none
  | some (.tup xs) => match i with
    | .int j => L2.atI xs j
    | _ => none
  | some (.lst xs) => match i with
    | .int j => L2.atI xs j
    | _ => none
  | _ => none
def bnd : U → Option (Option Int)
  | .non => some none
  | .int i => some (some i)
  | _ => none
def cutU (xs : List U) (lo hi : Option Int) : List U := (xs.drop (HT.sIx xs.length 0 lo)).take (HT.sIx xs.length xs.length hi - HT.sIx xs.length 0 lo)
def evSlc (al : Bool) (μ : Mu) (a lo hi : U) : Option (U × Mu) :=
  match bnd lo, bnd hi with
  | some l, some h => match a with
    | .tup xs => some (.tup (cutU xs l h), μ)
    | .str x => if x.length ≤ SZ then some (.str (Txt.slice x l h), μ) else none
    | a => match asL μ a with
      | some xs => some (fresh al (.lst (cutU xs l h)) μ)
      | none => none
  | _, _ => none
def evRev (al : Bool) (μ : Mu) (a : U) : Option (U × Mu) :=
  match a with
  | .tup xs => some (.tup xs.reverse, μ)
  | a => match asL μ a with
    | some xs => some (fresh al (.lst xs.reverse) μ)
    | none => none

def minL : List Int → Option Int
  | [] => none
  | x :: xs => some (xs.foldl (fun a b => if b < a then b else a) x)
def maxL : List Int → Option Int
  | [] => none
  | x :: xs => some (xs.foldl (fun a b => if a < b then b else a) x)
def intL (μ : Mu) (u : U) : Option (List Int) :=
  match asL μ u with
  | some xs => mapO asInt xs
  | none => none
def intT (μ : Mu) (u : U) : Option (List Int) :=
  match asS μ u with
  | some xs => mapO asInt xs
  | none => none
def bls (μ : Mu) (u : U) : Option (List Bool) :=
  match asL μ u with
  | some xs => mapO asBl xs
  | none => none
def evBi (μ : Mu) : Bi → List U → Option U
  | .len, [u] => match cont μ u with
    | some (.str x) => if x.length ≤ SZ then some (.int x.length) else none
    | some (.tup xs) => some (.int xs.length)
    | some (.lst xs) => some (.int xs.length)
    | some (.dk ks _) => some (.int ks.length)
    | some (.dt ks _) => some (.int ks.length)
    | _ => none
  | .int, [.int i] => some (.int i)
  | .int, [.bl b] => some (.int (if b then 1 else 0))
  | .abs, [.int i] => some (.int (if i < 0 then -i else i))
  | .all, [u] => (bls μ u).map fun bs => .bl (bs.all id)
  | .any, [u] => (bls μ u).map fun bs => .bl (bs.any id)
  | .sum, [u] => (intL μ u).map fun ns => .int ns.sum
  | .min1, [u] => ((intT μ u).bind minL).map U.int
  | .max1, [u] => ((intT μ u).bind maxL).map U.int
  | .min2, [.int i, .int j] => some (.int (if j < i then j else i))
  | .max2, [.int i, .int j] => some (.int (if j > i then j else i))
  | _, _ => none
def evIsi (μ : Mu) (u : U) (t : Ty) : Option Bool :=
  match cont μ u with
  | some .non => some false
  | some (.bl _) => some (t = .bool ∨ t = .int)
  | some (.int _) => some (t = .int)
  | some (.str _) => some (t = .str)
  | some (.tup _) => some (t = .tuple)
  | some (.lst _) => some (t = .list)
  | some (.dk _ _) => some (t = .dict)
  | some (.dt _ _) => some (t = .dict)
  | _ => none

/-! ### walks -/
def rgn (a b : Int) : List U := (List.range (b - a).toNat).map fun (k : Nat) => U.int (a + k)
def enum (xs : List U) : List U := ((List.range xs.length).zip xs).map fun p => .tup [.int (p.1 : Nat), p.2]
def zips (xs ys : List U) : List U := (xs.zip ys).map fun p => .tup [p.1, p.2]
/-- the items, or a mutable list that is walked as it stands -/
def walk (μ : Mu) : Ik → List U → Option (List U ⊕ Nat)
  | .ex, [.tup xs] => some (.inl xs)
  | .ex, [.lst xs] => some (.inl xs)
  | .ex, [.str x] => some (.inl (x.cps.toList.map fun c => .str ⟨#[c]⟩))
  | .ex, [.ob i] => match μ[i]? with
    | some (.lst _) => some (.inr i)
    | _ => none
  | .ex, [.scr ns] => some (.inl (ns.map U.int))
  | .rng, [.int b] => if -(2 ^ 62) ≤ b ∧ b < 2 ^ 62 then some (.inl (rgn 0 b)) else none
  | .rng, [.int a, .int b] => if -(2 ^ 62) ≤ a ∧ a < 2 ^ 62 ∧ -(2 ^ 62) ≤ b ∧ b < 2 ^ 62 then some (.inl (rgn a b)) else none
  | .enm, [.lst xs] => some (.inl (enum xs))
  | .enm, [.tup xs] => some (.inl (enum xs))
  | .zip, [.lst xs, .lst ys] => some (.inl (zips xs ys))
  | .zip, [.tup xs, .tup ys] => some (.inl (zips xs ys))
  | _, _ => none

def pairKV : U → Option (U × U)
  | .tup [k, v] => some (k, v)
  | _ => none
def pairUp : List U → Option (List (U × U))
  | [] => some []
  | k :: v :: r => match pairUp r with
    | some ps => some ((k, v) :: ps)
    | none => none
  | _ => none
def mergeU (tk : Bool) : List (U × U) → U → Option U
  | [], o => some o
  | p :: ps, o => match dput o p.1 p.2 with
    | some o' => mergeU tk ps o'
    | none => none
def srtd (μ : Mu) (xs : List U) : Option (List U) :=
  match mapO (dat μ D0) xs with
  | some ds => if ds.all (fun d => ds.all fun e => PySem.W.alike d e) && (ds.all (fun d => match d with | .tuple (_ :: _) => true | _ => false) || ds.all (fun d => match d with | .tuple _ => false | .none => false | _ => true)) && decide (ds.length ≤ SZ)
    then some (((xs.zip ds).mergeSort (PySem.W.dataLe false Prod.snd)).map (·.1)) else none
  | none => none
def keyU : Key → U
  | .inl i => .int i
  | .inr x => .str x
def keysU (k : List Key) : U := .tup (k.map keyU)
/-- list(d.items()) -/
def itmU (μ : Mu) (u : U) : Option (List U) :=
  match cont μ u with
  | some (.dk ks vs) => some ((ks.zip vs).map fun p => .tup [keyU p.1, p.2])
  | _ => none
/-- the items for a collector -/
def items (μ : Mu) (c : Cl) (ik : Ik) (us : List U) : Option (List U) :=
  match c, ik, us with
  | .list, .ex, [.scr ns] => some (ns.map U.int)
  | .tuple, .ex, [.scr ns] => some (ns.map U.int)
  | .dict _, .ex, [u] => asL μ u
  | .tuple, .ex, [u] => asS μ u
  | .list, .rng, [.int b] => if -(2 ^ 62) ≤ b ∧ b ≤ 2 ^ 24 then some (rgn 0 b) else none
  | .tuple, .rng, [.int b] => if -(2 ^ 62) ≤ b ∧ b ≤ 2 ^ 24 then some (rgn 0 b) else none
  | .list, .rng, [.int a, .int b] => if -(2 ^ 62) ≤ a ∧ a < 2 ^ 62 ∧ -(2 ^ 62) ≤ b ∧ b < 2 ^ 62 ∧ (b - a).toNat ≤ 2 ^ 24 then some (rgn a b) else none
  | .tuple, .rng, [.int a, .int b] => if -(2 ^ 62) ≤ a ∧ a < 2 ^ 62 ∧ -(2 ^ 62) ≤ b ∧ b < 2 ^ 62 ∧ (b - a).toNat ≤ 2 ^ 24 then some (rgn a b) else none
  | _, .ex, [u] => match asS μ u with
    | some xs => some xs
    | none => match cont μ u with
      | some (.dk ks _) => some (ks.map keyU)
      | some (.dt ks _) => some (ks.map keysU)
      | _ => none
  | _, _, _ => none
def evCol (al : Bool) (μ : Mu) (c : Cl) (xs : List U) : Option (U × Mu) :=
  match c with
  | .list => some (fresh al (.lst xs) μ)
  | .tuple => some (.tup xs, μ)
  | .sorted => match srtd μ xs with
    | some ys => some (fresh al (.lst ys) μ)
    | none => none
  | .dict false => match mapO pairKV xs with
    | some ps => (match mergeU false ps (.dk [] []) with
      | some o => some (fresh al o μ)
      | none => none)
    | none => none
  | .dict true => match mapO pairKV xs with
    | some ps => (match mergeU true ps (.dt [] []) with
      | some o => some (fresh al o μ)
      | none => none)
    | none => none

mutual
def bindP (μ : Mu) : Pt → U → Env → Option Env
  | .slot i, u, σ => some (σ.set i (some u))
  | .tup ps, .tup us, σ => if ps.length = us.length then bindPs μ ps us σ else none
  | .tup _, _, _ => none
def bindPs (μ : Mu) : List Pt → List U → Env → Option Env
  | [], [], σ => some σ
  | p :: ps, u :: us, σ => match bindP μ p u σ with
    | some σ' => bindPs μ ps us σ'
    | none => none
  | _, _, _ => none
end
def wipeE (σ : Env) : List Nat → Env
  | [] => σ
  | v :: vs => (wipeE σ vs).set v none
/-- a mutable one is written: an elder frame's takes no mutable one -/
def okw (n0 i : Nat) (u : U) : Bool := decide (n0 ≤ i) || nomut u
def evMe (n0 : Nat) (al : Bool) (μ : Mu) : Mt → U → List U → Option (U × Mu)
  | .append, .ob i, [u] => match μ[i]? with
    | some (.lst xs) => if xs.length < SZ ∧ okw n0 i u = true then some (.non, μ.set i (.lst (xs ++ [u]))) else none
    | _ => none
  | .pop0, .ob i, [] => match μ[i]? with
    | some (.lst xs) => match xs[xs.length - 1]? with
      | some u => some (u, μ.set i (.lst xs.dropLast))
      | none => none
    | _ => none
  | .pop1, .ob i, [.int j] => match μ[i]? with
    | some (.lst xs) => if -(2 ^ 63) ≤ j ∧ j < 2 ^ 63 then (match L2.ixN xs.length j with
      | some k => match xs[k]? with
        | some u => some (u, μ.set i (.lst (xs.eraseIdx k)))
        | none => none
      | none => none) else none
    | _ => none
  | .get2, d, [k, x] => match dget μ d k with
    | some o => some (o.getD x, μ)
    | none => none
  | _, _, _ => none

/-- what a method may be asked of -/
def okm (μ : Mu) (m : Mt) (u : U) : Bool :=
  match m with
  | .append | .pop0 | .pop1 | .index | .count => (asL μ u).isSome
  | .get2 => match cont μ u with
    | some (.dk _ _) => true
    | some (.dt _ _) => true
    | _ => false

/-- a comprehension's turns -/
def compL (step : U → Mu → Option (Option U × Mu)) : List U → List U → Mu → Option (List U × Mu)
  | [], acc, μ => some (acc, μ)
  | x :: xs, acc, μ => match step x μ with
    | some (some y, μ') => if acc.length < SZ then compL step xs (acc ++ [y]) μ' else none
    | some (none, μ') => compL step xs acc μ'
    | none => none
/-- over a mutable list as it stands -/
def compV (step : U → Mu → Option (Option U × Mu)) (i : Nat) : Nat → Nat → List U → Mu → Option (List U × Mu)
  | 0, _, _, _ => none
  | f + 1, k, acc, μ => match μ[i]? with
    | some (.lst xs) => match xs[k]? with
      | none => some (acc, μ)
      | some x => match step x μ with
        | some (some y, μ') => if acc.length < SZ then compV step i f (k + 1) (acc ++ [y]) μ' else none
        | some (none, μ') => compV step i f (k + 1) acc μ'
        | none => none
    | _ => none
def FU : Nat := 100000000

variable (cal : Nat → List U → Mu → Option (U × Mu)) (n0 : Nat)
mutual
def evalE : E → Env → Mu → Option (U × Mu)
  | .var i, σ, μ => match σ[i]? with
    | some (some u) => some (u, μ)
    | _ => none
  | .non, _, μ => some (.non, μ)
  | .bl b, _, μ => some (.bl b, μ)
  | .int i, _, μ => some (.int i, μ)
  | .str x, _, μ => some (.str x, μ)
  | .gint i, _, μ => some (.int i, μ)
  | .fnv f, _, μ => some (.fn f, μ)
  | .tup es, σ, μ => match evalL es σ μ with
    | some (us, μ) => if us.length ≤ SZ then some (.tup us, μ) else none
    | none => none
  | .lst al es, σ, μ => match evalL es σ μ with
    | some (us, μ) => if us.length ≤ SZ then some (fresh al (.lst us) μ) else none
    | none => none
  | .dct al tk es, σ, μ => match evalL es σ μ with
    | some (us, μ) => match pairUp us with
      | some ps => if ps.length ≤ 15 then (match mergeU tk ps (if tk then .dt [] [] else .dk [] []) with
        | some o => some (fresh al o μ)
        | none => none) else none
      | none => none
    | none => none
  | .bin al op a b, σ, μ => match evalE a σ μ with
    | some (u, μ) => match evalE b σ μ with
      | some (v, μ) => evBin al μ op u v
      | none => none
    | none => none
  | .neg a, σ, μ => match evalE a σ μ with
    | some (.int i, μ) => some (.int (-i), μ)
    | _ => none
  | .cmp op a b, σ, μ => match evalE a σ μ with
    | some (u, μ) => match evalE b σ μ with
      | some (v, μ) => match evCmp μ op u v with
        | some c => some (.bl c, μ)
        | none => none
      | none => none
    | none => none
  | .chain op op' a b c, σ, μ => match evalE a σ μ with
    | some (u, μ) => match evalE b σ μ with
      | some (v, μ) => match evCmp μ op u v with
        | some false => some (.bl false, μ)
        | some true => match evalE c σ μ with
          | some (w, μ) => match evCmp μ op' v w with
            | some d => some (.bl d, μ)
            | none => none
          | none => none
        | none => none
      | none => none
    | none => none
  | .bool and es, σ, μ => evalB and es σ μ
  | .not a, σ, μ => match evalE a σ μ with
    | some (u, μ) => match truth μ u with
      | some b => some (.bl !b, μ)
      | none => none
    | none => none
  | .ite c a b, σ, μ => match evalE c σ μ with
    | some (u, μ) => match truth μ u with
      | some true => evalE a σ μ
      | some false => evalE b σ μ
      | none => none
    | none => none
  | .idx a i, σ, μ => match evalE a σ μ with
    | some (u, μ) => match evalE i σ μ with
      | some (v, μ) => match evIdx μ u v with
        | some w => some (w, μ)
        | none => none
      | none => none
    | none => none
  | .slc al a lo hi, σ, μ => match evalE a σ μ with
    | some (u, μ) => match evalE lo σ μ with
      | some (l, μ) => match evalE hi σ μ with
        | some (h, μ) => evSlc al μ u l h
        | none => none
      | none => none
    | none => none
  | .rev al a, σ, μ => match evalE a σ μ with
    | some (u, μ) => evRev al μ u
    | none => none
  | .comp al p ik its c e ws, σ, μ => match evalL its σ μ with
    | some (us, μ) => match walk μ ik us with
      | some (.inl xs) => match compL (fun x μ => match bindP μ p x (wipeE σ ws) with
          | some σ' => match evalE c σ' μ with
            | some (t, μ) => match truth μ t with
              | some true => match evalE e σ' μ with
                | some (y, μ) => some (some y, μ)
                | none => none
              | some false => some (none, μ)
              | none => none
            | none => none
          | none => none) xs [] μ with
        | some (ys, μ) => some (fresh al (.lst ys) μ)
        | none => none
      | some (.inr i) => match compV (fun x μ => match bindP μ p x (wipeE σ ws) with
          | some σ' => match evalE c σ' μ with
            | some (t, μ) => match truth μ t with
              | some true => match evalE e σ' μ with
                | some (y, μ) => some (some y, μ)
                | none => none
              | some false => some (none, μ)
              | none => none
            | none => none
          | none => none) i FU 0 [] μ with
        | some (ys, μ) => some (fresh al (.lst ys) μ)
        | none => none
      | none => none
    | none => none
  | .col al c ik its, σ, μ => match evalL its σ μ with
    | some (us, μ) => match items μ c ik us with
      | some xs => evCol al μ c xs
      | none => none
    | none => none
  | .call f es, σ, μ => match evalL es σ μ with
    | some (us, μ) => cal f us μ
    | none => none
  | .bi b es, σ, μ => match evalL es σ μ with
    | some (us, μ) => match evBi μ b us with
      | some u => some (u, μ)
      | none => none
    | none => none
  | .isi e t, σ, μ => match evalE e σ μ with
    | some (u, μ) => match evIsi μ u t with
      | some b => some (.bl b, μ)
      | none => none
    | none => none
  | .me al m a es, σ, μ => match evalE a σ μ with
    | some (u, μ) => match okm μ m u with
      | true => match evalL es σ μ with
        | some (us, μ) => evMe n0 al μ m u us
        | none => none
      | false => none
    | none => none
  | .itms a, σ, μ => match evalE a σ μ with
    | some (u, μ) => match itmU μ u with
      | some xs => some (.lst xs, μ)
      | none => none
    | none => none
def evalL : List E → Env → Mu → Option (List U × Mu)
  | [], _, μ => some ([], μ)
  | e :: es, σ, μ => match evalE e σ μ with
    | some (u, μ) => match evalL es σ μ with
      | some (us, μ) => some (u :: us, μ)
      | none => none
    | none => none
def evalB (and : Bool) : List E → Env → Mu → Option (U × Mu)
  | [], _, _ => none
  | [e], σ, μ => evalE e σ μ
  | e :: e2 :: es, σ, μ => match evalE e σ μ with
    | some (u, μ) => match truth μ u with
      | some b => if b = and then evalB and (e2 :: es) σ μ else some (u, μ)
      | none => none
    | none => none
end

inductive Out where
  | nx (σ : Env) (μ : Mu) | rt (u : U) (μ : Mu) | bk (σ : Env) (μ : Mu) | ct (σ : Env) (μ : Mu)

def forL (step : U → Env → Mu → Option Out) : List U → Env → Mu → Option Out
  | [], σ, μ => some (.nx σ μ)
  | x :: xs, σ, μ => match step x σ μ with
    | some (.nx σ μ) => forL step xs σ μ
    | some (.ct σ μ) => forL step xs σ μ
    | some (.bk σ μ) => some (.nx σ μ)
    | o => o
def forV (step : U → Env → Mu → Option Out) (i : Nat) : Nat → Nat → Env → Mu → Option Out
  | 0, _, _, _ => none
  | f + 1, k, σ, μ => match μ[i]? with
    | some (.lst xs) => match xs[k]? with
      | none => some (.nx σ μ)
      | some x => match step x σ μ with
        | some (.nx σ μ) => forV step i f (k + 1) σ μ
        | some (.ct σ μ) => forV step i f (k + 1) σ μ
        | some (.bk σ μ) => some (.nx σ μ)
        | o => o
    | _ => none
def whL (cond : Env → Mu → Option (Bool × Mu)) (body : Env → Mu → Option Out) : Nat → Env → Mu → Option Out
  | 0, _, _ => none
  | f + 1, σ, μ => match cond σ μ with
    | some (true, μ) => match body σ μ with
      | some (.nx σ μ) => whL cond body f σ μ
      | some (.ct σ μ) => whL cond body f σ μ
      | some (.bk σ μ) => some (.nx σ μ)
      | o => o
    | some (false, μ) => some (.nx σ μ)
    | none => none
def storeSub (n0 : Nat) (μ : Mu) (a i u : U) : Option Mu :=
  match a with
  | .ob k => match μ[k]? with
    | some (.lst xs) => match i with
      | .int j => match L2.ixN xs.length j with
        | some q => if okw n0 k u then some (μ.set k (.lst (xs.set q u))) else none
        | none => none
      | _ => none
    | some o => match dput o i u with
      | some o' => if okw n0 k u then some (μ.set k o') else none
      | none => none
    | none => none
  | _ => none
/-- a[i] = u -/
def storeTo (a i : E) (u : U) (σ : Env) (μ : Mu) : Option Mu := match evalE cal n0 a σ μ with
  | some (d, μ) => match evalE cal n0 i σ μ with
    | some (j, μ) => storeSub n0 μ d j u
    | none => none
  | none => none
def bindI : List Nat → List U → Env → Option Env
  | [], [], σ => some σ
  | i :: is, u :: us, σ => bindI is us (σ.set i (some u))
  | _, _, _ => none

mutual
def exS : S → Env → Mu → Option Out
  | .set i e, σ, μ => match evalE cal n0 e σ μ with
    | some (u, μ) => some (.nx (σ.set i (some u)) μ)
    | none => none
  | .par is es, σ, μ => match evalL cal n0 es σ μ with
    | some (us, μ) => match bindI is us σ with
      | some σ => some (.nx σ μ)
      | none => none
    | none => none
  | .asg p e, σ, μ => match evalE cal n0 e σ μ with
    | some (u, μ) => match bindP μ p u σ with
      | some σ => some (.nx σ μ)
      | none => none
    | none => none
  | .sub a i e, σ, μ => match evalE cal n0 e σ μ with
    | some (u, μ) => match evalE cal n0 a σ μ with
      | some (d, μ) => match evalE cal n0 i σ μ with
        | some (j, μ) => match storeSub n0 μ d j u with
          | some μ => some (.nx σ μ)
          | none => none
        | none => none
      | none => none
    | none => none
  | .asg2 a i a' i' e, σ, μ => match evalE cal n0 e σ μ with
    | some (u, μ) => match storeTo cal n0 a i u σ μ with
      | some μ => match storeTo cal n0 a' i' u σ μ with
        | some μ => some (.nx σ μ)
        | none => none
      | none => none
    | none => none
  | .sub2 a i a' i' e e', σ, μ => match evalE cal n0 e σ μ with
    | some (u, μ) => match evalE cal n0 e' σ μ with
      | some (u', μ) => match storeTo cal n0 a i u σ μ with
        | some μ => match storeTo cal n0 a' i' u' σ μ with
          | some μ => some (.nx σ μ)
          | none => none
        | none => none
      | none => none
    | none => none
  | .ex e, σ, μ => match evalE cal n0 e σ μ with
    | some (_, μ) => some (.nx σ μ)
    | none => none
  | .ret e, σ, μ => match evalE cal n0 e σ μ with
    | some (u, μ) => some (.rt u μ)
    | none => none
  | .iff c t f, σ, μ => match evalE cal n0 c σ μ with
    | some (u, μ) => match truth μ u with
      | some true => exL t σ μ
      | some false => exL f σ μ
      | none => none
    | none => none
  | .for_ p ik its b, σ, μ => match evalL cal n0 its σ μ with
    | some (us, μ) => match walk μ ik us with
      | some (.inl xs) => forL (fun x σ μ => match bindP μ p x σ with
        | some σ => exL b σ μ
        | none => none) xs σ μ
      | some (.inr i) => forV (fun x σ μ => match bindP μ p x σ with
        | some σ => exL b σ μ
        | none => none) i FU 0 σ μ
      | none => none
    | none => none
  | .wh c b, σ, μ => whL (fun σ μ => match evalE cal n0 c σ μ with
      | some (u, μ) => match truth μ u with
        | some t => some (t, μ)
        | none => none
      | none => none) (fun σ μ => exL b σ μ) FU σ μ
  | .pass, σ, μ => some (.nx σ μ)
  | .brk, σ, μ => some (.bk σ μ)
  | .cont, σ, μ => some (.ct σ μ)
  | .stuck, _, _ => none
def exL : List S → Env → Mu → Option Out
  | [], σ, μ => some (.nx σ μ)
  | s :: ss, σ, μ => match exS s σ μ with
    | some (.nx σ μ) => exL ss σ μ
    | o => o
end

/-- a def: the number of its parameters, of its slots, its body, whether what it hands back stays mutable -/
structure Df where
  ps : Nat
  ns : Nat
  body : List S
  keep : Bool
def finish (keep : Bool) (n0 : Nat) (u : U) (μ : Mu) : Option (U × Mu) :=
  if keep then some (u, μ) else match frz n0 μ D0 u with
    | some v => some (v, μ.take n0)
    | none => none
def runF (defs : List Df) : Nat → Nat → List U → Mu → Option (U × Mu)
  | 0, _, _, _ => none
  | k + 1, f, us, μ => match defs[f]? with
    | some d => if us.length = d.ps then (match exL (runF defs k) μ.length d.body (us.map some ++ List.replicate (d.ns - d.ps) none) μ with
      | some (.rt u μ') => finish d.keep μ.length u μ'
      | some (.nx _ μ') => finish d.keep μ.length .non μ'
      | _ => none) else none
    | none => none
end R

set_option Elab.async false
set_option linter.all false
set_option maxRecDepth 100000
set_option maxHeartbeats 4000000
/-! R3v: a tuple turned over, enumerate over a tuple -/
namespace R
open PySem PySem.Spec PyProof.Rows L2

section
variable {prog : Program} {w : World} {A : Around} {E : Value → Shared → Prop} {s : Shared}
theorem places_back (n : Nat) : Builtin.Slice.slicePlaces ((n : Int) - 1) (-1) (-1) = n := by
  unfold Builtin.Slice.slicePlaces
  rw [if_neg (by decide)]
  split
  · rw [show (- -1 : Int) = 1 from rfl, Int.ediv_one]; omega
  · omega
theorem adjust_back (n : Nat) : Builtin.Slice.sliceAdjust none none (-1) (n : Int) = ((n : Int) - 1, -1) := rfl
theorem applied_back {sl : Addr} {vl vu vs : Value} {n : Nat} {Q : Int × Int × Nat → Shared → Prop} (hs : s.heap.IsSliceOf sl vl vu vs) (pl : IsPart vl none) (pu : IsPart vu none) (ps : IsPart vs (some (-1)))
    (h : Q ((n : Int) - 1, -1, n) s) : wpAny (model prog w) A (Builtin.Slice.sliceApplied (.ref sl) (pure (n : Int))) Q E s := by
  obtain ⟨ob, hob, hco, hda⟩ := id hs
  unfold Builtin.Slice.sliceApplied Builtin.Slice.sliceFields
  refine wpAny_bind (wpAny_bind (wpAny_field hob hda (x := vl) rfl (wpAny_bind (wpAny_field hob hda (x := vu) rfl (wpAny_bind (wpAny_field hob hda (x := vs) rfl (wpAny_pure ?_)))))))
  refine wpAny_bind (HT.slicePart_ ps ?_)
  show wpAny _ _ (if ((-1 : Int) == 0) = true then _ else _) _ _ s
  rw [if_neg (by decide)]
  refine wpAny_bind (HT.slicePart_ pl (wpAny_bind (HT.slicePart_ pu (wpAny_bind (wpAny_pure ?_)))))
  show wpAny _ _ (pure ((n : Int) - 1, (-1 : Int), Builtin.Slice.slicePlaces ((n : Int) - 1) (-1) (-1))) _ _ s
  rw [places_back]
  exact wpAny_pure h
theorem fm_congr {α β : Type} {f g : α → Option β} : ∀ (l : List α), (∀ k ∈ l, f k = g k) → l.filterMap f = l.filterMap g
  | [], _ => rfl
  | a :: l, h => by
    rw [List.filterMap_cons, List.filterMap_cons, h a (by simp), fm_congr l fun k hk => h k (by simp [hk])]
theorem pick_back (xs : Array Value) : ((List.range xs.size).filterMap fun (k : Nat) => xs[((xs.size : Int) - 1 + (k : Int) * (-1)).toNat]?).toArray = xs.toList.reverse.toArray := by
  have e : (List.range xs.size).filterMap (fun (k : Nat) => xs[((xs.size : Int) - 1 + (k : Int) * (-1)).toNat]?) = ((List.range xs.size).map (fun k => xs.size - 1 - k)).filterMap (xs[·]?) := by
    rw [List.filterMap_map]
    refine fm_congr _ fun k hk => ?_
    have h1 := List.mem_range.mp hk
    have h2 : ((xs.size : Int) - 1 + (k : Int) * (-1)).toNat = xs.size - 1 - k := by omega
    rw [h2]; rfl
  rw [e, PySem.W.krv_range, List.filterMap_reverse, PySem.W.krv_all]
theorem getItem_tuple_back {t sl : Addr} {items : Array Value} {vl vu vs : Value} {Q : Value → Shared → Prop} (ht : IsTup s.heap t items) (hs : s.heap.IsSliceOf sl vl vu vs) (pl : IsPart vl none) (pu : IsPart vu none) (ps : IsPart vs (some (-1)))
    (h : Q (.ref s.heap.objs.size) { s with heap := s.heap.push { cls := .type "tuple", data := .seq items.toList.reverse.toArray } }) (hsz : items.size ≤ sizeLine) : wpAny (model prog w) A (getItem (.ref t) (.ref sl)) Q E s := by
  have hok : sizeOk (.seq items.toList.reverse.toArray) := by
    show items.toList.reverse.toArray.size ≤ sizeLine
    rw [List.size_toArray, List.length_reverse, Array.length_toList]; exact hsz
  obtain ⟨ob, hob, hco, hda⟩ := id hs
  have hty : s.TypeIs (.ref sl) "slice" := ⟨ob, hob, hco⟩
  unfold getItem
  first
    | (with_reducible refine wpAny_holding ?_)
    | skip
  first
    | (refine wpAny_bind (wpAny_pure ?_))
    | skip
  refine wpAny_bind (wpAny_sequenceKey ht.typeIs (by decide) ?_)
  refine wpAny_bind (wpAny_callSpecial?_slot (name := Str.ofString "__getitem__") ht.typeIs PyProof.Rows.slot_tuple_getitem (wpAny_call_entry PyProof.Rows.slot_tuple_getitem ht.typeIs entry_tuple_getitem ?_ (args_tuple_getitem _ _)))
  show wpAny _ _ (Builtin.Tuple.tupleItemsOf (.ref t) >>= _) _ _ s
  refine wpAny_bind (tupleItemsOf_ ht (wpAny_bind (wpAny_typeOf hty ?_)))
  rw [if_pos (by decide)]
  refine wpAny_bind (applied_back hs pl pu ps ?_)
  have hno : ¬ ((((items.size : Int) - 1) == 0 && (-1 : Int) == 1 && items.size == items.size) = true) := by
    rw [Bool.and_eq_true, Bool.and_eq_true]; rintro ⟨⟨_, z⟩, _⟩; cases z
  show wpAny _ _ (if (((items.size : Int) - 1) == 0 && (-1 : Int) == 1 && items.size == items.size) = true then _ else _) _ _ s
  rw [if_neg hno, pick_back]
  first
    | exact wpAny_bind (m := Builtin.Tuple.tupleExact _) (wpAny_newObj_type (wpAny_pure ⟨_, rfl, wpAny_pure h⟩) hok)
    | exact wpAny_bind (m := Builtin.Tuple.tupleExact _) (wpAny_newObj_type (wpAny_bind (wpAny_pure (wpAny_pure ⟨_, rfl, wpAny_pure h⟩))) hok)
    | exact wpAny_bind (wpAny_bind (m := Builtin.Tuple.tupleExact _) (wpAny_newObj_type (wpAny_pure (wpAny_pure ⟨_, rfl, wpAny_pure h⟩)) hok))
    | exact wpAny_bind (wpAny_bind (m := Builtin.Tuple.tupleExact _) (wpAny_newObj_type (wpAny_pure ⟨_, rfl, wpAny_pure h⟩) hok))
end
/-- xs[::-1], a list or a tuple -/
def tRevA (K : PySem.W.Frag) (te : TE) : TE := fun σ H Q => te σ H fun x H1 => ∃ (a : Addr) (xs : List V), x = .ref a ∧ ((SqL K H1 a xs ∧ ∀ p, H1 p = none → Q (.ref p) (upd H1 p (.lst xs.reverse))) ∨ (SqT K H1 a xs ∧ ∀ p, H1 p = none → Q (.ref p) (upd H1 p (.tup xs.reverse))))
theorem pe_revA {X : Cx} {e : Expr} {te : TE} {k : Nat} {p1 p2 p3 pos : Pos} (he : PE X e te) : PE X (.Subscript e (.Slice none none (some (.UnaryOp .USub (.Constant (.int 1) k p1) p2)) p3) pos) (tRevA X.K te) := by
  refine ⟨fun pins s σ H Q I h => Subscript_ (thn (he.run pins s σ H _ I h) fun v s1 ⟨x, H1, I1, r1, a, xs, ex, q1⟩ => ?_)⟩
  subst ex
  cases r1
  have hst : PO X (some (.UnaryOp .USub (.Constant (.int 1) k p1) p2)) (tPart (tUn (rU fun i => .int (-i)) (tC (.int 1)))) := po_some (pe_un un_neg pe_int)
  refine wpAny_Slice (thn (po_none.run pins s1 σ H1 (fun o H2 => o = none ∧ H2 = H1) I1 ⟨rfl, rfl⟩) fun vl s2 ⟨l, H2, I2, pl, eo1, eh1⟩ => ?_)
  subst eo1 eh1
  refine thn (po_none.run pins s2 σ H2 (fun o H3 => o = none ∧ H3 = H2) I2 ⟨rfl, rfl⟩) fun vu s3 ⟨u, H3, I3, pu, eo2, eh2⟩ => ?_
  subst eo2 eh2
  refine thn (hst.run pins s3 σ H3 (fun o H4 => o = some (-1) ∧ H4 = H3) I3 ⟨1, rfl, -1, rfl, rfl, rfl⟩) fun vs s4 ⟨o, H4, I4, ps, eo3, eh3⟩ => ?_
  subst eo3 eh3
  have J : Inv X pins σ H4 { s4 with heap := s4.heap.push { cls := .type "slice", data := .fields #[vl, vu, vs] } } := I4.kept (t' := s4.toks) fun _ _ z => Heap.get?_push_of_some _ z
  show wpAny (model X.prog X.w) X.A (subscriptTail e (.Slice none none (some (.UnaryOp .USub (.Constant (.int 1) k p1) p2)) p3) (.ref a) (.ref s4.heap.objs.size)) (EP X pins σ Q) X.xe { s4 with heap := s4.heap.push { cls := .type "slice", data := .fields #[vl, vu, vs] } }
  rcases q1 with ⟨hx, q⟩ | ⟨hx, q⟩
  · obtain ⟨its, r, ht, hz⟩ := J.list hx
    have hln := r.length
    refine tail_any (ops := [.ref a, .ref s4.heap.objs.size]) ht.isList.typeIs (PySem.slot_list_getitem.lookup) ?_ (by with_unfolding_all rfl)
    refine wpAny_getItem_list_slice ht.isList (Heap.IsSliceOf.new _ vl vu vs) pl pu ps (by decide) ?_ (by rw [List.size_toArray]; omega)
    rw [PySem.W.krv_pick]
    refine ⟨.ref _, _, J.laid (t' := s4.toks) (o := .lst xs.reverse) (fun _ _ z => Heap.get?_push_of_some _ z) (Nat.le_refl _) ?_, rfl, q _ (J.hok.fresh (Nat.le_refl _))⟩
    exact ⟨by rw [List.length_reverse]; exact hz, _, 0, r.reverse, Heap.get?_push_size _ rfl⟩
  · obtain ⟨its, r, ht, hz⟩ := J.tuple hx
    have hln := r.length
    refine tail_any (ops := [.ref a, .ref s4.heap.objs.size]) ht.typeIs PyProof.Rows.slot_tuple_getitem.lookup ?_ (by with_unfolding_all rfl)
    refine getItem_tuple_back ht (Heap.IsSliceOf.new _ vl vu vs) pl pu ps ?_ (by rw [List.size_toArray]; omega)
    refine ⟨.ref _, _, J.laid (t' := s4.toks) (o := .tup xs.reverse) (fun _ _ z => Heap.get?_push_of_some _ z) (Nat.le_refl _) ?_, rfl, q _ (J.hok.fresh (Nat.le_refl _))⟩
    exact ⟨by rw [List.length_reverse]; exact hz, _, r.reverse, IsTup.new _ _⟩

/-! ### enumerate over a tuple -/
set_option maxHeartbeats 1000000 in
theorem meets_enum1 {v : Value} {o : Obj} {H : Heap → Prop} (B : Begins v o H) :
    Meets (Builtin.«enumerate.__new__» ⟨[.type "enumerate", v], []⟩) (fun _ R s => H s.heap ∧
      R (.ok (.ret (.ref (s.heap.push o).objs.size))) { s with heap := (s.heap.push o).push { cls := .type "enumerate", data := .fields #[.none, .bool false, .ref s.heap.objs.size, rawInt 0, .none, .none] } }) :=
  .of_wp fun prog w A R s h => by
    obtain ⟨hp, g, d, tk, os⟩ := s
    obtain ⟨h1, h⟩ := h
    have hsub := sub_enumerate
    have q1 : ∀ {A' : Around} {E : Value → Shared → Prop} {Q : Value → Shared → Prop}, Q (.ref hp.objs.size) ⟨hp.push o, g, d, tk, os⟩ → wpAny (model prog w) A' (pyIter v) Q E ⟨hp, g, d, tk, os⟩ := fun q => B.iter prog w _ _ ⟨hp, g, d, tk, os⟩ _ h1 q
    wp_walk using q1
    refine wpAny_stack_any fun st => wpAny_pure ?_
    split
    · rename_i c _ _ _ _ _
      cases (c == Value.type "enumerate") <;> (wp_walk using q1; exact ⟨_, rfl, h⟩)
    · wp_walk using q1
      exact ⟨_, rfl, h⟩
section
variable {prog : Program} {w : World} {A : Around} {E : Value → Shared → Prop} {s : Shared}
theorem enum1_begins {v : Value} {o : Obj} {H : Heap → Prop} {Q : Value → Shared → Prop} (B : Begins v o H) (h1 : H s.heap)
    (h : ∀ h', IsEnum h' (s.heap.objs.size + 1) s.heap.objs.size 0 .none → h'.get? s.heap.objs.size = some o → (∀ b o, s.heap.get? b = some o → h'.get? b = some o) → Q (.ref (s.heap.objs.size + 1)) { s with heap := h' }) :
    wpAny (model prog w) A (call (.type "enumerate") [v]) Q E s := by
  refine callType_new F.called_enumerate (by decide) (F.typeCall_enumerate_1 _) (F.newCall_enumerate_1 _) (fun obj => F.args_object_init_2 obj _) F.entry_enumerate_new (meets_enum1 B) ⟨h1, ?_⟩
  have hz : (s.heap.push o).objs.size = s.heap.objs.size + 1 := Heap.size_push ..
  show _ ∧ _
  rw [hz]
  have he : IsEnum ((s.heap.push o).push { cls := .type "enumerate", data := .fields #[.none, .bool false, .ref s.heap.objs.size, rawInt 0, .none, .none] }) (s.heap.objs.size + 1) s.heap.objs.size 0 .none := by
    have z := Heap.get?_push_size (s.heap.push o) (o := { cls := .type "enumerate", data := .fields #[.none, .bool false, .ref s.heap.objs.size, rawInt 0, .none, .none] }) rfl
    rw [hz] at z
    exact z
  exact ⟨⟨_, he, rfl⟩, h _ he (Heap.get?_push_of_some _ (Heap.get?_push_size _ B.free)) fun _ _ z => Heap.get?_push_of_some _ (Heap.get?_push_of_some _ z)⟩
theorem enum_endT {e it t : Addr} {i : Nat} {c : Int} {items : Array Value} {old : Value} {Q : Option Value → Shared → Prop} (hh : A.handled = none) (he : IsEnum s.heap e it c old) (hit : s.heap.IsTupleIter it t i) (ht : s.heap.IsTuple t items) (hx : items[i]? = none)
    (hQ : ∀ h', Heap.ExtBut it s.heap h' → Q none { s with heap := h' }) : wpAny (model prog w) A (pyNext (.ref e)) Q E s := by
  have hty : s.TypeIs (.ref e) "enumerate" := ⟨_, he, rfl⟩
  unfold pyNext
  refine wpAny_bind (wpAny_attempt (wpAny_callSpecial?_slot (name := Str.ofString "__next__") hty F.slot_enumerate_next (wpAny_call_entry F.slot_enumerate_next hty F.entry_enumerate_next ?_ (F.args_enumerate_next_1 _))))
  show wpAny _ _ (field (.ref e) 2 >>= _) _ _ _
  refine wpAny_bind (wpAny_field he rfl (x := .ref it) rfl (wpAny_bind (wpAny_nextOf_tuple_end hh hit ht hx fun h' x he' hx' => ?_)))
  obtain ⟨ob, hob, hco⟩ := hx'
  exact wpAny_bind (wpAny_isInstance (T := "StopIteration") (b := true) ⟨ob, hob, hco⟩ isSubtype_stop (wpAny_pure (hQ _ he')))
end
/-- the tuple at a, the items in new pairs -/
def IteT (K : PySem.W.Frag) (a : Addr) : It :=
  ⟨fun i H => ∃ (xs : List V) (x : V), SqT K H a xs ∧ xs[i]? = some x,
    fun i H v H' => ∃ T x, v = .ref T ∧ H T = none ∧ H' = upd H T (.tup [.int (i : Nat), x]) ∧ ∀ xs, SqT K H a xs → xs[i]? = some x,
    fun i H => ∃ xs : List V, SqT K H a xs ∧ xs.length ≤ i⟩
theorem turn_enumT {P : Program} {w : World} {K : PySem.W.Frag} {elts : List Expr} {kk : Nat} {tpos : Pos} (a e it : Addr) :
    Turn P w K (.Tuple elts kk tpos) (IteT K a) [e, it] e (fun i h => (∃ old, IsEnum h e it ((i : Nat) : Int) old) ∧ h.IsTupleIter it a i ∧ e ≠ it) where
  mem := by simp
  obj := fun i h st b hb => by
    obtain ⟨⟨old, he⟩, ⟨o, ho, hc, hd⟩, _⟩ := st
    rcases (by simpa using hb : b = e ∨ b = it) with z | z
    · rw [z]; exact ⟨_, he, fun v q => nomatch q⟩
    · rw [z]; exact ⟨o, ho, fun v q => by rw [hd] at q; cases q⟩
  keep := fun i h h' st k => let ⟨⟨old, he⟩, hi, hne⟩ := st; ⟨⟨old, k e (by simp) _ he⟩, hi.at fun o q => k it (by simp) o q, hne⟩
  item := by
    intro X hP hw hK hc i pins s σ H E I hf st hg
    subst hP hw hK
    obtain ⟨⟨old, he⟩, hit, hne⟩ := st
    obtain ⟨xs, x, hq, hx⟩ := hg
    obtain ⟨its, rv, p, hz⟩ := I.tuple hq
    obtain ⟨u, hu, ru⟩ := rv.get hx
    have hel : e < s.heap.objs.size := Heap.lt_size he
    have hil : it < s.heap.objs.size := by obtain ⟨_, q, _⟩ := hit; exact Heap.lt_size q
    have hai : a ≠ it := fun z => by
      obtain ⟨o1, q1, q2, _⟩ := hit
      obtain ⟨o2, q3, q4, _⟩ := p
      rw [z, q1] at q3
      cases q3
      rw [q2] at q4
      injection q4 with z2
      exact absurd z2 (by decide)
    have hea : e ∉ [it, a] := fun z => by
      rcases (by simpa using z : e = it ∨ e = a) with z | z
      · exact hne z
      · obtain ⟨o2, q3, q4, _⟩ := p
        rw [← z, show s.heap.get? e = _ from he] at q3
        cases q3
        injection q4 with z2
        exact absurd z2 (by decide)
    have hi : i < its.toArray.size := by
      rw [List.size_toArray]
      exact (List.getElem?_eq_some_iff.mp hu).1
    refine wpAny_pyNext_enum_itemC (Draws.tuple (A := X.A.in1) (I.ok.hd hc) it a hai its.toArray) he (i := i) ⟨hit, p⟩ hi hne hea fun x' h' tk hP ho hst hT hsz hk => ?_
    have ex : x' = u := by
      have hP' : its[i]? = some x' := by simpa using hP
      rw [hu] at hP'
      exact (Option.some.inj hP').symm
    subst ex
    refine ⟨_, rfl, wpAny_letOwnedTupleGo_enum (s := { s with heap := h', toks := tk + 1 }) ho fun h'' he' sb => ?_⟩
    have hT2 : h''.get? s.heap.objs.size = some { cls := .type "tuple", data := .seq #[.int i tk, x'] } := (sb.2 _ (Nat.ne_of_gt hel)).trans hT
    have new : ObjOk X.prog X.w (upd H s.heap.objs.size (.tup [.int (i : Nat), x])) h'' s.heap.objs.size (.tup [.int (i : Nat), x]) := ⟨by show 2 ≤ sizeLine; decide, [.int i tk, x'], .cons ⟨_, rfl⟩ (.cons ru .nil), ⟨_, hT2, rfl, _, rfl⟩⟩
    have I1 : Inv X pins σ (upd H s.heap.objs.size (.tup [.int (i : Nat), x])) { s with heap := h'', toks := tk + 1 } :=
      I.turnedNew (ch := [e, it]) (fun b ob hb q => (sb.2 b (fun z => hb (by simp [z]))).trans (hk b ob (fun z => hb (by simp [z])) (fun z => hb (by simp [z])) q)) hf (Nat.le_refl _) new
    refine ⟨.ref s.heap.objs.size, _, I1, rfl, ⟨_, x, rfl, I.hok.fresh (Nat.le_refl _), rfl, fun ys hy => by rw [I.tuple_inj hy hq]; exact hx⟩, ⟨⟨x', ?_⟩, hst.1.at fun o q => (sb.2 it (Ne.symm hne)).trans q, hne⟩, fun b hb => ?_⟩
    · rw [show ((i + 1 : Nat) : Int) = (i : Int) + 1 by omega]
      exact he'
    · have hb' : b < s.heap.objs.size := by
        rcases (by simpa using hb : b = e ∨ b = it) with z | z
        · rw [z]; exact hel
        · rw [z]; exact hil
      rw [upd_ne (Nat.ne_of_lt hb')]
      exact (hf b hb).1
  done := by
    intro X hP hw hK hc i pins s σ H E I hf st hg
    subst hP hw hK
    obtain ⟨⟨old, he⟩, hit, hne⟩ := st
    obtain ⟨xs, hq, hx⟩ := hg
    obtain ⟨its, rv, p, hz⟩ := I.tuple hq
    obtain ⟨f0, f1, f2, f3, f4, f5⟩ := hf it (by simp)
    have hai : a ≠ it := fun z => by
      obtain ⟨o1, q1, q2, _⟩ := hit
      obtain ⟨o2, q3, q4, _⟩ := p
      rw [z, q1] at q3
      cases q3
      rw [q2] at q4
      injection q4 with z2
      exact absurd z2 (by decide)
    have hl := rv.length
    exact enum_endT (I.ok.hd hc) he hit p (by simp; omega) fun h' eb => ⟨rfl, I.turned (t' := s.toks) (fun b o hb q => eb b o hb q) f0 f1 f3 f4 f5⟩
  self := fun A i s Q E st h => let ⟨⟨_, he⟩, _⟩ := st; wpAny_pyIter_enum he h
def iEnumA (K : PySem.W.Frag) (ta : TA) : TI := fun σ H R => ta σ H fun vs H1 => ∃ (a : Addr) (xs : List V), vs = [.ref a] ∧ ((SqL K H1 a xs ∧ R (Ite K a) H1) ∨ (SqT K H1 a xs ∧ R (IteT K a) H1))
theorem pi_enumA {X : Cx} {e : Expr} {ta : TA} {p pos tpos : Pos} {elts : List Expr} {kk : Nat} (hg : Gl X "enumerate") (hm : X.mg "enumerate" = none) (ha : PA X [e] ta) (hs : starEach [e] X.env = [(false, eval e X.env)] := by rfl) :
    PI X (.Tuple elts kk tpos) (.Call (.Name "enumerate" p) [e] [] pos) (iEnumA X.K ta) := by
  refine ⟨fun pins s σ H R I h => Call_ (ld_blt I hg hm boot_enumerate (PyProof.Rows.callWith_type1 (thn (ha.run pos pins s σ H _ I h) fun us s1 ⟨vs, H1, I1, r1, a, xs, ex, q1⟩ => ?_) hs rfl))⟩
  subst ex
  have new : ∀ b ∈ [s1.heap.objs.size + 1, s1.heap.objs.size], FpOk X pins H1 b := fun b hb => by
    have hle : s1.heap.objs.size ≤ b := by
      rcases (by simpa using hb : b = s1.heap.objs.size + 1 ∨ b = s1.heap.objs.size) with z | z
      · rw [z]; exact Nat.le_add_right _ _
      · rw [z]; exact Nat.le_refl _
    exact I1.fpOk hle (I1.hok.fresh hle)
  cases r1 with
  | cons r rr =>
    cases rr
    cases r
    rcases q1 with ⟨hq, q⟩ | ⟨hq, q⟩
    · obtain ⟨its, rv, p', hz⟩ := I1.list hq
      refine call_enumerate_list p'.isList fun h' he hit hsz hk => wpAny_pyIter_enum he ?_
      exact ⟨s1.heap.objs.size + 1, [s1.heap.objs.size + 1, s1.heap.objs.size], _, _, H1, rfl, I1.kept (t' := s1.toks) hk, turn_enum a (s1.heap.objs.size + 1) s1.heap.objs.size, ⟨⟨.none, he⟩, hit, Nat.succ_ne_self _⟩, new, q⟩
    · obtain ⟨its, rv, p', hz⟩ := I1.tuple hq
      refine enum1_begins (begins_tuple a its.toArray) p' fun h' he hit hk => wpAny_pyIter_enum he ?_
      exact ⟨s1.heap.objs.size + 1, [s1.heap.objs.size + 1, s1.heap.objs.size], _, _, H1, rfl, I1.kept (t' := s1.toks) hk, turn_enumT a (s1.heap.objs.size + 1) s1.heap.objs.size, ⟨⟨.none, he⟩, ⟨_, hit, rfl, rfl⟩, Nat.succ_ne_self _⟩, new, q⟩
end R

set_option Elab.async false
set_option linter.all false
set_option maxRecDepth 100000
set_option maxHeartbeats 4000000
/-! R3a: readings; operators by values -/
namespace R
open PySem PySem.Spec PyProof.Rows L2

theorem sz_line : SZ = sizeLine := by rw [sizeLine_eq]; rfl
theorem PE.imp {X : Cx} {e : Expr} {t t' : TE} (h : PE X e t) (hi : ∀ σ H Q, t' σ H Q → t σ H Q) : PE X e t' := ⟨fun pins s σ H Q I q => h.run pins s σ H Q I (hi _ _ _ q)⟩
theorem PT.imp {X : Cx} {e : Expr} {t t' : TT} (h : PT X e t) (hi : ∀ σ H Q, t' σ H Q → t σ H Q) : PT X e t' := ⟨fun pins s σ H Q I q => h.run pins s σ H Q I (hi _ _ _ q)⟩
theorem PW.imp {X : Cx} {e : Expr} {t t' : TT} (h : PW X e t) (hi : ∀ σ H Q, t' σ H Q → t σ H Q) : PW X e t' := ⟨fun w pins s σ H Q I q => h.run w pins s σ H Q I (hi _ _ _ q)⟩
theorem PA.imp {X : Cx} {e : List Expr} {t t' : TA} (h : PA X e t) (hi : ∀ σ H Q, t' σ H Q → t σ H Q) : PA X e t' := ⟨fun p pins s σ H Q I q => h.run p pins s σ H Q I (hi _ _ _ q)⟩
theorem PS.imp {X : Cx} {e : Stmt} {t t' : TS} (h : PS X e t) (hi : ∀ D σ H, t' D σ H → t D σ H) : PS X e t' := ⟨fun pins s σ H D I q => h.run pins s σ H D I (hi _ _ _ q)⟩
theorem PSs.imp {X : Cx} {e : List Stmt} {t t' : TS} (h : PSs X e t) (hi : ∀ D σ H, t' D σ H → t D σ H) : PSs X e t' := ⟨fun pins s σ H D I q => h.run pins s σ H D I (hi _ _ _ q)⟩
theorem OpR.imp {X : Cx} {f : Value → Value → Sem Value} {r r' : R2} (h : OpR X f r) (hi : ∀ x y H Q, r' x y H Q → r x y H Q) : OpR X f r' := fun pins s σ H x y v u Q I rx ry q => h pins s σ H x y v u Q I rx ry (hi _ _ _ _ q)

section
variable (K : PySem.W.Frag) (fa : Nat → Option Addr)
/-- the frame's names -/
structure EnvR (t m : List Addr) (H : Hp) (σ : Env) (σV : L2.St) : Prop where
  len : σ.length = σV.length
  at_ : ∀ (i : Nat) (u : U), σ[i]? = some (some u) → ∃ v, σV[i]? = some (some v) ∧ Rp K fa t m m.length H u v
/-- what is known behind -/
def Kn (bs : List Nat) (t m : List Addr) (H : Hp) (u : U) (μ' : Mu) (Q : VK) : Prop :=
  ∀ m' H' v, Ex m H m' H' → Me K fa bs t m' H' μ' → Rp K fa t m' m'.length H' u v → Q v H'
def KnA (bs : List Nat) (t m : List Addr) (H : Hp) (us : List U) (μ' : Mu) (Q : List V → Hp → Prop) : Prop :=
  ∀ m' H' vs, Ex m H m' H' → Me K fa bs t m' H' μ' → RpA K fa t m' m'.length H' us vs → Q vs H'
abbrev Ev := Env → Mu → Option (U × Mu)
def tE (n0 : Nat) (ev : Ev) : TE := fun σV H Q => ∃ t bs m σ μ u μ', bs.length = n0 ∧ EnvR K fa t m H σ σV ∧ Me K fa bs t m H μ ∧ ev σ μ = some (u, μ') ∧ Kn K fa bs t m H u μ' Q
def tT (n0 : Nat) (ev : Ev) : TT := fun σV H Q => ∃ t bs m σ μ u μ' b, bs.length = n0 ∧ EnvR K fa t m H σ σV ∧ Me K fa bs t m H μ ∧ ev σ μ = some (u, μ') ∧ truth μ' u = some b ∧
  ∀ m' H', Ex m H m' H' → Me K fa bs t m' H' μ' → Q b H'
def tL (n0 : Nat) (ev : Env → Mu → Option (List U × Mu)) : TA := fun σV H Q => ∃ t bs m σ μ us μ', bs.length = n0 ∧ EnvR K fa t m H σ σV ∧ Me K fa bs t m H μ ∧ ev σ μ = some (us, μ') ∧ KnA K fa bs t m H us μ' Q
/-- two values, then something -/
def rV2 (f : Mu → U → U → Option (U × Mu)) : R2 := fun x y H Q => ∃ t bs m μ a b u μ', Me K fa bs t m H μ ∧ Rp K fa t m m.length H a x ∧ Rp K fa t m m.length H b y ∧ f μ a b = some (u, μ') ∧ Kn K fa bs t m H u μ' Q
end
section
variable {K : PySem.W.Frag} {fa : Nat → Option Addr} {t m m' : List Addr} {H H' : Hp} {σ : Env} {σV : L2.St} {bs : List Nat} {μ μ' : Mu} {u : U} {v : V} {Q : VK} {n0 : Nat}
theorem EnvR.ex (h : EnvR K fa t m H σ σV) (e : Ex m H m' H') : EnvR K fa t m' H' σ σV := ⟨h.len, fun i u q => let ⟨v, a, b⟩ := h.at_ i u q; ⟨v, a, b.ex e e.len⟩⟩
theorem Rp.ex' (h : Rp K fa t m m.length H u v) (e : Ex m H m' H') : Rp K fa t m' m'.length H' u v := h.ex e e.len
theorem RpA.ex' {us : List U} {vs : List V} (h : RpA K fa t m m.length H us vs) (e : Ex m H m' H') : RpA K fa t m' m'.length H' us vs := h.ex e e.len
theorem Kn.ex (k : Kn K fa bs t m H u μ' Q) (e : Ex m H m' H') : Kn K fa bs t m' H' u μ' Q := fun m2 H2 v e2 M r => k m2 H2 v (e.trans e2) M r
/-- nothing changes -/
theorem Kn.here (k : Kn K fa bs t m H u μ Q) (M : Me K fa bs t m H μ) (r : Rp K fa t m m.length H u v) : Q v H := k m H v (Ex.refl m H) M r
/-- a new frozen object -/
theorem Kn.new {p : Addr} {o : HO} (k : Kn K fa bs t m H u μ Q) (M : Me K fa bs t m H μ) (h : H p = none) (r : Rp K fa t m m.length (upd H p o) u v) : Q v (upd H p o) := k m _ v (Ex.upd h) (M.upd h) r
/-- a new tuple -/
theorem Kn.tup {p : Addr} {xs : List U} {vs : List V} (k : Kn K fa bs t m H (.tup xs) μ Q) (M : Me K fa bs t m H μ) (h : H p = none) (r : RpA K fa t m m.length H xs vs) : Q (.ref p) (upd H p (.tup vs)) := by
  obtain ⟨n1, n2⟩ := M.fresh h
  exact k.new M h (.tup ⟨upd_same, n1, n2⟩ (r.ex' (Ex.upd h)))
/-- a new list, frozen or mutable -/
theorem Kn.lst {p : Addr} {xs : List U} {vs : List V} {al : Bool} (k : Kn K fa bs t m H (fresh al (.lst xs) μ).1 (fresh al (.lst xs) μ).2 Q) (M : Me K fa bs t m H μ) (h : H p = none) (r : RpA K fa t m m.length H xs vs) : Q (.ref p) (upd H p (.lst vs)) := by
  obtain ⟨n1, n2⟩ := M.fresh h
  cases al with
  | false => exact k.new M h (.lst ⟨upd_same, n1, n2⟩ (r.ex' (Ex.upd h)))
  | true =>
    have e : Ex m H (m ++ [p]) (upd H p (.lst vs)) := Ex.alloc h
    refine k (m ++ [p]) _ _ e (M.alloc h (.lst upd_same (r.ex e (by simp)))) (.ob (by simp [← M.len]) (by simp [← M.len]))
theorem Kn.dk {p : Addr} {kvs : List (Key × V)} {us : List U} {al : Bool} (k : Kn K fa bs t m H (fresh al (.dk (kvs.map (·.1)) us) μ).1 (fresh al (.dk (kvs.map (·.1)) us) μ).2 Q) (M : Me K fa bs t m H μ) (h : H p = none) (r : RpA K fa t m m.length H us (kvs.map (·.2))) : Q (.ref p) (upd H p (.dK kvs)) := by
  obtain ⟨n1, n2⟩ := M.fresh h
  cases al with
  | false => exact k.new M h (.dK upd_same n1 n2 (r.ex' (Ex.upd h)))
  | true =>
    have e : Ex m H (m ++ [p]) (upd H p (.dK kvs)) := Ex.alloc h
    refine k (m ++ [p]) _ _ e (M.alloc h (.dK upd_same (r.ex e (by simp)))) (.ob (by simp [← M.len]) (by simp [← M.len]))
theorem Kn.dt {p : Addr} {kvs : List (List Key × V)} {us : List U} {al : Bool} (k : Kn K fa bs t m H (fresh al (.dt (kvs.map (·.1)) us) μ).1 (fresh al (.dt (kvs.map (·.1)) us) μ).2 Q) (M : Me K fa bs t m H μ) (h : H p = none) (r : RpA K fa t m m.length H us (kvs.map (·.2))) : Q (.ref p) (upd H p (.dT kvs)) := by
  obtain ⟨n1, n2⟩ := M.fresh h
  cases al with
  | false => exact k.new M h (.dT upd_same n1 n2 (r.ex' (Ex.upd h)))
  | true =>
    have e : Ex m H (m ++ [p]) (upd H p (.dT kvs)) := Ex.alloc h
    refine k (m ++ [p]) _ _ e (M.alloc h (.dT upd_same (r.ex e (by simp)))) (.ob (by simp [← M.len]) (by simp [← M.len]))
/-- the object of a mutable one -/
theorem Me.obj (M : Me K fa bs t m H μ) {i : Nat} {v : V} {o : U} (r : Rp K fa t m m.length H (.ob i) v) (h : μ[i]? = some o) : ∃ a, v = .ref a ∧ m[i]? = some a ∧ Ct K fa t m (bs[i]?.getD m.length) H a o := by
  cases r with
  | ob hi ha => exact ⟨_, rfl, ha, M.ct i _ _ ha h⟩
theorem Me.objF (M : Me K fa bs t m H μ) {i : Nat} {v : V} {o : U} (r : Rp K fa t m m.length H (.ob i) v) (h : μ[i]? = some o) : ∃ a, v = .ref a ∧ m[i]? = some a ∧ Ct K fa t m m.length H a o := by
  obtain ⟨a, h1, h2, c⟩ := M.obj r h
  exact ⟨a, h1, h2, c.ex (Ex.refl m H) (M.bnd i) rfl⟩
/-- what stands as a list: frozen or mutable -/
theorem asL_ok (M : Me K fa bs t m H μ) {u : U} {v : V} {xs : List U} (r : Rp K fa t m m.length H u v) (h : asL μ u = some xs) : ∃ a vs, v = .ref a ∧ SqL K H a vs ∧ RpA K fa t m m.length H xs vs := by
  cases u with
  | lst ys =>
    cases h
    cases r with
    | lst f ra => exact ⟨_, _, rfl, f.sq, ra⟩
  | ob i =>
    simp only [asL] at h
    split at h
    · rename_i ys e
      cases h
      obtain ⟨a, rfl, ha, c⟩ := M.objF r e
      cases c with
      | lst hH ra => exact ⟨a, _, rfl, SqL.of hH, ra⟩
    · cases h
  | _ => simp [asL] at h
theorem asL_at (M : Me K fa bs t m H μ) {u : U} {v : V} {xs : List U} (r : Rp K fa t m m.length H u v) (h : asL μ u = some xs) : ∃ a vs, v = .ref a ∧ H a = some (.lst vs) ∧ RpA K fa t m m.length H xs vs := by
  cases u with
  | lst ys =>
    cases h
    cases r with
    | lst f ra => exact ⟨_, _, rfl, f.1, ra⟩
  | ob i =>
    simp only [asL] at h
    split at h
    · rename_i ys e
      cases h
      obtain ⟨a, rfl, ha, c⟩ := M.objF r e
      cases c with
      | lst hH ra => exact ⟨a, _, rfl, hH, ra⟩
    · cases h
  | _ => simp [asL] at h
theorem asS_ok (M : Me K fa bs t m H μ) {u : U} {v : V} {xs : List U} (r : Rp K fa t m m.length H u v) (h : asS μ u = some xs) : ∃ a vs, v = .ref a ∧ (SqL K H a vs ∨ SqT K H a vs) ∧ RpA K fa t m m.length H xs vs := by
  cases u with
  | tup ys =>
    cases h
    cases r with
    | tup f ra => exact ⟨_, _, rfl, .inr f.sq, ra⟩
  | _ =>
    obtain ⟨a, vs, e, f, ra⟩ := asL_ok M r h
    exact ⟨a, vs, e, .inl f, ra⟩

/-! ### data -/
theorem mapO_len {α β : Type} {f : α → Option β} : ∀ {xs : List α} {ys : List β}, mapO f xs = some ys → xs.length = ys.length
  | [], _, h => by cases h; rfl
  | x :: xs, ys, h => by
    simp only [mapO] at h
    split at h
    · split at h
      · rename_i e; cases h; simp [mapO_len e]
      · cases h
    · cases h
theorem mapO_cons {α β : Type} {f : α → Option β} {x : α} {xs : List α} {ys : List β} (h : mapO f (x :: xs) = some ys) : ∃ z zs, f x = some z ∧ mapO f xs = some zs ∧ ys = z :: zs := by
  simp only [mapO] at h
  split at h
  · rename_i z e
    split at h
    · rename_i zs e'; cases h; exact ⟨z, zs, e, e', rfl⟩
    · cases h
  · cases h
mutual
theorem Dp.of (M : Me K fa bs t m H μ) : ∀ (k : Nat) (u : U) (v : V) (d : PyData), Rp K fa t m m.length H u v → dat μ k u = some d → Dp K H v d ∧ d.plain = true ∧ d.depth ≤ k
  | k, .non, v, d, r, h => by
    cases r; simp [dat] at h; subst h; exact ⟨.non, rfl, Nat.zero_le _⟩
  | k, .bl b, v, d, r, h => by
    cases r; simp [dat] at h; subst h; exact ⟨.bl b, rfl, Nat.zero_le _⟩
  | k, .int i, v, d, r, h => by
    cases r; simp [dat] at h; subst h; exact ⟨.int i, rfl, Nat.zero_le _⟩
  | k, .str x, v, d, r, h => by
    cases r; simp [dat] at h; subst h; exact ⟨.str x, rfl, Nat.zero_le _⟩
  | 0, .tup xs, v, d, r, h => by simp [dat] at h
  | k + 1, .tup xs, v, d, r, h => by
    simp only [dat] at h
    split at h
    · rename_i ds e
      cases h
      cases r with
      | tup f ra =>
        obtain ⟨h1, h2, h3⟩ := Dp.ofs M k xs _ ds ra e
        exact ⟨.tup f.sq h1, h2, by simp only [PyData.depth]; omega⟩
    · cases h
  | 0, .lst xs, v, d, r, h => by simp [dat] at h
  | k + 1, .lst xs, v, d, r, h => by
    simp only [dat] at h
    split at h
    · rename_i ds e
      cases h
      cases r with
      | lst f ra =>
        obtain ⟨h1, h2, h3⟩ := Dp.ofs M k xs _ ds ra e
        exact ⟨.lst f.sq h1, h2, by simp only [PyData.depth]; omega⟩
    · cases h
  | 0, .ob i, v, d, r, h => by simp [dat] at h
  | k + 1, .ob i, v, d, r, h => by
    simp only [dat] at h
    split at h
    · rename_i o e
      obtain ⟨a, rfl, ha, c⟩ := M.objF r e
      cases c with
      | lst hH ra =>
        cases k with
        | zero => simp [dat] at h
        | succ k =>
          simp only [dat] at h
          split at h
          · rename_i ds e
            cases h
            obtain ⟨h1, h2, h3⟩ := Dp.ofs M k _ _ ds ra e
            exact ⟨.lst (SqL.of hH) h1, h2, by simp only [PyData.depth]; omega⟩
          · cases h
      | dK _ _ => cases k <;> simp [dat] at h
      | dT _ _ => cases k <;> simp [dat] at h
    · cases h
  | k, .dk _ _, v, d, r, h => by cases k <;> simp [dat] at h
  | k, .dt _ _, v, d, r, h => by cases k <;> simp [dat] at h
  | k, .fn _, v, d, r, h => by cases k <;> simp [dat] at h
  | k, .scr _, v, d, r, h => by cases k <;> simp [dat] at h
theorem Dp.ofs (M : Me K fa bs t m H μ) : ∀ (k : Nat) (us : List U) (vs : List V) (ds : List PyData), RpA K fa t m m.length H us vs → mapO (dat μ k) us = some ds → DpAll K H vs ds ∧ PyData.plainAll ds = true ∧ PyData.depthAll ds ≤ k
  | k, [], _, ds, .nil, h => by cases h; exact ⟨.nil, rfl, Nat.zero_le _⟩
  | k, u :: us, _, ds, .cons r ra, h => by
    obtain ⟨z, zs, e1, e2, rfl⟩ := mapO_cons h
    obtain ⟨a1, a2, a3⟩ := Dp.of M k u _ z r e1
    obtain ⟨b1, b2, b3⟩ := Dp.ofs M k us _ zs ra e2
    exact ⟨.cons a1 b1, by simp [PyData.plainAll, a2, b2], by simp only [PyData.depthAll]; omega⟩
end
end
end R

set_option Elab.async false
set_option linter.all false
set_option maxRecDepth 100000
set_option maxHeartbeats 4000000
/-! R3t: tuple * int, any -/
namespace R
open PySem PySem.Spec PyProof.Rows L2
open AutoSeq1 (wpAny_loadPart')

theorem tuple_mul0 (l : Addr) (items : Array Value) (n : Nat) (dd : Option Addr) (sl : Array (Option Value)) (x : Int) (u : Tok) (c0 : (decide (x < -(2 ^ 63)) || decide (x ≥ 2 ^ 63)) = false) (c1 : (items.isEmpty || x == 1) = false) (c2 : (decide (x ≤ 0) || items.isEmpty) = true) :
    Meets (Builtin.«tuple.__mul__» ⟨[.ref l, .int x u], []⟩) (fun _ R s => s.heap.get? l = some { cls := .type "tuple", dict := dd, data := .seq items n, slots := sl } ∧
      R (.ok (.ret (Value.ref s.heap.objs.size))) { s with heap := s.heap.push { cls := Value.type "tuple", data := Data.seq #[] }, toks := s.toks }) :=
  .of_wp fun prog w A R s h => by
    obtain ⟨hp, g, d, tk, os⟩ := s
    obtain ⟨hl, h⟩ := h
    have f1 := AutoSeq1.idx_int
    wp_walk using wpAny_loadPart' hl
    repeat (first
      | (refine wpAny_ite_false (decide_eq_false (by rw [c0]; exact Bool.false_ne_true)) ?_; wp_walk using wpAny_loadPart' hl)
      | (refine wpAny_ite_false (decide_eq_false (by rw [c1]; exact Bool.false_ne_true)) ?_; wp_walk using wpAny_loadPart' hl)
      | (refine wpAny_ite_true (decide_eq_true c2) ?_; wp_walk using wpAny_loadPart' hl))
    exact ⟨_, rfl, h⟩
theorem tuple_mul1 (l : Addr) (items : Array Value) (n : Nat) (dd : Option Addr) (sl : Array (Option Value)) (x : Int) (u : Tok) (c0 : (decide (x < -(2 ^ 63)) || decide (x ≥ 2 ^ 63)) = false) (c1 : (items.isEmpty || x == 1) = true) :
    Meets (Builtin.«tuple.__mul__» ⟨[.ref l, .int x u], []⟩) (fun _ R s => s.heap.get? l = some { cls := .type "tuple", dict := dd, data := .seq items n, slots := sl } ∧
      R (.ok (.ret (Value.ref l))) { s with heap := s.heap, toks := s.toks }) :=
  .of_wp fun prog w A R s h => by
    obtain ⟨hp, g, d, tk, os⟩ := s
    obtain ⟨hl, h⟩ := h
    have f1 := AutoSeq1.idx_int
    wp_walk using wpAny_loadPart' hl
    repeat (first
      | (refine wpAny_ite_false (decide_eq_false (by rw [c0]; exact Bool.false_ne_true)) ?_; wp_walk using wpAny_loadPart' hl)
      | (refine wpAny_ite_true (decide_eq_true c1) ?_; wp_walk using wpAny_loadPart' hl))
    exact ⟨_, rfl, h⟩

def rMulT (K : PySem.W.Frag) : R2 := fun x y H Q => ∃ l k xs, x = .ref l ∧ y = .int k ∧ SqT K H l xs ∧ -(2 ^ 63) ≤ k ∧ k < 2 ^ 63 ∧ xs.length * k.toNat ≤ sizeLine ∧
  ((xs = [] ∨ k = 1) → Q (.ref l) H) ∧ (¬ (xs = [] ∨ k = 1) → ∀ p, H p = none → Q (.ref p) (upd H p (.tup (List.replicate k.toNat xs).flatten)))
section
variable {X : Cx}
theorem op_mulT : OpR X (binaryOp .Mult) (rMulT X.K) := by
  intro pins s σ H x y v u Q I rx ry h
  obtain ⟨l, k, xs, rfl, rfl, hT, h1, h2, hz, q1, q2⟩ := h
  cases rx
  obtain ⟨t, rfl⟩ := ry
  obtain ⟨its, r, ⟨⟨cls, dd, data, sl⟩, ho, hc, n, hd⟩, hs⟩ := I.tuple hT
  simp only at hc hd
  subst hc hd
  have hle : its.length = xs.length := r.length.symm
  have c0 : (decide (k < -(2 ^ 63)) || decide (k ≥ 2 ^ 63)) = false := by
    rw [decide_eq_false (by omega), decide_eq_false (by omega)] <;> rfl
  have hsz0 : its.toArray.size = xs.length := by rw [List.size_toArray, hle]
  have he : its.toArray.isEmpty = decide (xs = []) := by
    cases its with
    | nil => cases r; rfl
    | cons a b => cases r; rfl
  refine wpAny_binaryOp_repeat_ref (T := "tuple") (U := "int") (by decide) ⟨_, ho, rfl⟩ (fun s' => typeIs_int s' k t) noFill_tuple_mul F.fills_int_mul F.slot_int_rmul repeat_tuple F.slot_int_index.lookup
    (call_meets F.slot_int_rmul (typeIs_int s k t) F.entry_int_rmul (F.args_int_rmul_2 _ _) (int_rmul_tuple k t l its.toArray n dd sl)
      ⟨ho, rfl, ⟨_, ho, rfl⟩, ?_⟩)
  by_cases hw : xs = [] ∨ k = 1
  · have c1 : (its.toArray.isEmpty || k == 1) = true := by
      rw [he]
      rcases hw with e | e
      · simp [e]
      · simp [e]
    exact call_meets F.slot_tuple_mul ⟨_, ho, rfl⟩ F.entry_tuple_mul (F.args_tuple_mul_2 _ _) (tuple_mul1 l its.toArray n dd sl k t c0 c1) ⟨ho, ⟨.ref l, H, I, rfl, q1 hw⟩⟩
  · have hne : xs ≠ [] := fun e => hw (.inl e)
    have hk1 : k ≠ 1 := fun e => hw (.inr e)
    have hi : its.toArray.isEmpty = false := by rw [he]; exact decide_eq_false hne
    have c1 : (its.toArray.isEmpty || k == 1) = false := by
      rw [hi, Bool.false_or]
      exact beq_eq_false_iff_ne.mpr hk1
    by_cases hk : k ≤ 0
    · have c2 : (decide (k ≤ 0) || its.toArray.isEmpty) = true := by simp [hk]
      refine call_meets F.slot_tuple_mul ⟨_, ho, rfl⟩ F.entry_tuple_mul (F.args_tuple_mul_2 _ _) (tuple_mul0 l its.toArray n dd sl k t c0 c1 c2) ⟨ho, ?_⟩
      have e0 : (List.replicate k.toNat xs).flatten = [] := by rw [show k.toNat = 0 by omega]; rfl
      have qq := q2 hw s.heap.objs.size (I.hok.fresh (Nat.le_refl _))
      rw [e0] at qq
      exact ⟨.ref s.heap.objs.size, _, I.laid (t' := s.toks) (o := .tup []) (fun b ob q => Heap.get?_push_of_some _ q) (Nat.le_refl _) ⟨Nat.zero_le _, [], .nil, IsTup.new _ _⟩, rfl, qq⟩
    · have c2 : (decide (k ≤ 0) || its.toArray.isEmpty) = false := by
        rw [hi, Bool.or_false]
        exact decide_eq_false (by omega)
      have flen : (List.replicate k.toNat its).flatten.length ≤ sizeLine := by
        rw [PyProof.Rows.lm_len_rep_flat, hle, Nat.mul_comm]; exact hz
      have hm : ((its.toArray.size : Nat) : Int) * k ≤ sizeLine := by
        rw [hsz0]
        have : ((xs.length * k.toNat : Nat) : Int) ≤ (sizeLine : Nat) := by exact_mod_cast hz
        rw [Int.natCast_mul, Int.toNat_of_nonneg (by omega)] at this
        exact this
      have hsl := sizeLine_eq
      have c4 : Builtin.Tuple.tupleTooMany (((its.toArray.size : Nat) : Int) * k) = false := by
        unfold Builtin.Tuple.tupleTooMany
        rw [sizeLine_eq]
        exact decide_eq_false (by omega)
      refine call_meets F.slot_tuple_mul ⟨_, ho, rfl⟩ F.entry_tuple_mul (F.args_tuple_mul_2 _ _) (tuple_mulW l its.toArray n dd sl k t c0 c1 c2 (by omega) c4 (by rw [size_rep, List.size_toArray]; exact flen)) ⟨ho, ?_⟩
      rw [size_rep]
      refine ⟨.ref s.heap.objs.size, _, I.laid (t' := s.toks) (o := .tup (List.replicate k.toNat xs).flatten) (fun b ob q => Heap.get?_push_of_some _ q) (Nat.le_refl _) ?_, rfl, q2 hw _ (I.hok.fresh (Nat.le_refl _))⟩
      exact ⟨by rw [PyProof.Rows.lm_len_rep_flat, Nat.mul_comm]; exact hz, _, r.rep k.toNat, IsTup.new _ _⟩
end
end R

set_option Elab.async false
set_option linter.all false
set_option maxRecDepth 100000
set_option maxHeartbeats 4000000
/-! R3b: operators by values -/
namespace R
open PySem PySem.Spec PyProof.Rows L2

def Bo.op : Bo → Operator
  | .add => .Add | .sub => .Sub | .mul => .Mult | .fdiv => .FloorDiv | .mod => .Mod | .pow => .Pow | .shl => .LShift | .shr => .RShift | .band => .BitAnd | .bor => .BitOr | .bxor => .BitXor
def Co.op : Co → CmpOp
  | .eq => .Eq | .ne => .NotEq | .lt => .Lt | .le => .LtE | .gt => .Gt | .ge => .GtE | .isin => .In | .notin => .NotIn | .is_ => .Is | .isnot => .IsNot

section
variable {X : Cx} {fa : Nat → Option Addr}
theorem binR (al : Bool) (op : Bo) : OpR X (binaryOp op.op) (rV2 X.K fa fun μ a b => evBin al μ op a b) := by
  intro pins s σ H x y v u Q I rx ry h
  obtain ⟨t, bs, m, μ, a, b, w, μ', M, ra, rb, h, k⟩ := h
  have hz := sz_line
  simp only [evBin] at h
  split at h
  · cases h; cases ra; cases rb; exact op_add pins s σ H _ _ v u Q I rx ry ⟨_, _, rfl, rfl, k.here M (.int _)⟩
  · cases h; cases ra; cases rb; exact op_sub pins s σ H _ _ v u Q I rx ry ⟨_, _, rfl, rfl, k.here M (.int _)⟩
  · split at h
    · rename_i hm
      cases h; cases ra; cases rb
      refine op_mul pins s σ H _ _ v u Q I rx ry ⟨_, _, rfl, rfl, ?_, k.here M (.int _)⟩
      simpa [mulOk, CMul] using hm
    · cases h
  · split at h
    · rename_i hm
      cases h; cases ra; cases rb
      exact op_fdiv pins s σ H _ _ v u Q I rx ry ⟨_, _, rfl, rfl, hm, k.here M (.int _)⟩
    · cases h
  · split at h
    · rename_i hm
      cases h; cases ra; cases rb
      exact op_mod pins s σ H _ _ v u Q I rx ry ⟨_, _, rfl, rfl, hm, k.here M (.int _)⟩
    · cases h
  · split at h
    · rename_i hm
      cases h; cases ra; cases rb
      exact op_pow pins s σ H _ _ v u Q I rx ry ⟨_, _, rfl, rfl, hm, k.here M (.int _)⟩
    · cases h
  · split at h
    · rename_i hm
      cases h; cases ra; cases rb
      exact op_shl pins s σ H _ _ v u Q I rx ry ⟨_, _, rfl, rfl, hm, k.here M (.int _)⟩
    · cases h
  · split at h
    · rename_i hm
      cases h; cases ra; cases rb
      exact op_shr pins s σ H _ _ v u Q I rx ry ⟨_, _, rfl, rfl, hm, k.here M (.int _)⟩
    · cases h
  · cases h; cases ra; cases rb; exact op_and pins s σ H _ _ v u Q I rx ry ⟨_, _, rfl, rfl, k.here M (.int _)⟩
  · cases h; cases ra; cases rb; exact op_or pins s σ H _ _ v u Q I rx ry ⟨_, _, rfl, rfl, k.here M (.int _)⟩
  · cases h; cases ra; cases rb; exact op_xor pins s σ H _ _ v u Q I rx ry ⟨_, _, rfl, rfl, k.here M (.int _)⟩
  · split at h
    · rename_i hm
      cases h; cases ra; cases rb
      exact op_add_str pins s σ H _ _ v u Q I rx ry ⟨_, _, rfl, rfl, by omega, k.here M (.str _)⟩
    · cases h
  · split at h
    · rename_i xs ys hm
      cases h
      cases ra with
      | tup f1 r1 =>
        cases rb with
        | tup f2 r2 =>
          have l1 := r1.length
          have l2 := r2.length
          refine op_catA pins s σ H _ _ v u Q I rx ry ⟨_, _, _, _, rfl, rfl, f1.sq, f2.sq, by omega, fun e => ?_, fun _ e => ?_, fun _ _ p hp => k.tup M hp (r1.append r2)⟩
          · subst e
            cases r1
            exact k.here M (.tup f2 r2)
          · subst e
            cases r2
            refine k.here M ?_
            rw [List.append_nil]
            exact .tup f1 r1
    · cases h
  · split at h
    · rename_i xs ys e1 e2
      split at h
      · rename_i hm
        obtain ⟨rfl, rfl⟩ := Prod.mk.inj (Option.some.inj h)
        obtain ⟨l, vs, rfl, hl, r1⟩ := asL_at M ra e1
        obtain ⟨l', ws, rfl, hl', r2⟩ := asL_at M rb e2
        have l1 := r1.length
        have l2 := r2.length
        exact op_cat pins s σ H _ _ v u Q I rx ry ⟨_, _, _, _, rfl, rfl, hl, hl', by omega, fun p hp => k.lst M hp (r1.append r2)⟩
      · cases h
    · cases h
  · split at h
    · rename_i xs kk hm
      cases h
      cases ra with
      | tup f1 r1 =>
        cases rb
        have l1 := r1.length
        refine op_mulT pins s σ H _ _ v u Q I rx ry ⟨_, _, _, rfl, rfl, f1.sq, hm.1, hm.2.1, by rw [← l1]; omega, fun e => ?_, fun _ p hp => k.tup M hp (r1.rep _)⟩
        refine k.here M ?_
        rcases e with e | e
        · subst e
          cases r1
          have : (List.replicate (Int.toNat kk) ([] : List U)).flatten = [] := List.flatten_replicate_nil
          rw [this]
          exact .tup f1 .nil
        · rw [e]
          have : (List.replicate (Int.toNat 1) xs).flatten = xs := by
            show (List.replicate 1 xs).flatten = xs
            simp
          rw [this]
          exact .tup f1 r1
    · cases h
  · split at h
    · rename_i xs e1
      split at h
      · rename_i hm
        obtain ⟨rfl, rfl⟩ := Prod.mk.inj (Option.some.inj h)
        obtain ⟨l, vs, rfl, hl, r1⟩ := asL_at M ra e1
        cases rb
        have l1 := r1.length
        exact op_rep pins s σ H _ _ v u Q I rx ry ⟨_, _, _, rfl, rfl, hl, hm.1, hm.2.1, by rw [← l1]; omega, fun p hp => k.lst M hp (r1.rep _)⟩
      · cases h
    · cases h
  · cases h

/-! ### comparisons -/
theorem room_eq {k : Nat} (r : Room k X.A) : X.A.units + 66 < cLine := by have := r.un; omega
def rC2 (K : PySem.W.Frag) (fa : Nat → Option Addr) (f : Mu → U → U → Option Bool) : R2 := fun x y H Q => ∃ t bs m μ a b c, Me K fa bs t m H μ ∧ Rp K fa t m m.length H a x ∧ Rp K fa t m m.length H b y ∧ f μ a b = some c ∧ Q (.bl c) H
theorem neg?_some {o : Option Bool} {c : Bool} (h : neg? o = some c) : ∃ d, o = some d ∧ c = !d := by
  cases o with
  | none => cases h
  | some d => exact ⟨d, rfl, (Option.some.inj h).symm⟩
theorem evEq_some {μ : Mu} {a b : U} {c : Bool} (h : evEq μ a b = some c) : ∃ d e, dat μ D0 a = some d ∧ dat μ D0 b = some e ∧ c = PyData.eqv d e := by
  simp only [evEq] at h
  split at h
  · rename_i d e h1 h2
    exact ⟨d, e, h1, h2, (Option.some.inj h).symm⟩
  · cases h
theorem evLt_some {μ : Mu} {a b : U} {c : Bool} (h : evLt μ a b = some c) : (∃ i j, a = .int i ∧ b = .int j ∧ c = decide (i < j)) ∨
    ∃ d e, dat μ D0 a = some d ∧ dat μ D0 b = some e ∧ d ≠ .none ∧ PySem.W.alike d e = true ∧ c = PySem.W.dataLt d e := by
  unfold evLt at h
  split at h
  · exact .inl ⟨_, _, rfl, rfl, (Option.some.inj h).symm⟩
  · cases h1 : dat μ D0 a with
    | none => rw [h1] at h; simp at h
    | some d =>
      cases h2 : dat μ D0 b with
      | none => rw [h1, h2] at h; cases d <;> simp at h
      | some e =>
        rw [h1, h2] at h
        by_cases hd : d = .none
        · subst hd; simp at h
        · have h' : (if PySem.W.alike d e = true then some (PySem.W.dataLt d e) else none) = some c := by
            cases d <;> first | exact absurd rfl hd | exact h
          by_cases ha : PySem.W.alike d e = true
          · rw [if_pos ha] at h'
            exact .inr ⟨d, e, rfl, rfl, hd, ha, (Option.some.inj h').symm⟩
          · rw [if_neg ha] at h'; cases h'
theorem d0 : D0 = 12 := rfl
theorem eqR (hu : X.A.units + 66 < cLine) : OpR X (compareOp .Eq) (rC2 X.K fa evEq) := by
  intro pins s σ H x y v u Q I rx ry h
  obtain ⟨t, bs, m, μ, a, b, c, M, ra, rb, h, q⟩ := h
  obtain ⟨d, e, h1, h2, rfl⟩ := evEq_some h
  obtain ⟨a1, a2, a3⟩ := Dp.of M D0 a x d ra h1
  obtain ⟨b1, b2, b3⟩ := Dp.of M D0 b y e rb h2
  obtain ⟨as, r1⟩ := Dp.reads I d x v a1 rx
  obtain ⟨bs, r2⟩ := Dp.reads I e y u b1 ry
  have hd := d0
  exact SeqAt.eq_plain r1 r2 a2 b2 (by omega) ⟨.bl _, H, I, rfl, q⟩
theorem neR (hu : X.A.units + 66 < cLine) : OpR X (compareOp .NotEq) (rC2 X.K fa fun μ a b => neg? (evEq μ a b)) := by
  intro pins s σ H x y v u Q I rx ry h
  obtain ⟨t, bs, m, μ, a, b, c, M, ra, rb, h, q⟩ := h
  obtain ⟨c', h0, rfl⟩ := neg?_some h
  obtain ⟨d, e, h1, h2, rfl⟩ := evEq_some h0
  obtain ⟨a1, a2, a3⟩ := Dp.of M D0 a x d ra h1
  obtain ⟨b1, b2, b3⟩ := Dp.of M D0 b y e rb h2
  obtain ⟨as, r1⟩ := Dp.reads I d x v a1 rx
  obtain ⟨bs, r2⟩ := Dp.reads I e y u b1 ry
  have hd := d0
  exact SeqAt.ne_plain r1 r2 a2 b2 (by omega) ⟨.bl _, H, I, rfl, q⟩
theorem ltR (hu : X.A.units + 66 < cLine) : OpR X (compareOp .Lt) (rC2 X.K fa evLt) := by
  intro pins s σ H x y v u Q I rx ry h
  obtain ⟨t, bs, m, μ, a, b, c, M, ra, rb, h, q⟩ := h
  have hd := d0
  rcases evLt_some h with ⟨i, j, rfl, rfl, rfl⟩ | ⟨d, e, h1, h2, hn, ha, rfl⟩
  · cases ra; cases rb
    exact op_lt pins s σ H _ _ v u Q I rx ry ⟨_, _, rfl, rfl, q⟩
  · obtain ⟨a1, a2, a3⟩ := Dp.of M D0 a x d ra h1
    obtain ⟨b1, b2, b3⟩ := Dp.of M D0 b y e rb h2
    obtain ⟨as, r1⟩ := Dp.reads I d x v a1 rx
    obtain ⟨bs, r2⟩ := Dp.reads I e y u b1 ry
    exact PySem.W.lt_data r1 r2 ha hn (by omega) ⟨.bl _, H, I, rfl, q⟩
theorem gtR (hu : X.A.units + 66 < cLine) : OpR X (compareOp .Gt) (rC2 X.K fa fun μ a b => evLt μ b a) := by
  intro pins s σ H x y v u Q I rx ry h
  obtain ⟨t, bs, m, μ, a, b, c, M, ra, rb, h, q⟩ := h
  have hd := d0
  rcases evLt_some h with ⟨i, j, rfl, rfl, rfl⟩ | ⟨d, e, h1, h2, hn, ha, rfl⟩
  · cases ra; cases rb
    exact op_gt pins s σ H _ _ v u Q I rx ry ⟨_, _, rfl, rfl, q⟩
  · obtain ⟨a1, a2, a3⟩ := Dp.of M D0 b y d rb h1
    obtain ⟨b1, b2, b3⟩ := Dp.of M D0 a x e ra h2
    obtain ⟨as, r1⟩ := Dp.reads I d y u a1 ry
    obtain ⟨bs, r2⟩ := Dp.reads I e x v b1 rx
    exact PySem.W.gt_data r2 r1 (by rw [PySem.W.alike_comm]; exact ha) (PySem.W.ne_none_both ha hn) (by omega) ⟨.bl _, H, I, rfl, q⟩
theorem leR (hu : X.A.units + 66 < cLine) : OpR X (compareOp .LtE) (rC2 X.K fa fun μ a b => neg? (evLt μ b a)) := by
  intro pins s σ H x y v u Q I rx ry h
  obtain ⟨t, bs, m, μ, a, b, c, M, ra, rb, h, q⟩ := h
  have hd := d0
  obtain ⟨c', h0, rfl⟩ := neg?_some h
  rcases evLt_some h0 with ⟨i, j, rfl, rfl, rfl⟩ | ⟨d, e, h1, h2, hn, ha, rfl⟩
  · cases ra; cases rb
    refine op_le pins s σ H _ _ v u Q I rx ry ⟨_, _, rfl, rfl, ?_⟩
    have e1 : (!decide (i < j)) = decide (j ≤ i) := by
      by_cases z : i < j
      · rw [decide_eq_true z, decide_eq_false (by omega)]; rfl
      · rw [decide_eq_false z, decide_eq_true (by omega)]; rfl
    rw [e1] at q; exact q
  · obtain ⟨a1, a2, a3⟩ := Dp.of M D0 b y d rb h1
    obtain ⟨b1, b2, b3⟩ := Dp.of M D0 a x e ra h2
    obtain ⟨as, r1⟩ := Dp.reads I d y u a1 ry
    obtain ⟨bs, r2⟩ := Dp.reads I e x v b1 rx
    exact PySem.W.le_data r2 r1 (by rw [PySem.W.alike_comm]; exact ha) (PySem.W.ne_none_both ha hn) (by omega) ⟨.bl _, H, I, rfl, q⟩
theorem geR (hu : X.A.units + 66 < cLine) : OpR X (compareOp .GtE) (rC2 X.K fa fun μ a b => neg? (evLt μ a b)) := by
  intro pins s σ H x y v u Q I rx ry h
  obtain ⟨t, bs, m, μ, a, b, c, M, ra, rb, h, q⟩ := h
  have hd := d0
  obtain ⟨c', h0, rfl⟩ := neg?_some h
  rcases evLt_some h0 with ⟨i, j, rfl, rfl, rfl⟩ | ⟨d, e, h1, h2, hn, ha, rfl⟩
  · cases ra; cases rb
    refine op_ge pins s σ H _ _ v u Q I rx ry ⟨_, _, rfl, rfl, ?_⟩
    have e1 : (!decide (i < j)) = decide (j ≤ i) := by
      by_cases z : i < j
      · rw [decide_eq_true z, decide_eq_false (by omega)]; rfl
      · rw [decide_eq_false z, decide_eq_true (by omega)]; rfl
    rw [e1] at q; exact q
  · obtain ⟨a1, a2, a3⟩ := Dp.of M D0 a x d ra h1
    obtain ⟨b1, b2, b3⟩ := Dp.of M D0 b y e rb h2
    obtain ⟨as, r1⟩ := Dp.reads I d x v a1 rx
    obtain ⟨bs, r2⟩ := Dp.reads I e y u b1 ry
    exact PySem.W.ge_data r1 r2 ha hn (by omega) ⟨.bl _, H, I, rfl, q⟩

/-! ### is None -/
theorem isN_ok {t m : List Addr} {n : Nat} {H : Hp} {u : U} {v : V} {K : PySem.W.Frag} (r : Rp K fa t m n H u v) : decide (v = .non) = isNon u := by
  cases r <;> rfl
theorem isR : OpR X (compareOp .Is) (rC2 X.K fa fun μ a b => evCmp μ .is_ a b) := by
  intro pins s σ H x y v u Q I rx ry h
  obtain ⟨t, bs, m, μ, a, b, c, M, ra, rb, h, q⟩ := h
  cases b <;> simp [evCmp] at h
  subst h
  cases rb
  exact op_isN pins s σ H _ _ v u Q I rx ry ⟨rfl, by rw [isN_ok ra]; exact q⟩
theorem isnotR : OpR X (compareOp .IsNot) (rC2 X.K fa fun μ a b => evCmp μ .isnot a b) := by
  intro pins s σ H x y v u Q I rx ry h
  obtain ⟨t, bs, m, μ, a, b, c, M, ra, rb, h, q⟩ := h
  cases b with
  | non =>
    have h' : some (!isNon a) = some c := h
    cases h'
    cases rb
    exact op_notN pins s σ H _ _ v u Q I rx ry ⟨rfl, by rw [isN_ok ra]; exact q⟩
  | _ => simp [evCmp] at h

/-! ### dicts -/
theorem lk_valV {κ : Type} [DecidableEq κ] {K : PySem.W.Frag} {t m : List Addr} {n : Nat} {H : Hp} : ∀ {kvs : List (κ × V)} {us : List U} (q : κ), RpA K fa t m n H us (kvs.map (·.2)) →
    (∃ u v, lk (kvs.map (·.1)) us q = some u ∧ valV kvs q = some v ∧ Rp K fa t m n H u v) ∨ (lk (kvs.map (·.1)) us q = none ∧ valV kvs q = none)
  | [], _, q, .nil => .inr ⟨rfl, rfl⟩
  | kv :: kvs, _, q, .cons (u := u) r ra => by
    by_cases hk : kv.1 = q
    · exact .inl ⟨u, kv.2, by simp [lk, hk], valV_pos hk, r⟩
    · rcases lk_valV q ra with ⟨u', v', e1, e2, r'⟩ | ⟨e1, e2⟩
      · exact .inl ⟨u', v', by simp [lk, hk, e1], by rw [valV_neg hk]; exact e2, r'⟩
      · exact .inr ⟨by simp [lk, hk, e1], by rw [valV_neg hk]; exact e2⟩
theorem sky_ok {K : PySem.W.Frag} {t m : List Addr} {n : Nat} {H : Hp} {u : U} {v : V} {q : Key} (r : Rp K fa t m n H u v) (h : sky u = some q) : v = kV q := by
  cases r <;> simp [sky] at h <;> subst h <;> rfl
theorem skys_ok {K : PySem.W.Frag} {t m : List Addr} {n : Nat} {H : Hp} : ∀ {us : List U} {vs : List V} {qs : List Key}, RpA K fa t m n H us vs → mapO sky us = some qs → vs = qs.map kV
  | _, _, _, .nil, h => by cases h; rfl
  | _, _, _, .cons r ra, h => by
    obtain ⟨z, zs, e1, e2, rfl⟩ := mapO_cons h
    rw [sky_ok r e1, skys_ok ra e2]; rfl
theorem tky_ok {K : PySem.W.Frag} {t m : List Addr} {n : Nat} {H : Hp} {u : U} {v : V} {q : List Key} (r : Rp K fa t m n H u v) (h : tky u = some q) : ∃ b, v = .ref b ∧ H b = some (.tup (q.map kV)) := by
  cases u <;> simp [tky] at h
  cases r with
  | tup f ra =>
    rw [← skys_ok ra h]
    exact ⟨_, rfl, f.1⟩
/-- the dict at v -/
theorem dk_at {K : PySem.W.Frag} {t m : List Addr} {H : Hp} {bs : List Nat} {μ : Mu} {u : U} {v : V} {ks : List Key} {us : List U} (M : Me K fa bs t m H μ) (r : Rp K fa t m m.length H u v) (h : cont μ u = some (.dk ks us)) :
    ∃ a kvs, v = .ref a ∧ H a = some (.dK kvs) ∧ kvs.map (·.1) = ks ∧ RpA K fa t m m.length H us (kvs.map (·.2)) := by
  cases u with
  | ob i =>
    simp only [cont] at h
    obtain ⟨a, rfl, ha, c⟩ := M.objF r h
    cases c with
    | dK hH ra => exact ⟨a, _, rfl, hH, rfl, ra⟩
  | dk ks' us' =>
    cases h
    cases r with
    | dK hH _ _ ra => exact ⟨_, _, rfl, hH, rfl, ra⟩
  | _ => simp [cont] at h
theorem dt_at {K : PySem.W.Frag} {t m : List Addr} {H : Hp} {bs : List Nat} {μ : Mu} {u : U} {v : V} {ks : List (List Key)} {us : List U} (M : Me K fa bs t m H μ) (r : Rp K fa t m m.length H u v) (h : cont μ u = some (.dt ks us)) :
    ∃ a kvs, v = .ref a ∧ H a = some (.dT kvs) ∧ kvs.map (·.1) = ks ∧ RpA K fa t m m.length H us (kvs.map (·.2)) := by
  cases u with
  | ob i =>
    simp only [cont] at h
    obtain ⟨a, rfl, ha, c⟩ := M.objF r h
    cases c with
    | dT hH ra => exact ⟨a, _, rfl, hH, rfl, ra⟩
  | dt ks' us' =>
    cases h
    cases r with
    | dT hH _ _ ra => exact ⟨_, _, rfl, hH, rfl, ra⟩
  | _ => simp [cont] at h
theorem dget_ok {K : PySem.W.Frag} {t m : List Addr} {H : Hp} {bs : List Nat} {μ : Mu} {d k : U} {x y : V} {o : Option U} (M : Me K fa bs t m H μ) (r : Rp K fa t m m.length H d x) (rk : Rp K fa t m m.length H k y) (h : dget μ d k = some o) :
    ∃ a, x = .ref a ∧ IsD H a ∧ ((∃ u v, o = some u ∧ DGet H a y (some v) ∧ Rp K fa t m m.length H u v) ∨ (o = none ∧ DGet H a y none)) := by
  simp only [dget] at h
  split at h
  · rename_i ks us hc
    obtain ⟨a, kvs, rfl, hH, rfl, ra⟩ := dk_at M r hc
    split at h
    · rename_i q hq
      cases h
      have ey := sky_ok rk hq
      subst ey
      refine ⟨a, rfl, .inl ⟨_, .inl hH⟩, ?_⟩
      rcases lk_valV q ra with ⟨u', v', e1, e2, r'⟩ | ⟨e1, e2⟩
      · exact .inl ⟨u', v', e1, .inl ⟨kvs, q, .inl hH, rfl, e2.symm⟩, r'⟩
      · exact .inr ⟨e1, .inl ⟨kvs, q, .inl hH, rfl, e2.symm⟩⟩
    · cases h
  · rename_i ks us hc
    obtain ⟨a, kvs, rfl, hH, rfl, ra⟩ := dt_at M r hc
    split at h
    · rename_i q hq
      cases h
      obtain ⟨b, rfl, hb⟩ := tky_ok rk hq
      refine ⟨a, rfl, .inr ⟨_, .inl hH⟩, ?_⟩
      rcases lk_valV q ra with ⟨u', v', e1, e2, r'⟩ | ⟨e1, e2⟩
      · exact .inl ⟨u', v', e1, .inr ⟨kvs, q, b, .inl hH, rfl, hb, e2.symm⟩, r'⟩
      · exact .inr ⟨e1, .inr ⟨kvs, q, b, .inl hH, rfl, hb, e2.symm⟩⟩
    · cases h
  · cases h

/-! ### in -/
theorem evIn_some {μ : Mu} {a b : U} {c : Bool} (h : evIn μ a b = some c) : (∃ o, dget μ b a = some o ∧ c = o.isSome) ∨
    ∃ x ys, dat μ D0 a = some x ∧ (dat μ D0 b = some (.tuple ys) ∨ dat μ D0 b = some (.list ys)) ∧ c = ys.any fun y => y.eqv x := by
  simp only [evIn] at h
  split at h
  · split at h
    · rename_i o ho; exact .inl ⟨o, ho, (Option.some.inj h).symm⟩
    · cases h
  · split at h
    · rename_i o ho; exact .inl ⟨o, ho, (Option.some.inj h).symm⟩
    · cases h
  · split at h
    · rename_i x ys h1 h2; exact .inr ⟨x, ys, h1, .inl h2, (Option.some.inj h).symm⟩
    · rename_i x ys h1 h2; exact .inr ⟨x, ys, h1, .inr h2, (Option.some.inj h).symm⟩
    · cases h
theorem inR (hu : X.A.units + 66 < cLine) : OpR X (compareOp .In) (rC2 X.K fa evIn) := by
  intro pins s σ H x y v u Q I rx ry h
  obtain ⟨t, bs, m, μ, a, b, c, M, ra, rb, h, q⟩ := h
  have hd := d0
  rcases evIn_some h with ⟨o, ho, rfl⟩ | ⟨d, ys, h1, h2, rfl⟩
  · obtain ⟨p, rfl, _, hg⟩ := dget_ok M rb ra ho
    cases ry
    rcases hg with ⟨u', v', rfl, g, _⟩ | ⟨rfl, g⟩
    · exact d_in (by omega) I g rx fun s' I' => ⟨.bl true, H, I', rfl, q⟩
    · exact d_in (by omega) I g rx fun s' I' => ⟨.bl false, H, I', rfl, q⟩
  · obtain ⟨a1, a2, a3⟩ := Dp.of M D0 a x d ra h1
    obtain ⟨as, r1⟩ := Dp.reads I d x v a1 rx
    rcases h2 with h2 | h2
    · obtain ⟨b1, b2, b3⟩ := Dp.of M D0 b y _ rb h2
      obtain ⟨bs, r2⟩ := Dp.reads I _ y u b1 ry
      exact SeqAt.in_tuple_data r2 r1 b2 a2 (by simp only [PyData.depth] at b3; omega) ⟨.bl _, H, I, rfl, q⟩
    · obtain ⟨b1, b2, b3⟩ := Dp.of M D0 b y _ rb h2
      obtain ⟨bs, r2⟩ := Dp.reads I _ y u b1 ry
      exact SeqAt.in_list_data r2 r1 b2 a2 (by simp only [PyData.depth] at b3; omega) ⟨.bl _, H, I, rfl, q⟩
theorem notinR (hu : X.A.units + 66 < cLine) : OpR X (compareOp .NotIn) (rC2 X.K fa fun μ a b => neg? (evIn μ a b)) := by
  intro pins s σ H x y v u Q I rx ry h
  obtain ⟨t, bs, m, μ, a, b, c, M, ra, rb, h, q⟩ := h
  have hd := d0
  obtain ⟨c', h0, rfl⟩ := neg?_some h
  rcases evIn_some h0 with ⟨o, ho, rfl⟩ | ⟨d, ys, h1, h2, rfl⟩
  · obtain ⟨p, rfl, _, hg⟩ := dget_ok M rb ra ho
    cases ry
    rcases hg with ⟨u', v', rfl, g, _⟩ | ⟨rfl, g⟩
    · exact d_notIn (by omega) I g rx fun s' I' => ⟨.bl false, H, I', rfl, q⟩
    · exact d_notIn (by omega) I g rx fun s' I' => ⟨.bl true, H, I', rfl, q⟩
  · obtain ⟨a1, a2, a3⟩ := Dp.of M D0 a x d ra h1
    obtain ⟨as, r1⟩ := Dp.reads I d x v a1 rx
    rcases h2 with h2 | h2
    · obtain ⟨b1, b2, b3⟩ := Dp.of M D0 b y _ rb h2
      obtain ⟨bs, r2⟩ := Dp.reads I _ y u b1 ry
      exact SeqAt.notIn_tuple_data r2 r1 b2 a2 (by simp only [PyData.depth] at b3; omega) ⟨.bl _, H, I, rfl, q⟩
    · obtain ⟨b1, b2, b3⟩ := Dp.of M D0 b y _ rb h2
      obtain ⟨bs, r2⟩ := Dp.reads I _ y u b1 ry
      exact SeqAt.notIn_list_data r2 r1 b2 a2 (by simp only [PyData.depth] at b3; omega) ⟨.bl _, H, I, rfl, q⟩
/-- any comparison -/
theorem cmpR (hu : X.A.units + 66 < cLine) (op : Co) : OpR X (compareOp op.op) (rC2 X.K fa fun μ a b => evCmp μ op a b) := by
  cases op
  · exact eqR hu
  · exact neR hu
  · exact ltR hu
  · exact leR hu
  · exact gtR hu
  · exact geR hu
  · exact inR hu
  · exact notinR hu
  · exact isR
  · exact isnotR
end
end R

set_option Elab.async false
set_option linter.all false
set_option maxRecDepth 100000
set_option maxHeartbeats 4000000
/-! R3c: subscripts, slices, builtins, isinstance, methods -/
namespace R
open PySem PySem.Spec PyProof.Rows L2

section
variable {X : Cx} {fa : Nat → Option Addr}
/-! ### what a value is, by its content -/
theorem cont_lst {K : PySem.W.Frag} {t m : List Addr} {H : Hp} {bs : List Nat} {μ : Mu} {u : U} {v : V} {xs : List U} (M : Me K fa bs t m H μ) (r : Rp K fa t m m.length H u v) (h : cont μ u = some (.lst xs)) :
    ∃ a vs, v = .ref a ∧ H a = some (.lst vs) ∧ RpA K fa t m m.length H xs vs := by
  have h' : asL μ u = some xs := by
    cases u <;> simp [cont] at h <;> simp [asL, h]
  exact asL_at M r h'
theorem ob_not {K : PySem.W.Frag} {t m : List Addr} {H : Hp} {bs : List Nat} {μ : Mu} {i : Nat} {v : V} {o : U} (M : Me K fa bs t m H μ) (r : Rp K fa t m m.length H (.ob i) v) (h : μ[i]? = some o) :
    (∃ xs, o = .lst xs) ∨ (∃ ks us, o = .dk ks us) ∨ ∃ ks us, o = .dt ks us := by
  obtain ⟨a, _, _, c⟩ := M.objF r h
  cases c with
  | lst _ _ => exact .inl ⟨_, rfl⟩
  | dK _ _ => exact .inr (.inl ⟨_, _, rfl⟩)
  | dT _ _ => exact .inr (.inr ⟨_, _, rfl⟩)
theorem cont_tup {K : PySem.W.Frag} {t m : List Addr} {H : Hp} {bs : List Nat} {μ : Mu} {u : U} {v : V} {xs : List U} (M : Me K fa bs t m H μ) (r : Rp K fa t m m.length H u v) (h : cont μ u = some (.tup xs)) : u = .tup xs := by
  cases u with
  | ob i => rcases ob_not M r h with ⟨_, e⟩ | ⟨_, _, e⟩ | ⟨_, _, e⟩ <;> cases e
  | tup ys => cases h; rfl
  | _ => simp [cont] at h
theorem cont_str {K : PySem.W.Frag} {t m : List Addr} {H : Hp} {bs : List Nat} {μ : Mu} {u : U} {v : V} {x : Str} (M : Me K fa bs t m H μ) (r : Rp K fa t m m.length H u v) (h : cont μ u = some (.str x)) : u = .str x := by
  cases u with
  | ob i => rcases ob_not M r h with ⟨_, e⟩ | ⟨_, _, e⟩ | ⟨_, _, e⟩ <;> cases e
  | str ys => cases h; rfl
  | _ => simp [cont] at h

theorem atI_ok {K : PySem.W.Frag} {t m : List Addr} {n : Nat} {H : Hp} {xs : List U} {vs : List V} {i : Int} {u : U} (r : RpA K fa t m n H xs vs) (h : atI xs i = some u) : ∃ v, atI vs i = some v ∧ Rp K fa t m n H u v := by
  unfold atI at h ⊢
  rw [r.length] at h
  cases e : ixN vs.length i with
  | none => rw [e] at h; cases h
  | some j =>
    rw [e] at h
    exact r.get h
def rIdx (K : PySem.W.Frag) (fa : Nat → Option Addr) : R2 := fun x y H Q => ∃ t bs m μ a b u, Me K fa bs t m H μ ∧ Rp K fa t m m.length H a x ∧ Rp K fa t m m.length H b y ∧ evIdx μ a b = some u ∧ ∀ v, Rp K fa t m m.length H u v → Q v H
theorem idxR (hu : X.A.units + 66 < cLine) : IxR X (rIdx X.K fa) := by
  intro value slice pins s σ H x y v u Q I rx ry h hs
  obtain ⟨t, bs, m, μ, a, b, w, M, ra, rb, h, q⟩ := h
  have dict : ∀ o, dget μ a b = some o → o = some w → wpAny (model X.prog X.w) X.A (subscriptTail value slice v u) (EP X pins σ Q) X.xe s := fun o ho eo => by
    obtain ⟨p, rfl, _, hg⟩ := dget_ok M ra rb ho
    cases rx
    rcases hg with ⟨u', v', rfl, g, r'⟩ | ⟨rfl, g⟩
    · cases eo
      exact tail_any (dict_typeIs I g) PySem.F.slot_dict_getitem.lookup (d_getItem (by omega) I g ry fun w' s3 I3 rw' => ⟨v', H, I3, rw', q v' r'⟩) (hs)
    · cases eo
  simp only [evIdx] at h
  split at h
  · cases ho : dget μ a b with
    | none => rw [ho] at h; cases h
    | some o => rw [ho] at h; exact dict o ho h
  · cases ho : dget μ a b with
    | none => rw [ho] at h; cases h
    | some o => rw [ho] at h; exact dict o ho h
  · rename_i z hc
    have ea := cont_str M ra hc
    subst ea
    split at h
    · rename_i j
      split at h
      · rename_i hz
        split at h
        · rename_i c hcc
          cases h
          cases ra; cases rb
          have hl := sz_line
          exact ix_seq value slice pins s σ H _ _ v u Q I rx ry (.inr (.inr ⟨z, j, c, rfl, rfl, by omega, hcc, q _ (.str _)⟩)) hs
        · cases h
      · cases h
    · cases h
  · rename_i xs hc
    have ea := cont_tup M ra hc
    subst ea
    split at h
    · rename_i j
      cases rb
      cases ra with
      | tup f r1 =>
        obtain ⟨w', e1, r'⟩ := atI_ok r1 h
        exact ix_seq value slice pins s σ H _ _ v u Q I rx ry (.inr (.inl ⟨_, _, j, w', rfl, rfl, f.sq, e1, q _ r'⟩)) hs
    · cases h
  · rename_i xs hc
    obtain ⟨p, vs, rfl, hH, r1⟩ := cont_lst M ra hc
    split at h
    · rename_i j
      cases rb
      obtain ⟨w', e1, r'⟩ := atI_ok r1 h
      exact ix_seq value slice pins s σ H _ _ v u Q I rx ry (.inl ⟨_, _, j, w', rfl, rfl, SqL.of hH, e1, q _ r'⟩) hs
    · cases h
  · cases h

/-! ### slices -/
def rSlU (K : PySem.W.Frag) (fa : Nat → Option Addr) (al : Bool) : V → Option Int → Option Int → Hp → VK → Prop := fun x lo hi H Q => ∃ t bs m μ a l h u μ', Me K fa bs t m H μ ∧ Rp K fa t m m.length H a x ∧ bnd l = some lo ∧ bnd h = some hi ∧ evSlc al μ a l h = some (u, μ') ∧ Kn K fa bs t m H u μ' Q
theorem cut_ok {K : PySem.W.Frag} {t m : List Addr} {n : Nat} {H : Hp} {xs : List U} {vs : List V} (lo hi : Option Int) (r : RpA K fa t m n H xs vs) : RpA K fa t m n H (cutU xs lo hi) (cutV vs lo hi) := by
  unfold cutU cutV
  rw [r.length]
  exact (r.drop _).take _
theorem cut_whole {xs : List U} {lo hi : Option Int} (h : HT.sIx xs.length 0 lo = 0 ∧ HT.sIx xs.length xs.length hi = xs.length) : cutU xs lo hi = xs := by
  unfold cutU
  rw [h.1, h.2, List.drop_zero, Nat.sub_zero, List.take_length]
theorem slR (al : Bool) : SlR X (rSlU X.K fa al) := by
  intro pins s σ H x v vl vu lo hi sl Q I rx hs pl pu h
  obtain ⟨t, bs, m, μ, a, l, hh, u, μ', M, ra, e1, e2, h, k⟩ := h
  simp only [evSlc, e1, e2] at h
  split at h
  · rename_i xs
    cases h
    cases ra with
    | tup f r1 =>
      refine sl_tupA pins s σ H _ v vl vu lo hi sl Q I rx hs pl pu ⟨_, _, rfl, f.sq, fun hw => ?_, fun _ p hp => k.tup M hp (cut_ok lo hi r1)⟩
      rw [← r1.length] at hw
      refine k.here M ?_
      rw [cut_whole hw]
      exact .tup f r1
  · rename_i z
    split at h
    · rename_i hz
      cases h
      cases ra
      have hl := sz_line
      exact C8.sl_txt pins s σ H _ v vl vu lo hi sl Q I rx hs pl pu ⟨z, rfl, by omega, k.here M (.str _)⟩
    · cases h
  · split at h
    · rename_i xs hx
      obtain ⟨rfl, rfl⟩ := Prod.mk.inj (Option.some.inj h)
      obtain ⟨p, vs, rfl, hH, r1⟩ := asL_at M ra hx
      exact sl_list pins s σ H _ v vl vu lo hi sl Q I rx hs pl pu ⟨_, _, rfl, SqL.of hH, fun p hp => k.lst M hp (cut_ok lo hi r1)⟩
    · cases h

/-! ### truth -/
def rTru (K : PySem.W.Frag) (fa : Nat → Option Addr) : V → Hp → (Bool → Hp → Prop) → Prop := fun x H Q => ∃ t bs m μ a b, Me K fa bs t m H μ ∧ Rp K fa t m m.length H a x ∧ truth μ a = some b ∧ Q b H
theorem truV_ok {K : PySem.W.Frag} {t m : List Addr} {H : Hp} {bs : List Nat} {μ : Mu} {a : U} {x : V} {b : Bool} (M : Me K fa bs t m H μ) (r : Rp K fa t m m.length H a x) (h : truth μ a = some b) : TruV K x H b := by
  have hl := sz_line
  cases a with
  | non => cases r; cases h; rfl
  | bl c => cases r; cases h; rfl
  | int i => cases r; cases h; rfl
  | str z =>
    cases r
    simp only [truth] at h
    split at h
    · rename_i hz; cases h; exact ⟨by omega, rfl⟩
    · cases h
  | tup xs =>
    cases h
    cases r with
    | tup f ra => exact .inr (.inl ⟨_, f.sq, by cases ra <;> rfl⟩)
  | lst xs =>
    cases h
    cases r with
    | lst f ra => exact .inl ⟨_, f.sq, by cases ra <;> rfl⟩
  | ob i =>
    simp only [truth] at h
    split at h
    · rename_i xs e
      cases h
      obtain ⟨p, rfl, _, c⟩ := M.objF r e
      cases c with
      | lst hH ra => exact .inl ⟨_, SqL.of hH, by cases ra <;> rfl⟩
    · rename_i ks us e
      cases h
      obtain ⟨p, rfl, _, c⟩ := M.objF r e
      cases c with
      | @dK kvs _ hH ra => exact .inr (.inr ⟨_, hH, by cases kvs <;> rfl⟩)
    · cases h
  | _ => simp [truth] at h
theorem truR : TruR X (rTru X.K fa) := by
  intro pins s σ H x v Q I rx h
  obtain ⟨t, bs, m, μ, a, b, M, ra, h, q⟩ := h
  exact tru_ok pins s σ H x v Q I rx ⟨b, truV_ok M ra h, q⟩
end
end R

set_option Elab.async false
set_option linter.all false
set_option maxRecDepth 100000
set_option maxHeartbeats 4000000
/-! R3d: builtin functions, isinstance, methods, stores, by values -/
namespace R
open PySem PySem.Spec PyProof.Rows L2

section
variable {X : Cx} {fa : Nat → Option Addr}
/-- values in, a value out -/
def rVs (K : PySem.W.Frag) (fa : Nat → Option Addr) (f : Mu → List U → Option (U × Mu)) : List V → Hp → VK → Prop := fun xs H Q => ∃ t bs m μ us u μ', Me K fa bs t m H μ ∧ RpA K fa t m m.length H us xs ∧ f μ us = some (u, μ') ∧ Kn K fa bs t m H u μ' Q
theorem rpa1 {K : PySem.W.Frag} {t m : List Addr} {n : Nat} {H : Hp} {u : U} {xs : List V} (r : RpA K fa t m n H [u] xs) : ∃ v, xs = [v] ∧ Rp K fa t m n H u v := by
  cases r with
  | cons h q => cases q; exact ⟨_, rfl, h⟩
theorem rpa2 {K : PySem.W.Frag} {t m : List Addr} {n : Nat} {H : Hp} {u w : U} {xs : List V} (r : RpA K fa t m n H [u, w] xs) : ∃ v z, xs = [v, z] ∧ Rp K fa t m n H u v ∧ Rp K fa t m n H w z := by
  cases r with
  | cons h q =>
    obtain ⟨z, rfl, h2⟩ := rpa1 q
    exact ⟨_, z, rfl, h, h2⟩
def biF (b : Bi) : Mu → List U → Option (U × Mu) := fun μ us => match evBi μ b us with
  | some u => some (u, μ)
  | none => none
theorem biF_some {b : Bi} {μ μ' : Mu} {us : List U} {u : U} (h : biF b μ us = some (u, μ')) : evBi μ b us = some u ∧ μ' = μ := by
  unfold biF at h
  split at h
  · rename_i u' e
    cases h
    exact ⟨e, rfl⟩
  · cases h
theorem intsRp {K : PySem.W.Frag} {t m : List Addr} {n : Nat} {H : Hp} : ∀ {us : List U} {vs : List V} {ns : List Int}, RpA K fa t m n H us vs → mapO asInt us = some ns → vs = ns.map V.int
  | _, _, _, .nil, h => by cases h; rfl
  | _, _, _, .cons r ra, h => by
    obtain ⟨z, zs, e1, e2, rfl⟩ := mapO_cons h
    rw [intsRp ra e2]
    cases r <;> simp [asInt] at e1
    subst e1; rfl
theorem blsRp {K : PySem.W.Frag} {t m : List Addr} {n : Nat} {H : Hp} : ∀ {us : List U} {vs : List V} {ns : List Bool}, RpA K fa t m n H us vs → mapO asBl us = some ns → vs = ns.map V.bl
  | _, _, _, .nil, h => by cases h; rfl
  | _, _, _, .cons r ra, h => by
    obtain ⟨z, zs, e1, e2, rfl⟩ := mapO_cons h
    rw [blsRp ra e2]
    cases r <;> simp [asBl] at e1
    subst e1; rfl
theorem lenR : CallR X (.builtin "len") (rVs X.K fa (biF .len)) := by
  intro pins s σ H xs us Q I rx h
  obtain ⟨t, bs, m, μ, as, u, μ', M, ra, h, k⟩ := h
  obtain ⟨h, rfl⟩ := biF_some h
  have hl := sz_line
  match as, h with
  | [a], h =>
    obtain ⟨v, rfl, r⟩ := rpa1 ra
    simp only [evBi] at h
    split at h
    · rename_i z hc
      have ea := cont_str M r hc
      subst ea
      split at h
      · rename_i hz
        cases h
        cases r
        exact call_len pins s σ H _ us Q I rx ⟨_, _, rfl, ⟨by omega, rfl⟩, k.here M (.int _)⟩
      · cases h
    · rename_i ys hc
      have ea := cont_tup M r hc
      subst ea
      cases h
      cases r with
      | tup f r1 => exact call_len pins s σ H _ us Q I rx ⟨_, _, rfl, .inr ⟨_, f.sq, rfl⟩, by rw [← r1.length]; exact k.here M (.int _)⟩
    · rename_i ys hc
      obtain ⟨p, vs, rfl, hH, r1⟩ := cont_lst M r hc
      cases h
      exact call_len pins s σ H _ us Q I rx ⟨_, _, rfl, .inl ⟨_, SqL.of hH, rfl⟩, by rw [← r1.length]; exact k.here M (.int _)⟩
    · rename_i ks ys hc
      obtain ⟨p, kvs, rfl, hH, rfl, r1⟩ := dk_at M r hc
      cases h
      exact call_lenD pins s σ H _ us Q I rx ⟨_, _, rfl, hH, by have q := k.here M (.int _); rw [List.length_map] at q; exact q⟩
    · rename_i ks ys hc
      obtain ⟨p, kvs, rfl, hH, rfl, r1⟩ := dt_at M r hc
      cases h
      exact call_len_dT pins s σ H _ us Q I rx ⟨_, _, rfl, hH, by have q := k.here M (.int _); rw [List.length_map] at q; exact q⟩
    · cases h
  | [], h => simp [evBi] at h
  | _ :: _ :: _, h => simp [evBi] at h
theorem intR : CallR X (.type "int") (rVs X.K fa (biF .int)) := by
  intro pins s σ H xs us Q I rx h
  obtain ⟨t, bs, m, μ, as, u, μ', M, ra, h, k⟩ := h
  obtain ⟨h, rfl⟩ := biF_some h
  match as, h with
  | [.int i], h =>
    obtain ⟨v, rfl, r⟩ := rpa1 ra
    cases h; cases r
    exact call_int1 pins s σ H _ us Q I rx (.inl ⟨i, rfl, k.here M (.int _)⟩)
  | [.bl b], h =>
    obtain ⟨v, rfl, r⟩ := rpa1 ra
    cases h; cases r
    exact call_int1 pins s σ H _ us Q I rx (.inr ⟨b, rfl, k.here M (.int _)⟩)
theorem absR : CallR X (.builtin "abs") (rVs X.K fa (biF .abs)) := by
  intro pins s σ H xs us Q I rx h
  obtain ⟨t, bs, m, μ, as, u, μ', M, ra, h, k⟩ := h
  obtain ⟨h, rfl⟩ := biF_some h
  match as, h with
  | [.int i], h =>
    obtain ⟨v, rfl, r⟩ := rpa1 ra
    cases h; cases r
    exact call_abs pins s σ H _ us Q I rx ⟨i, rfl, k.here M (.int _)⟩
theorem bls_ok {K : PySem.W.Frag} {t m : List Addr} {H : Hp} {bs : List Nat} {μ : Mu} {a : U} {v : V} {ns : List Bool} (M : Me K fa bs t m H μ) (r : Rp K fa t m m.length H a v) (h : bls μ a = some ns) : ∃ p, v = .ref p ∧ SqL K H p (ns.map V.bl) := by
  unfold bls at h
  split at h
  · rename_i xs e
    obtain ⟨p, vs, rfl, hH, r1⟩ := asL_at M r e
    have := blsRp r1 h
    subst this
    exact ⟨p, rfl, SqL.of hH⟩
  · cases h
theorem intL_ok {K : PySem.W.Frag} {t m : List Addr} {H : Hp} {bs : List Nat} {μ : Mu} {a : U} {v : V} {ns : List Int} (M : Me K fa bs t m H μ) (r : Rp K fa t m m.length H a v) (h : intL μ a = some ns) : ∃ p, v = .ref p ∧ SqL K H p (ns.map V.int) := by
  unfold intL at h
  split at h
  · rename_i xs e
    obtain ⟨p, vs, rfl, hH, r1⟩ := asL_at M r e
    have := intsRp r1 h
    subst this
    exact ⟨p, rfl, SqL.of hH⟩
  · cases h
theorem intT_ok {K : PySem.W.Frag} {t m : List Addr} {H : Hp} {bs : List Nat} {μ : Mu} {a : U} {v : V} {ns : List Int} (M : Me K fa bs t m H μ) (r : Rp K fa t m m.length H a v) (h : intT μ a = some ns) : ∃ p, v = .ref p ∧ (SqL K H p (ns.map V.int) ∨ SqT K H p (ns.map V.int)) := by
  unfold intT at h
  split at h
  · rename_i xs e
    obtain ⟨p, vs, rfl, hH, r1⟩ := asS_ok M r e
    have := intsRp r1 h
    subst this
    exact ⟨p, rfl, hH⟩
  · cases h
theorem allR (hc : X.calm = true) : CallR X (.builtin "all") (rVs X.K fa (biF .all)) := by
  intro pins s σ H xs us Q I rx h
  obtain ⟨t, bs, m, μ, as, u, μ', M, ra, h, k⟩ := h
  obtain ⟨h, rfl⟩ := biF_some h
  match as, h with
  | [a], h =>
    obtain ⟨v, rfl, r⟩ := rpa1 ra
    simp only [evBi, Option.map_eq_some_iff] at h
    obtain ⟨ns, e, rfl⟩ := h
    obtain ⟨p, rfl, hS⟩ := bls_ok M r e
    exact cr_all hc pins s σ H _ us Q I rx ⟨p, ns, rfl, hS, k.here M (.bl _)⟩
  | [], h => simp [evBi] at h
  | _ :: _ :: _, h => simp [evBi] at h
theorem anyR (hc : X.calm = true) : CallR X (.builtin "any") (rVs X.K fa (biF .any)) := by
  intro pins s σ H xs us Q I rx h
  obtain ⟨t, bs, m, μ, as, u, μ', M, ra, h, k⟩ := h
  obtain ⟨h, rfl⟩ := biF_some h
  match as, h with
  | [a], h =>
    obtain ⟨v, rfl, r⟩ := rpa1 ra
    simp only [evBi, Option.map_eq_some_iff] at h
    obtain ⟨ns, e, rfl⟩ := h
    obtain ⟨p, rfl, hS⟩ := bls_ok M r e
    exact cr_any hc pins s σ H _ us Q I rx ⟨p, ns, rfl, hS, k.here M (.bl _)⟩
  | [], h => simp [evBi] at h
  | _ :: _ :: _, h => simp [evBi] at h
theorem sumR (hc : X.calm = true) : CallR X (.builtin "sum") (rVs X.K fa (biF .sum)) := by
  intro pins s σ H xs us Q I rx h
  obtain ⟨t, bs, m, μ, as, u, μ', M, ra, h, k⟩ := h
  obtain ⟨h, rfl⟩ := biF_some h
  match as, h with
  | [a], h =>
    obtain ⟨v, rfl, r⟩ := rpa1 ra
    simp only [evBi, Option.map_eq_some_iff] at h
    obtain ⟨ns, e, rfl⟩ := h
    obtain ⟨p, rfl, hS⟩ := intL_ok M r e
    exact cr_sum hc pins s σ H _ us Q I rx ⟨p, ns, rfl, hS, k.here M (.int _)⟩
  | [], h => simp [evBi] at h
  | _ :: _ :: _, h => simp [evBi] at h
theorem min2R (hc : X.calm = true) : CallR X (.builtin "min") (rVs X.K fa (biF .min2)) := by
  intro pins s σ H xs us Q I rx h
  obtain ⟨t, bs, m, μ, as, u, μ', M, ra, h, k⟩ := h
  obtain ⟨h, rfl⟩ := biF_some h
  match as, h with
  | [.int i, .int j], h =>
    obtain ⟨v, z, rfl, r, r2⟩ := rpa2 ra
    cases h; cases r; cases r2
    exact call_min2 hc pins s σ H _ us Q I rx ⟨i, j, rfl, k.here M (.int _)⟩
theorem max2R (hc : X.calm = true) : CallR X (.builtin "max") (rVs X.K fa (biF .max2)) := by
  intro pins s σ H xs us Q I rx h
  obtain ⟨t, bs, m, μ, as, u, μ', M, ra, h, k⟩ := h
  obtain ⟨h, rfl⟩ := biF_some h
  match as, h with
  | [.int i, .int j], h =>
    obtain ⟨v, z, rfl, r, r2⟩ := rpa2 ra
    cases h; cases r; cases r2
    exact call_max2 hc pins s σ H _ us Q I rx ⟨i, j, rfl, k.here M (.int _)⟩
theorem reads_ints {h : Heap} : ∀ {vs : List Value} {ns : List Int}, Vals (ns.map V.int) vs → ReadsAll h vs (ns.map PyData.int) []
  | [], [], _ => ReadsAll.nil
  | v :: vs, n :: ns, .cons r t => by
    obtain ⟨k, rfl⟩ := r
    exact ReadsAll.cons (as := []) (bs := []) (Reads.int n k) (reads_ints t)
theorem alike_intsAll (ns : List Int) : PySem.W.AlikeAll (ns.map PyData.int) := by
  refine ⟨fun x hx y hy => ?_, fun x hx => ?_⟩
  · obtain ⟨i, _, rfl⟩ := List.mem_map.mp hx
    obtain ⟨j, _, rfl⟩ := List.mem_map.mp hy
    rfl
  · obtain ⟨i, _, rfl⟩ := List.mem_map.mp hx
    exact fun z => by cases z
theorem maxD_ints : ∀ (ns : List Int) (x : Int), PySem.W.maxD (.int x) (ns.map PyData.int) = .int (ns.foldl (fun a b => if a < b then b else a) x)
  | [], x => rfl
  | n :: ns, x => by
    have ih := maxD_ints ns (if x < n then n else x)
    unfold PySem.W.maxD at ih ⊢
    rw [List.map_cons, List.foldl_cons, List.foldl_cons, ← ih]
    congr 1
    rw [PySem.W.dataLt_int]
    by_cases h : x < n <;> simp [h]
theorem minD_ints : ∀ (ns : List Int) (x : Int), PySem.W.minD (.int x) (ns.map PyData.int) = .int (ns.foldl (fun a b => if b < a then b else a) x)
  | [], x => rfl
  | n :: ns, x => by
    have ih := minD_ints ns (if n < x then n else x)
    unfold PySem.W.minD at ih ⊢
    rw [List.map_cons, List.foldl_cons, List.foldl_cons, ← ih]
    congr 1
    rw [PySem.W.dataLt_int]
    by_cases h : n < x <;> simp [h]
theorem depth_intsAll (ns : List Int) : PyData.depthAll (ns.map PyData.int) = 0 := PySem.W.depth_ints ns
theorem max1R (hc : X.calm = true) (hu : X.A.units + 66 < cLine) : CallR X (.builtin "max") (rVs X.K fa (biF .max1)) := by
  intro pins s σ H xs us Q I rx h
  obtain ⟨t, bs, m, μ, as, u, μ', M, ra, h, k⟩ := h
  obtain ⟨h, rfl⟩ := biF_some h
  match as, h with
  | [a], h =>
    obtain ⟨v, rfl, r⟩ := rpa1 ra
    simp only [evBi, Option.map_eq_some_iff] at h
    obtain ⟨z, e, rfl⟩ := h
    cases e1 : intT μ' a with
    | none => rw [e1] at e; cases e
    | some ns =>
      rw [e1] at e
      obtain ⟨p, rfl, hS⟩ := intT_ok M r e1
      obtain ⟨uu, rfl, ru⟩ := vals1 rx
      cases ru
      match ns, e with
      | n :: ns, e =>
        cases e
        have dz : X.A.units + 1 + PyData.depthAll (PyData.int n :: ns.map PyData.int) < cLine := by
          have := depth_intsAll (n :: ns)
          rw [List.map_cons] at this
          rw [this]; omega
        rcases hS with hS | hS
        · obtain ⟨its, rv, pl, _⟩ := I.list hS
          refine PySem.W.max_list_data (I.ok.hd hc) pl.isList (reads_ints rv) (alike_intsAll (n :: ns)) dz fun i v h' tk bs hv hr hk => ?_
          rw [maxD_ints] at hr
          cases hr
          exact ⟨.int _, H, I.kept (t' := tk) hk, ⟨_, rfl⟩, k.here M (.int _)⟩
        · obtain ⟨its, rv, pl, _⟩ := I.tuple hS
          refine PySem.W.max_tuple_data (I.ok.hd hc) (show s.heap.IsTuple p its.toArray from pl) (reads_ints rv) (alike_intsAll (n :: ns)) dz fun i v h' tk bs hv hr hk => ?_
          rw [maxD_ints] at hr
          cases hr
          exact ⟨.int _, H, I.kept (t' := tk) hk, ⟨_, rfl⟩, k.here M (.int _)⟩
  | [], h => simp [evBi] at h
  | _ :: _ :: _, h => simp [evBi] at h
theorem min1R (hc : X.calm = true) (hu : X.A.units + 66 < cLine) : CallR X (.builtin "min") (rVs X.K fa (biF .min1)) := by
  intro pins s σ H xs us Q I rx h
  obtain ⟨t, bs, m, μ, as, u, μ', M, ra, h, k⟩ := h
  obtain ⟨h, rfl⟩ := biF_some h
  match as, h with
  | [a], h =>
    obtain ⟨v, rfl, r⟩ := rpa1 ra
    simp only [evBi, Option.map_eq_some_iff] at h
    obtain ⟨z, e, rfl⟩ := h
    cases e1 : intT μ' a with
    | none => rw [e1] at e; cases e
    | some ns =>
      rw [e1] at e
      obtain ⟨p, rfl, hS⟩ := intT_ok M r e1
      obtain ⟨uu, rfl, ru⟩ := vals1 rx
      cases ru
      match ns, e with
      | n :: ns, e =>
        cases e
        have dz : X.A.units + 1 + PyData.depthAll (PyData.int n :: ns.map PyData.int) < cLine := by
          have := depth_intsAll (n :: ns)
          rw [List.map_cons] at this
          rw [this]; omega
        rcases hS with hS | hS
        · obtain ⟨its, rv, pl, _⟩ := I.list hS
          refine PySem.W.min_list_data (I.ok.hd hc) pl.isList (reads_ints rv) (alike_intsAll (n :: ns)) dz fun i v h' tk bs hv hr hk => ?_
          rw [minD_ints] at hr
          cases hr
          exact ⟨.int _, H, I.kept (t' := tk) hk, ⟨_, rfl⟩, k.here M (.int _)⟩
        · obtain ⟨its, rv, pl, _⟩ := I.tuple hS
          refine PySem.W.min_tuple_data (I.ok.hd hc) (show s.heap.IsTuple p its.toArray from pl) (reads_ints rv) (alike_intsAll (n :: ns)) dz fun i v h' tk bs hv hr hk => ?_
          rw [minD_ints] at hr
          cases hr
          exact ⟨.int _, H, I.kept (t' := tk) hk, ⟨_, rfl⟩, k.here M (.int _)⟩
  | [], h => simp [evBi] at h
  | _ :: _ :: _, h => simp [evBi] at h

/-- the name, the value of each builtin -/
def Bi.nm : Bi → Str
  | .len => "len" | .int => "int" | .abs => "abs" | .all => "all" | .any => "any" | .sum => "sum" | .min1 => "min" | .max1 => "max" | .min2 => "min" | .max2 => "max"
end
end R

set_option Elab.async false
set_option linter.all false
set_option maxRecDepth 100000
set_option maxHeartbeats 4000000
/-! R3e: expressions -/
namespace R
open PySem PySem.Spec PyProof.Rows L2

theorem _root_.L2.PE.imp {X : Cx} {e : Expr} {t t' : TE} (h : PE X e t) (hi : ∀ σ H Q, t' σ H Q → t σ H Q) : PE X e t' := R.PE.imp h hi
theorem _root_.L2.PT.imp {X : Cx} {e : Expr} {t t' : TT} (h : PT X e t) (hi : ∀ σ H Q, t' σ H Q → t σ H Q) : PT X e t' := R.PT.imp h hi
theorem _root_.L2.PW.imp {X : Cx} {e : Expr} {t t' : TT} (h : PW X e t) (hi : ∀ σ H Q, t' σ H Q → t σ H Q) : PW X e t' := R.PW.imp h hi
theorem _root_.L2.PA.imp {X : Cx} {e : List Expr} {t t' : TA} (h : PA X e t) (hi : ∀ σ H Q, t' σ H Q → t σ H Q) : PA X e t' := R.PA.imp h hi
theorem _root_.L2.PS.imp {X : Cx} {e : Stmt} {t t' : TS} (h : PS X e t) (hi : ∀ D σ H, t' D σ H → t D σ H) : PS X e t' := R.PS.imp h hi
theorem _root_.L2.PSs.imp {X : Cx} {e : List Stmt} {t t' : TS} (h : PSs X e t) (hi : ∀ D σ H, t' D σ H → t D σ H) : PSs X e t' := R.PSs.imp h hi
/-- the forms that an expression of ours may have -/
def okh : Expr → Bool
  | .Name .. | .Constant .. | .BinOp .. | .UnaryOp .. | .Compare .. | .BoolOp .. | .IfExp .. | .Subscript .. | .Call .. | .Tuple .. | .List .. | .Dict .. | .ListComp .. => true
  | _ => false
theorem okh_star {e : Expr} {es : List Expr} {env : PySem.Env} (h : okh e = true) : starEach (e :: es) env = (false, eval e env) :: starEach es env := by
  cases e <;> first | rfl | cases h
theorem okh_back : ∀ {es : List Expr} {env : PySem.Env} {pos : Pos}, es.all okh = true → (backTo pos (starEach es env)).any (·.1) = false
  | [], _, _, _ => rfl
  | e :: es, env, pos, h => by
    simp only [List.all_cons, Bool.and_eq_true] at h
    rw [okh_star h.1]
    have ih := okh_back (env := env) (pos := pos) h.2
    show (false || (backTo pos (starEach es env)).any (·.1)) = false
    rw [ih] <;> rfl
theorem okh_all : ∀ {es : List Expr} {env : PySem.Env} {pos : Pos}, es.all okh = true → (backTo pos (starEach es env)).all (fun x => !x.1) = true
  | [], _, _, _ => rfl
  | e :: es, env, pos, h => by
    simp only [List.all_cons, Bool.and_eq_true] at h
    rw [okh_star h.1]
    have ih := okh_all (env := env) (pos := pos) h.2
    show (true && (backTo pos (starEach es env)).all (fun x => !x.1)) = true
    rw [ih] <;> rfl
theorem okh_ix {e : Expr} (h : okh e = true) : PlainIx e := by
  intro o i
  cases e <;> first | rfl | cases h
theorem okh_mark {e : Expr} {op : CmpOp} (h : okh e = true) : behindInMarks op e = false := by
  cases e <;> first | rfl | cases h
/-- a receiver of a method: no call without arguments -/
def okr : Expr → Bool
  | .Name .. | .Subscript .. => true
  | .Call _ (_ :: _) [] _ => true
  | _ => false
theorem okr_base {e : Expr} {m : Str} {env : PySem.Env} {w : Sem Value} (h : okr e = true) : attributeBase e m env w = w := by
  cases e with
  | Call f as kw pos =>
    cases as with
    | nil => cases h
    | cons a as => cases kw <;> first | (cases f <;> (unfold attributeBase; rfl)) | cases h
  | Name => unfold attributeBase; rfl
  | Subscript => unfold attributeBase; rfl
  | _ => cases h

section
variable {X : Cx} {fa : Nat → Option Addr} {cal : Nat → List U → Mu → Option (U × Mu)} {n0 : Nat}
abbrev PEv (X : Cx) (fa : Nat → Option Addr) (cal : Nat → List U → Mu → Option (U × Mu)) (n0 : Nat) (x : Expr) (e : E) : Prop := PE X x (tE X.K fa n0 (evalE cal n0 e))
abbrev PTv (X : Cx) (fa : Nat → Option Addr) (cal : Nat → List U → Mu → Option (U × Mu)) (n0 : Nat) (x : Expr) (e : E) : Prop := PT X x (tT X.K fa n0 (evalE cal n0 e))
abbrev PAv (X : Cx) (fa : Nat → Option Addr) (cal : Nat → List U → Mu → Option (U × Mu)) (n0 : Nat) (x : List Expr) (e : List E) : Prop := PA X x (tL X.K fa n0 (evalL cal n0 e))
variable {a b c : E} {xa xb xc : Expr} {pos : Pos}

/-- a test by its value -/
theorem t_of_e (h : PEv X fa cal n0 xa a) (he : ∀ whole, isTrue xa X.env whole = (do let v ← whole; standAt xa.pos; holding [v] (truthy v))) : PTv X fa cal n0 xa a :=
  (pt_truth h he).imp fun σV H Q q => by
    obtain ⟨t, bs, m, σ, μ, u, μ', d, hb, he, M, ev, tr, k⟩ := q
    exact ⟨t, bs, m, σ, μ, u, μ', hb, he, M, ev, fun m' H' v x1 M1 r1 => ⟨d, truV_ok M1 r1 tr, k m' H' x1 M1⟩⟩

theorem e_var {i : Nat} {x : Str} (hN : X.N[i]? = some x) (hv : Vis X.env.scope x) (hd : (x == ("__debug__" : Str)) = false) (hcd : (x == ("__classdict__" : Str)) = false) : PEv X fa cal n0 (.Name x pos) (.var i) :=
  (pe_var hN hv hd hcd).imp fun σV H Q q => by
    obtain ⟨t, bs, m, σ, μ, u, μ', hb, he, M, ev, k⟩ := q
    simp only [evalE] at ev
    split at ev
    · rename_i u' e
      cases ev
      obtain ⟨v, e1, r⟩ := he.at_ i _ e
      exact ⟨v, e1, k.here M r⟩
    · cases ev
theorem e_c {e : E} {x : Expr} {u : U} {v : V} (h : PE X x (tC v)) (he : ∀ σ μ, evalE cal n0 e σ μ = some (u, μ)) (r : ∀ t m n H, Rp X.K fa t m n H u v) : PEv X fa cal n0 x e :=
  h.imp fun σV H Q q => by
    obtain ⟨t, bs, m, σ, μ, u, μ', hb, hE, M, ev, k⟩ := q
    rw [he] at ev
    cases ev
    exact k.here M (r _ _ _ _)
theorem e_non {j} : PEv X fa cal n0 (.Constant .none j pos) .non := e_c pe_non (fun _ _ => rfl) fun _ _ _ _ => .non
theorem e_bl {j} {d : Bool} : PEv X fa cal n0 (.Constant (.bool d) j pos) (.bl d) := e_c pe_bl (fun _ _ => rfl) fun _ _ _ _ => .bl d
theorem e_int {j} {i : Int} : PEv X fa cal n0 (.Constant (.int i) j pos) (.int i) := e_c pe_int (fun _ _ => rfl) fun _ _ _ _ => .int i
theorem e_str {j} {z : Str} : PEv X fa cal n0 (.Constant (.str z) j pos) (.str z) := e_c pe_str (fun _ _ => rfl) fun _ _ _ _ => .str z
theorem e_gint {x : Str} {i : Int} (hg : Gl X x) (hm : ∃ t, X.mg x = some (.int i t)) (hd : (x == ("__debug__" : Str)) = false) : PEv X fa cal n0 (.Name x pos) (.gint i) := by
  obtain ⟨t, e⟩ := hm
  exact e_c (pe_glob hg e (v := .int i) ⟨t, rfl⟩ hd) (fun _ _ => rfl) fun _ _ _ _ => .int i
theorem e_fnv {x : Str} {f : Nat} {p : Addr} (hg : Gl X x) (hm : X.mg x = some (.ref p)) (hf : fa f = some p) (hd : (x == ("__debug__" : Str)) = false) : PEv X fa cal n0 (.Name x pos) (.fnv f) :=
  e_c (pe_glob hg hm (v := .ref p) rfl hd) (fun _ _ => rfl) fun _ _ _ _ => .fn hf

/-- one value, then something -/
theorem seq1 {K : PySem.W.Frag} {t m : List Addr} {bs : List Nat} {σ : Env} {σV : L2.St} {H : Hp} {μ μ1 : Mu} {u1 : U} {ev : Ev} (hb : bs.length = n0) (he : EnvR K fa t m H σ σV) (M : Me K fa bs t m H μ) (e1 : ev σ μ = some (u1, μ1))
    {R : V → Hp → Prop} (k : ∀ m1 H1 v1, Ex m H m1 H1 → Me K fa bs t m1 H1 μ1 → Rp K fa t m1 m1.length H1 u1 v1 → R v1 H1) : tE K fa n0 ev σV H R := ⟨t, bs, m, σ, μ, u1, μ1, hb, he, M, e1, k⟩
theorem seq2 {K : PySem.W.Frag} {t m : List Addr} {bs : List Nat} {σ : Env} {σV : L2.St} {H : Hp} {μ μ1 μ2 : Mu} {u1 u2 : U} {ev ev2 : Ev} (hb : bs.length = n0) (he : EnvR K fa t m H σ σV) (M : Me K fa bs t m H μ) (e1 : ev σ μ = some (u1, μ1)) (e2 : ev2 σ μ1 = some (u2, μ2))
    {R : V → V → Hp → Prop} (k : ∀ m2 H2 v1 v2, Ex m H m2 H2 → Me K fa bs t m2 H2 μ2 → Rp K fa t m2 m2.length H2 u1 v1 → Rp K fa t m2 m2.length H2 u2 v2 → R v1 v2 H2) :
    tE K fa n0 ev σV H fun x H1 => tE K fa n0 ev2 σV H1 fun y H2 => R x y H2 :=
  seq1 hb he M e1 fun m1 H1 v1 x1 M1 r1 => seq1 hb (he.ex x1) M1 e2 fun m2 H2 v2 x2 M2 r2 => k m2 H2 v1 v2 (x1.trans x2) M2 (r1.ex' x2) r2

theorem e_bin {al : Bool} {op : Bo} (ha : PEv X fa cal n0 xa a) (hb : PEv X fa cal n0 xb b) : PEv X fa cal n0 (.BinOp xa op.op xb pos) (.bin al op a b) :=
  (pe_op (binR al op) ha hb).imp fun σV H Q q => by
    obtain ⟨t, bs, m, σ, μ, u, μ', hb, he, M, ev, k⟩ := q
    simp only [evalE] at ev
    split at ev
    · rename_i u1 μ1 e1
      split at ev
      · rename_i u2 μ2 e2
        exact seq2 hb he M e1 e2 fun m2 H2 v1 v2 x M2 r1 r2 => ⟨t, bs, m2, μ2, u1, u2, u, μ', M2, r1, r2, ev, k.ex x⟩
      · cases ev
    · cases ev
theorem e_neg (ha : PEv X fa cal n0 xa a) : PEv X fa cal n0 (.UnaryOp .USub xa pos) (.neg a) :=
  (pe_un un_neg ha).imp fun σV H Q q => by
    obtain ⟨t, bs, m, σ, μ, u, μ', hb, he, M, ev, k⟩ := q
    simp only [evalE] at ev
    split at ev
    · rename_i i μ1 e1
      cases ev
      refine seq1 hb he M e1 fun m1 H1 v1 x M1 r1 => ?_
      cases r1
      exact ⟨i, rfl, k m1 H1 _ x M1 (.int _)⟩
    · cases ev
theorem cmp_rd {op : Co} {σV : L2.St} {H : Hp} {Q : VK} (q : tE X.K fa n0 (evalE cal n0 (.cmp op a b)) σV H Q) : tOp (rC2 X.K fa fun μ a b => evCmp μ op a b) (tE X.K fa n0 (evalE cal n0 a)) (tE X.K fa n0 (evalE cal n0 b)) σV H Q := by
  obtain ⟨t, bs, m, σ, μ, u, μ', hb, he, M, ev, k⟩ := q
  simp only [evalE] at ev
  split at ev
  · rename_i u1 μ1 e1
    split at ev
    · rename_i u2 μ2 e2
      split at ev
      · rename_i d e3
        cases ev
        exact seq2 hb he M e1 e2 fun m2 H2 v1 v2 x M2 r1 r2 => ⟨t, bs, m2, _, u1, u2, d, M2, r1, r2, e3, k m2 H2 _ x M2 (.bl _)⟩
      · cases ev
    · cases ev
  · cases ev
theorem e_cmp {op : Co} (hu : X.A.units + 66 < cLine) (ha : PEv X fa cal n0 xa a) (hb : PEv X fa cal n0 xb b) (hk : okh xb = true) : PEv X fa cal n0 (.Compare xa [op.op] [xb] pos) (.cmp op a b) :=
  (pe_cmpR (cmpR hu op) ha hb (okh_mark hk)).imp fun σV H Q q => cmp_rd q
theorem cmp_bl {op : Co} {σ : Env} {μ μ' : Mu} {u : U} (h : evalE cal n0 (.cmp op a b) σ μ = some (u, μ')) : ∃ d, u = .bl d := by
  simp only [evalE] at h
  split at h
  · split at h
    · split at h
      · cases h; exact ⟨_, rfl⟩
      · cases h
    · cases h
  · cases h
/-- a bool's test -/
theorem tT_bl {K : PySem.W.Frag} {ev : Ev} {σV : L2.St} {H : Hp} {Q : Bool → Hp → Prop} (hbl : ∀ σ μ u μ', ev σ μ = some (u, μ') → ∃ d, u = .bl d) (h : tT K fa n0 ev σV H Q) : tE K fa n0 ev σV H fun x H' => ∃ k, x = .bl k ∧ Q k H' := by
  obtain ⟨t, bs, m, σ, μ, u, μ', d, hb, he, M, ev, tr, k⟩ := h
  obtain ⟨e, rfl⟩ := hbl _ _ _ _ ev
  cases tr
  exact ⟨t, bs, m, σ, μ, _, μ', hb, he, M, ev, fun m1 H1 v x1 M1 r1 => by cases r1; exact ⟨d, rfl, k m1 H1 x1 M1⟩⟩
theorem t_cmp {op : Co} (hu : X.A.units + 66 < cLine) (ha : PEv X fa cal n0 xa a) (hb : PEv X fa cal n0 xb b) (hk : okh xb = true) : PTv X fa cal n0 (.Compare xa [op.op] [xb] pos) (.cmp op a b) :=
  (pt_cmpR (cmpR hu op) ha hb (okh_mark hk)).imp fun σV H Q q => cmp_rd (tT_bl (fun _ _ _ _ e => cmp_bl e) q)
theorem chain_rd {op op' : Co} {σV : L2.St} {H : Hp} {Q : VK} (q : tE X.K fa n0 (evalE cal n0 (.chain op op' a b c)) σV H Q) :
    tChain (rC2 X.K fa fun μ a b => evCmp μ op a b) (rC2 X.K fa fun μ a b => evCmp μ op' a b) (tE X.K fa n0 (evalE cal n0 a)) (tE X.K fa n0 (evalE cal n0 b)) (tE X.K fa n0 (evalE cal n0 c)) σV H Q := by
  obtain ⟨t, bs, m, σ, μ, u, μ', hb, he, M, ev, k⟩ := q
  simp only [evalE] at ev
  split at ev
  · rename_i u1 μ1 e1
    split at ev
    · rename_i u2 μ2 e2
      refine seq2 hb he M e1 e2 fun m2 H2 v1 v2 x M2 r1 r2 => ?_
      split at ev
      · rename_i e3
        cases ev
        refine ⟨t, bs, m2, _, u1, u2, false, M2, r1, r2, e3, false, rfl, ?_⟩
        rw [if_neg (by decide)]
        exact k m2 H2 _ x M2 (.bl _)
      · rename_i e3
        refine ⟨t, bs, m2, μ2, u1, u2, true, M2, r1, r2, e3, true, rfl, ?_⟩
        rw [if_pos rfl]
        split at ev
        · rename_i w μ3 e4
          split at ev
          · rename_i d e5
            cases ev
            refine seq1 hb (he.ex x) M2 e4 fun m3 H3 v3 x3 M3 r3 => ?_
            exact ⟨t, bs, m3, _, u2, w, d, M3, r2.ex' x3, r3, e5, k m3 H3 _ (x.trans x3) M3 (.bl _)⟩
          · cases ev
        · cases ev
      · cases ev
    · cases ev
  · cases ev
theorem chain_bl {op op' : Co} {σ : Env} {μ μ' : Mu} {u : U} (h : evalE cal n0 (.chain op op' a b c) σ μ = some (u, μ')) : ∃ d, u = .bl d := by
  simp only [evalE] at h
  split at h
  · split at h
    · split at h
      · cases h; exact ⟨_, rfl⟩
      · split at h
        · split at h
          · cases h; exact ⟨_, rfl⟩
          · cases h
        · cases h
      · cases h
    · cases h
  · cases h
theorem okh_last {op op' : CmpOp} {e f : Expr} (h : okh f = true) : lastMarks [op, op'] [e, f] = false := okh_mark (op := op') h
theorem e_chain {op op' : Co} (hu : X.A.units + 66 < cLine) (ha : PEv X fa cal n0 xa a) (hb : PEv X fa cal n0 xb b) (hc : PEv X fa cal n0 xc c) (hk : okh xc = true) : PEv X fa cal n0 (.Compare xa [op.op, op'.op] [xb, xc] pos) (.chain op op' a b c) :=
  (pe_chain (cmpR hu op) (cmpR hu op') ha hb hc (okh_last hk)).imp fun σV H Q q => chain_rd q
theorem t_chain {op op' : Co} (hu : X.A.units + 66 < cLine) (ha : PEv X fa cal n0 xa a) (hb : PEv X fa cal n0 xb b) (hc : PEv X fa cal n0 xc c) (hk : okh xc = true) : PTv X fa cal n0 (.Compare xa [op.op, op'.op] [xb, xc] pos) (.chain op op' a b c) :=
  (pt_chain (cmpR hu op) (cmpR hu op') ha hb hc (okh_last hk)).imp fun σV H Q q => chain_rd (tT_bl (fun _ _ _ _ e => chain_bl e) q)
theorem e_not (ha : PEv X fa cal n0 xa a) : PEv X fa cal n0 (.UnaryOp .Not xa pos) (.not a) :=
  (pe_notT ha).imp fun σV H Q q => by
    obtain ⟨t, bs, m, σ, μ, u, μ', hb, he, M, ev, k⟩ := q
    simp only [evalE] at ev
    split at ev
    · rename_i u1 μ1 e1
      split at ev
      · rename_i d e2
        cases ev
        exact seq1 hb he M e1 fun m1 H1 v1 x M1 r1 => ⟨d, truV_ok M1 r1 e2, k m1 H1 _ x M1 (.bl _)⟩
      · cases ev
    · cases ev
theorem t_not (ha : PTv X fa cal n0 xa a) : PTv X fa cal n0 (.UnaryOp .Not xa pos) (.not a) :=
  (pt_not ha).imp fun σV H Q q => by
    obtain ⟨t, bs, m, σ, μ, u, μ', d, hb, he, M, ev, tr, k⟩ := q
    simp only [evalE] at ev
    split at ev
    · rename_i u1 μ1 e1
      split at ev
      · rename_i d' e2
        cases ev
        cases tr
        exact ⟨t, bs, m, σ, μ, u1, _, d', hb, he, M, e1, e2, k⟩
      · cases ev
    · cases ev
theorem e_ite (hc : PTv X fa cal n0 xc c) (ha : PEv X fa cal n0 xa a) (hb : PEv X fa cal n0 xb b) : PEv X fa cal n0 (.IfExp xc xa xb pos) (.ite c a b) :=
  (pe_ifExp hc ha hb).imp fun σV H Q q => by
    obtain ⟨t, bs, m, σ, μ, u, μ', hb, he, M, ev, k⟩ := q
    simp only [evalE] at ev
    split at ev
    · rename_i u1 μ1 e1
      split at ev
      · rename_i e2
        refine ⟨t, bs, m, σ, μ, u1, μ1, true, hb, he, M, e1, e2, fun m1 H1 x1 M1 => ?_⟩
        simp only [↓reduceIte]
        exact ⟨t, bs, m1, σ, μ1, u, μ', hb, he.ex x1, M1, ev, k.ex x1⟩
      · rename_i e2
        refine ⟨t, bs, m, σ, μ, u1, μ1, false, hb, he, M, e1, e2, fun m1 H1 x1 M1 => ?_⟩
        simp only [↓reduceIte, Bool.false_eq_true]
        exact ⟨t, bs, m1, σ, μ1, u, μ', hb, he.ex x1, M1, ev, k.ex x1⟩
      · cases ev
    · cases ev
/-- a test of a if c else b -/
theorem pt_ifExp {tc ta tb : TT} (hc : PT X xc tc) (ha : PT X xa ta) (hb : PT X xb tb) : PT X (.IfExp xc xa xb pos) (fun σ H Q => tc σ H fun d H1 => if d = true then ta σ H1 Q else tb σ H1 Q) := by
  refine ⟨fun pins s σ H Q I h => ?_⟩
  unfold PySem.isTrue
  refine wpAny_bind (thn (hc.run pins s σ H _ I h) fun d s1 ⟨H1, I1, q1⟩ => ?_)
  cases d with
  | true => exact ha.run pins s1 σ H1 Q I1 q1
  | false => exact hb.run pins s1 σ H1 Q I1 q1
theorem t_ite (hc : PTv X fa cal n0 xc c) (ha : PTv X fa cal n0 xa a) (hb : PTv X fa cal n0 xb b) : PTv X fa cal n0 (.IfExp xc xa xb pos) (.ite c a b) :=
  (pt_ifExp hc ha hb).imp fun σV H Q q => by
    obtain ⟨t, bs, m, σ, μ, u, μ', d, hb, he, M, ev, tr, k⟩ := q
    simp only [evalE] at ev
    split at ev
    · rename_i u1 μ1 e1
      split at ev
      · rename_i e2
        refine ⟨t, bs, m, σ, μ, u1, μ1, true, hb, he, M, e1, e2, fun m1 H1 x1 M1 => ?_⟩
        simp only [↓reduceIte]
        exact ⟨t, bs, m1, σ, μ1, u, μ', d, hb, he.ex x1, M1, ev, tr, fun m2 H2 x2 M2 => k m2 H2 (x1.trans x2) M2⟩
      · rename_i e2
        refine ⟨t, bs, m, σ, μ, u1, μ1, false, hb, he, M, e1, e2, fun m1 H1 x1 M1 => ?_⟩
        simp only [↓reduceIte, Bool.false_eq_true]
        exact ⟨t, bs, m1, σ, μ1, u, μ', d, hb, he.ex x1, M1, ev, tr, fun m2 H2 x2 M2 => k m2 H2 (x1.trans x2) M2⟩
      · cases ev
    · cases ev
theorem e_idx (hu : X.A.units + 66 < cLine) (ha : PEv X fa cal n0 xa a) (hb : PEv X fa cal n0 xb b) (hk : okh xb = true) : PEv X fa cal n0 (.Subscript xa xb pos) (.idx a b) :=
  (pe_ix (idxR hu) ha hb (okh_ix hk)).imp fun σV H Q q => by
    obtain ⟨t, bs, m, σ, μ, u, μ', hb, he, M, ev, k⟩ := q
    simp only [evalE] at ev
    split at ev
    · rename_i u1 μ1 e1
      split at ev
      · rename_i u2 μ2 e2
        split at ev
        · rename_i w e3
          cases ev
          exact seq2 hb he M e1 e2 fun m2 H2 v1 v2 x M2 r1 r2 => ⟨t, bs, m2, _, u1, u2, _, M2, r1, r2, e3, fun v r => k m2 H2 v x M2 r⟩
        · cases ev
      · cases ev
    · cases ev
/-- arguments -/
theorem a_nil : PAv X fa cal n0 [] [] := pa_nil.imp fun σV H Q q => by
  obtain ⟨t, bs, m, σ, μ, us, μ', hb, he, M, ev, k⟩ := q
  simp only [evalL] at ev
  cases ev
  exact k m H [] (Ex.refl m H) M .nil
theorem a_cons {es : List E} {xs : List Expr} (ha : PEv X fa cal n0 xa a) (hr : PAv X fa cal n0 xs es) (hk : okh xa = true) : PAv X fa cal n0 (xa :: xs) (a :: es) :=
  (pa_cons ha hr (okh_star hk)).imp fun σV H Q q => by
    obtain ⟨t, bs, m, σ, μ, us, μ', hb, he, M, ev, k⟩ := q
    simp only [evalL] at ev
    split at ev
    · rename_i u1 μ1 e1
      split at ev
      · rename_i us2 μ2 e2
        cases ev
        exact seq1 hb he M e1 fun m1 H1 v1 x1 M1 r1 => ⟨t, bs, m1, σ, μ1, us2, _, hb, he.ex x1, M1, e2, fun m2 H2 vs x2 M2 ra => k m2 H2 _ (x1.trans x2) M2 (.cons (r1.ex' x2) ra)⟩
      · cases ev
    · cases ev
theorem e_tup {es : List E} {xs : List Expr} {j} (h : PAv X fa cal n0 xs es) : PEv X fa cal n0 (.Tuple xs j pos) (.tup es) :=
  (pe_tup h).imp fun σV H Q q => by
    obtain ⟨t, bs, m, σ, μ, u, μ', hb, he, M, ev, k⟩ := q
    simp only [evalE] at ev
    split at ev
    · rename_i us μ1 e1
      split at ev
      · rename_i hz
        cases ev
        have hl := sz_line
        exact ⟨t, bs, m, σ, μ, us, _, hb, he, M, e1, fun m1 H1 vs x1 M1 ra => ⟨by rw [← ra.length]; omega, fun p hp => (k.ex x1).tup M1 hp ra⟩⟩
      · cases ev
    · cases ev
theorem e_lst {al : Bool} {es : List E} {xs : List Expr} (h : PAv X fa cal n0 xs es) : PEv X fa cal n0 (.List xs pos) (.lst al es) :=
  (pe_lst h).imp fun σV H Q q => by
    obtain ⟨t, bs, m, σ, μ, u, μ', hb, he, M, ev, k⟩ := q
    simp only [evalE] at ev
    split at ev
    · rename_i us μ1 e1
      split at ev
      · rename_i hz
        obtain ⟨rfl, rfl⟩ := Prod.mk.inj (Option.some.inj ev)
        have hl := sz_line
        exact ⟨t, bs, m, σ, μ, us, _, hb, he, M, e1, fun m1 H1 vs x1 M1 ra => ⟨by rw [← ra.length]; omega, fun p hp => (k.ex x1).lst M1 hp ra⟩⟩
      · cases ev
    · cases ev
end
end R

set_option Elab.async false
set_option linter.all false
set_option maxRecDepth 100000
set_option maxHeartbeats 4000000
/-! R3f: temporaries that become values; slices, displays, and/or, builtins, methods -/
namespace R
open PySem PySem.Spec PyProof.Rows L2

section
variable {K : PySem.W.Frag} {fa : Nat → Option Addr} {t m m' : List Addr} {n n' : Nat} {H H' : Hp} {bs : List Nat} {μ : Mu} {D : Addr}
mutual
/-- the temporary becomes a mutable one -/
theorem Rp.ad : ∀ {u : U} {v : V}, Rp K fa (D :: t) m n H u v → Rp K fa t (m ++ [D]) n H u v
  | _, _, .non => .non
  | _, _, .bl b => .bl b
  | _, _, .int i => .int i
  | _, _, .str x => .str x
  | _, _, .tup h r => .tup ⟨h.1, fun z => by
      rcases List.mem_append.mp z with z | z
      · exact h.2.1 z
      · exact h.2.2 (by simp at z; simp [z]), fun z => h.2.2 (by simp [z])⟩ (RpA.ad r)
  | _, _, .lst h r => .lst ⟨h.1, fun z => by
      rcases List.mem_append.mp z with z | z
      · exact h.2.1 z
      · exact h.2.2 (by simp at z; simp [z]), fun z => h.2.2 (by simp [z])⟩ (RpA.ad r)
  | _, _, .dK h q z r => .dK h (fun y => by
      rcases List.mem_append.mp y with y | y
      · exact q y
      · exact z (by simp at y; simp [y])) (fun y => z (by simp [y])) (RpA.ad r)
  | _, _, .dT h q z r => .dT h (fun y => by
      rcases List.mem_append.mp y with y | y
      · exact q y
      · exact z (by simp at y; simp [y])) (fun y => z (by simp [y])) (RpA.ad r)
  | _, _, .ob hi h => .ob hi (by rw [List.getElem?_append_left (List.getElem?_eq_some_iff.mp h).1]; exact h)
  | _, _, .fn h => .fn h
  | _, _, .scr h => .scr (h.elim (fun q => .inl ⟨q.1, fun z => by
      rcases List.mem_append.mp z with z | z
      · exact q.2.1 z
      · exact q.2.2 (by simp at z; simp [z]), fun z => q.2.2 (by simp [z])⟩) .inr)
theorem RpA.ad : ∀ {us : List U} {vs : List V}, RpA K fa (D :: t) m n H us vs → RpA K fa t (m ++ [D]) n H us vs
  | _, _, .nil => .nil
  | _, _, .cons h r => .cons (Rp.ad h) (RpA.ad r)
end
mutual
theorem Rp.mono (hn : n ≤ n') : ∀ {u : U} {v : V}, Rp K fa t m n H u v → Rp K fa t m n' H u v
  | _, _, h => h.ex (Ex.refl m H) hn
/-- no mutable one within: any bound -/
theorem Rp.nomut : ∀ {u : U} {v : V}, Rp K fa t m n H u v → nomut u = true → Rp K fa t m n' H u v
  | _, _, .non, _ => .non
  | _, _, .bl b, _ => .bl b
  | _, _, .int i, _ => .int i
  | _, _, .str x, _ => .str x
  | _, _, .tup h r, z => .tup h (RpA.nomut r (by simpa [R.nomut] using z))
  | _, _, .lst h r, z => .lst h (RpA.nomut r (by simpa [R.nomut] using z))
  | _, _, .dK h q y r, z => .dK h q y (RpA.nomut r (by simpa [R.nomut] using z))
  | _, _, .dT h q y r, z => .dT h q y (RpA.nomut r (by simpa [R.nomut] using z))
  | _, _, .ob hi h, z => by simp [R.nomut] at z
  | _, _, .fn h, _ => .fn h
  | _, _, .scr h, _ => .scr h
theorem RpA.nomut : ∀ {us : List U} {vs : List V}, RpA K fa t m n H us vs → nomuts us = true → RpA K fa t m n' H us vs
  | _, _, .nil, _ => .nil
  | _, _, .cons h r, z => by
    simp only [nomuts, Bool.and_eq_true] at z
    exact .cons (Rp.nomut h z.1) (RpA.nomut r z.2)
end
theorem RpA.erase : ∀ {us : List U} {vs : List V} (i : Nat), RpA K fa t m n H us vs → RpA K fa t m n H (us.eraseIdx i) (vs.eraseIdx i)
  | _, _, _, .nil => .nil
  | _, _, 0, .cons _ r => r
  | _, _, i + 1, .cons h r => .cons h (RpA.erase i r)
theorem RpA.dropL {us : List U} {vs : List V} (r : RpA K fa t m n H us vs) : RpA K fa t m n H us.dropLast vs.dropLast := by
  rw [List.dropLast_eq_take, List.dropLast_eq_take, r.length]
  exact r.take _
theorem Ex.tmp (e : Ex m H m' H') (h : H D = none) {o : HO} : Ex m H m' (L2.upd H' D o) :=
  ⟨e.pre, fun a u q n => by rw [upd_ne (ne_of_none q h)]; exact e.keep a u q n, e.new⟩
theorem Ex.adopt (e : Ex m H m' H') (h : H D = none) : Ex m H (m' ++ [D]) H' :=
  ⟨by obtain ⟨t, rfl⟩ := e.pre; exact ⟨t ++ [D], by simp⟩, e.keep, fun a q n => by
    rcases List.mem_append.mp q with q | q
    · exact e.new a q n
    · simp at q; subst q; exact h⟩
theorem Me.adopt (M : Me K fa bs (D :: t) m H μ) (hD : D ∉ t) {o : U} (c : Ct K fa t (m ++ [D]) (m.length + 1) H D o) : Me K fa bs t (m ++ [D]) H (μ ++ [o]) := by
  have nm := (M.tt D (by simp)).1
  have e : Ex m H (m ++ [D]) H → True := fun _ => trivial
  refine ⟨by simp [M.len], by have := M.low; simp; omega, ?_, fun i a u h1 h2 => ?_, M.bd, fun a ha => ?_⟩
  · rw [List.nodup_append]
    refine ⟨M.nd, by simp, fun a ha b hb => ?_⟩
    simp at hb; subst hb
    exact fun z => nm (z ▸ ha)
  · by_cases hi : i < m.length
    · rw [List.getElem?_append_left hi] at h1
      rw [List.getElem?_append_left (by rw [← M.len]; exact hi)] at h2
      have q := M.ct i a u h1 h2
      have hb : (bs[i]?.getD m.length) ≤ (bs[i]?.getD (m ++ [D]).length) := by
        cases hb : bs[i]? with
        | none => simp
        | some b => simp
      cases q with
      | lst q r => exact .lst q (r.ad.ex (Ex.refl _ _) hb)
      | dK q r => exact .dK q (r.ad.ex (Ex.refl _ _) hb)
      | dT q r => exact .dT q (r.ad.ex (Ex.refl _ _) hb)
    · have hi' : i = m.length := by
        have := (List.getElem?_eq_some_iff.mp h1).1
        simp at this; omega
      subst hi'
      simp at h1
      rw [M.len] at h2
      simp at h2
      subst h1 h2
      have hb : bs[m.length]? = none := List.getElem?_eq_none_iff.mpr M.low
      rw [hb]
      simpa using c
  · obtain ⟨h1, o', h2, h3⟩ := M.tt a (by simp [ha])
    refine ⟨fun z => ?_, o', h2, h3⟩
    rcases List.mem_append.mp z with z | z
    · exact h1 z
    · simp at z; subst z; exact hD ha
/-- a temporary list becomes the value -/
theorem Kn.tmpL {m2 : List Addr} {H3 : Hp} {μ2 : Mu} {us : List U} {vs : List V} {al : Bool} {Q : VK} (k : Kn K fa bs t m H (fresh al (.lst us) μ2).1 (fresh al (.lst us) μ2).2 Q) (hD : H D = none) (hDt : D ∉ t) (e : Ex m H m2 H3)
    (M : Me K fa bs (D :: t) m2 H3 μ2) (hH : H3 D = some (.lst vs)) (ra : RpA K fa (D :: t) m2 m2.length H3 us vs) : Q (.ref D) H3 := by
  cases al with
  | false => exact k m2 H3 _ e (M.tw fun a ha => by simp [ha]) (.lst ⟨hH, (M.tt D (by simp)).1, hDt⟩ (ra.tw fun a ha => by simp [ha]))
  | true =>
    have ra' : RpA K fa t (m2 ++ [D]) (m2.length + 1) H3 us vs := ra.ad.ex (Ex.refl _ _) (by omega)
    exact k (m2 ++ [D]) H3 _ (e.adopt hD) (M.adopt hDt (.lst hH ra')) (.ob (by simp [← M.len]) (by simp [← M.len]))
theorem Kn.tmpK {m2 : List Addr} {H3 : Hp} {μ2 : Mu} {us : List U} {kvs : List (Key × V)} {al : Bool} {Q : VK} (k : Kn K fa bs t m H (fresh al (.dk (kvs.map (·.1)) us) μ2).1 (fresh al (.dk (kvs.map (·.1)) us) μ2).2 Q) (hD : H D = none) (hDt : D ∉ t) (e : Ex m H m2 H3)
    (M : Me K fa bs (D :: t) m2 H3 μ2) (hH : H3 D = some (.dK kvs)) (ra : RpA K fa (D :: t) m2 m2.length H3 us (kvs.map (·.2))) : Q (.ref D) H3 := by
  cases al with
  | false => exact k m2 H3 _ e (M.tw fun a ha => by simp [ha]) (.dK hH (M.tt D (by simp)).1 hDt (ra.tw fun a ha => by simp [ha]))
  | true =>
    have ra' : RpA K fa t (m2 ++ [D]) (m2.length + 1) H3 us (kvs.map (·.2)) := ra.ad.ex (Ex.refl _ _) (by omega)
    exact k (m2 ++ [D]) H3 _ (e.adopt hD) (M.adopt hDt (.dK hH ra')) (.ob (by simp [← M.len]) (by simp [← M.len]))
theorem EnvR.tn {σ : Env} {σV : L2.St} {o : HO} (h : EnvR K fa t m H σ σV) (hD : H D = none) : EnvR K fa (D :: t) m (L2.upd H D o) σ σV :=
  ⟨h.len, fun i u q => let ⟨v, a, b⟩ := h.at_ i u q; ⟨v, a, (b.tn hD).ex (Ex.upd hD) (Nat.le_refl _)⟩⟩
theorem EnvR.set {σ : Env} {σV : L2.St} {i : Nat} {u : U} {v : V} (h : EnvR K fa t m H σ σV) (r : Rp K fa t m m.length H u v) : EnvR K fa t m H (σ.set i (some u)) (σV.set i (some v)) := by
  refine ⟨by simp [h.len], fun j w q => ?_⟩
  by_cases hj : i = j
  · subst hj
    have hl : i < σ.length := by
      have := (List.getElem?_eq_some_iff.mp q).1
      simpa using this
    rw [List.getElem?_set_self hl] at q
    cases q
    exact ⟨v, by rw [List.getElem?_set_self (by rw [← h.len]; exact hl)], r⟩
  · rw [List.getElem?_set_ne hj] at q ⊢
    exact h.at_ j w q
theorem EnvR.setN {σ : Env} {σV : L2.St} {i : Nat} (h : EnvR K fa t m H σ σV) : EnvR K fa t m H (σ.set i none) (σV.set i none) := by
  refine ⟨by simp [h.len], fun j w q => ?_⟩
  by_cases hj : i = j
  · subst hj
    have hl : i < σ.length := by
      have := (List.getElem?_eq_some_iff.mp q).1
      simpa using this
    rw [List.getElem?_set_self hl] at q
    cases q
  · rw [List.getElem?_set_ne hj] at q ⊢
    exact h.at_ j w q
theorem EnvR.wipe {σ : Env} {σV : L2.St} (h : EnvR K fa t m H σ σV) : ∀ ws : List Nat, EnvR K fa t m H (wipeE σ ws) (L2.wipe σV ws)
  | [] => h
  | w :: ws => (EnvR.wipe h ws).setN
end

section
variable {X : Cx} {fa : Nat → Option Addr} {cal : Nat → List U → Mu → Option (U × Mu)} {n0 : Nat}
variable {a b c : E} {xa xb xc : Expr} {pos : Pos}
/-! ### slices -/
/-- a slice's part: left out, None or an int -/
def tPartU (te : TE) : TO := fun σ H Q => te σ H fun x H1 => ∃ o, (x = .non ∧ o = none ∨ ∃ i, x = .int i ∧ o = some i) ∧ Q o H1
theorem po_u {e : Expr} {te : TE} (h : PE X e te) : PO X (some e) (tPartU te) := by
  refine ⟨fun pins s σ H Q I hw => ?_⟩
  rw [evalPart_some]
  refine thn (h.run pins s σ H _ I hw) fun u s1 ⟨x, H1, I1, r1, o, hx, q⟩ => ?_
  rcases hx with ⟨rfl, rfl⟩ | ⟨i, rfl, rfl⟩
  · cases r1
    exact ⟨none, H1, I1, .none, q⟩
  · obtain ⟨t, rfl⟩ := r1
    exact ⟨some i, H1, I1, .int i t, q⟩
/-- a part in our language -/
def POv (X : Cx) (fa : Nat → Option Addr) (cal : Nat → List U → Mu → Option (U × Mu)) (n0 : Nat) (x : Option Expr) (e : E) : Prop :=
  PO X x (fun σV H Q => ∃ t bs m σ μ u μ' o, bs.length = n0 ∧ EnvR X.K fa t m H σ σV ∧ Me X.K fa bs t m H μ ∧ evalE cal n0 e σ μ = some (u, μ') ∧ bnd u = some o ∧ ∀ m' H', Ex m H m' H' → Me X.K fa bs t m' H' μ' → Q o H')
theorem PO.imp {e : Option Expr} {t t' : TO} (h : PO X e t) (hi : ∀ σ H Q, t' σ H Q → t σ H Q) : PO X e t' := ⟨fun pins s σ H Q I q => h.run pins s σ H Q I (hi _ _ _ q)⟩
theorem pov_none : POv X fa cal n0 none .non := PO.imp po_none fun σV H Q q => by
  obtain ⟨t, bs, m, σ, μ, u, μ', o, hb, he, M, ev, eb, k⟩ := q
  cases ev
  cases eb
  exact k m H (Ex.refl m H) M
theorem pov_some (h : PEv X fa cal n0 xa a) : POv X fa cal n0 (some xa) a := PO.imp (po_u h) fun σV H Q q => by
  obtain ⟨t, bs, m, σ, μ, u, μ', o, hb, he, M, ev, eb, k⟩ := q
  refine seq1 hb he M ev fun m1 H1 v1 x M1 r1 => ⟨o, ?_, k m1 H1 x M1⟩
  cases u with
  | non => cases r1; cases eb; exact .inl ⟨rfl, rfl⟩
  | int i => cases r1; cases eb; exact .inr ⟨i, rfl, rfl⟩
  | _ => cases eb
theorem e_slc {al : Bool} {lo hi : E} {xlo xhi : Option Expr} {p2 : Pos} (ha : PEv X fa cal n0 xa a) (hl : POv X fa cal n0 xlo lo) (hh : POv X fa cal n0 xhi hi) : PEv X fa cal n0 (.Subscript xa (.Slice xlo xhi none p2) pos) (.slc al a lo hi) :=
  (pe_slice (slR al) ha hl hh).imp fun σV H Q q => by
    obtain ⟨t, bs, m, σ, μ, u, μ', hb, he, M, ev, k⟩ := q
    simp only [evalE] at ev
    split at ev
    · rename_i u1 μ1 e1
      split at ev
      · rename_i u2 μ2 e2
        split at ev
        · rename_i u3 μ3 e3
          cases e4 : bnd u2 with
          | none => simp [evSlc, e4] at ev
          | some l =>
            cases e5 : bnd u3 with
            | none => simp [evSlc, e4, e5] at ev
            | some h =>
              refine seq1 hb he M e1 fun m1 H1 v1 x1 M1 r1 => ?_
              refine ⟨t, bs, m1, σ, μ1, u2, μ2, l, hb, he.ex x1, M1, e2, e4, fun m2 H2 x2 M2 => ?_⟩
              refine ⟨t, bs, m2, σ, μ2, u3, μ3, h, hb, (he.ex x1).ex x2, M2, e3, e5, fun m3 H3 x3 M3 => ?_⟩
              exact ⟨t, bs, m3, μ3, u1, u2, u3, u, μ', M3, (r1.ex' x2).ex' x3, e4, e5, ev, k.ex (x1.trans (x2.trans x3))⟩
        · cases ev
      · cases ev
    · cases ev
/-- xs[::-1] of a list, of a tuple -/
theorem e_revL {al : Bool} {j} {p1 p2 p3 : Pos} (ha : PEv X fa cal n0 xa a) : PEv X fa cal n0 (.Subscript xa (.Slice none none (some (.UnaryOp .USub (.Constant (.int 1) j p1) p2)) p3) pos) (.rev al a) :=
  (pe_revA ha).imp fun σV H Q q => by
    obtain ⟨t, bs, m, σ, μ, u, μ', hb, he, M, ev, k⟩ := q
    simp only [evalE] at ev
    split at ev
    · rename_i u1 μ1 e1
      refine seq1 hb he M e1 fun m1 H1 v1 x1 M1 r1 => ?_
      unfold evRev at ev
      split at ev
      · obtain ⟨rfl, rfl⟩ := Prod.mk.inj (Option.some.inj ev)
        cases r1 with
        | tup f ra => exact ⟨_, _, rfl, .inr ⟨f.sq, fun q hq => (k.ex x1).tup M1 hq ra.rev⟩⟩
      · split at ev
        · rename_i xs e2
          obtain ⟨rfl, rfl⟩ := Prod.mk.inj (Option.some.inj ev)
          obtain ⟨p, vs, rfl, hH, ra⟩ := asL_at M1 r1 e2
          exact ⟨p, vs, rfl, .inl ⟨SqL.of hH, fun q hq => (k.ex x1).lst M1 hq ra.rev⟩⟩
        · cases ev
    · cases ev
/-! ### and, or -/
def bop : Bool → BoolOp
  | true => .And
  | false => .Or
abbrev PBv (X : Cx) (fa : Nat → Option Addr) (cal : Nat → List U → Mu → Option (U × Mu)) (n0 : Nat) (x : Expr) (and : Bool) (es : List E) : Prop := PE X x (tE X.K fa n0 (evalB cal n0 and es))
abbrev PBw (X : Cx) (fa : Nat → Option Addr) (cal : Nat → List U → Mu → Option (U × Mu)) (n0 : Nat) (x : Expr) (and : Bool) (es : List E) : Prop := PW X x (tT X.K fa n0 (evalB cal n0 and es))
theorem b_one {and : Bool} (ha : PEv X fa cal n0 xa a) : PBv X fa cal n0 (.BoolOp (bop and) [xa] pos) and [a] := (pe_one ha).imp fun σV H Q q => by simpa only [evalB] using q
theorem b_cons {and : Bool} {e2 : E} {es : List E} {xs : List Expr} (ha : PEv X fa cal n0 xa a) (hr : PBv X fa cal n0 (.BoolOp (bop and) (xb :: xs) pos) and (e2 :: es)) : PBv X fa cal n0 (.BoolOp (bop and) (xa :: xb :: xs) pos) and (a :: e2 :: es) := by
  have rd : ∀ {σV : L2.St} {H : Hp} {Q : VK}, tE X.K fa n0 (evalB cal n0 and (a :: e2 :: es)) σV H Q → tE X.K fa n0 (evalE cal n0 a) σV H fun x H1 => ∃ k, TruV X.K x H1 k ∧ if k = and then tE X.K fa n0 (evalB cal n0 and (e2 :: es)) σV H1 Q else Q x H1 := by
    intro σV H Q q
    obtain ⟨t, bs, m, σ, μ, u, μ', hb, he, M, ev, k⟩ := q
    simp only [evalB] at ev
    split at ev
    · rename_i u1 μ1 e1
      split at ev
      · rename_i d e3
        refine seq1 hb he M e1 fun m1 H1 v1 x1 M1 r1 => ⟨d, truV_ok M1 r1 e3, ?_⟩
        by_cases hd : d = and
        · rw [if_pos hd] at ev ⊢
          exact ⟨t, bs, m1, σ, μ1, u, μ', hb, he.ex x1, M1, ev, k.ex x1⟩
        · rw [if_neg hd] at ev ⊢
          cases ev
          exact k m1 H1 v1 x1 M1 r1
      · cases ev
    · cases ev
  cases and with
  | true =>
    refine (pe_andT ha hr).imp fun σV H Q q => ?_
    exact rd q
  | false =>
    refine (pe_orT ha hr).imp fun σV H Q q => ?_
    obtain ⟨t, bs, m, σ, μ, u, μ', hb, he, M, ev, k⟩ := rd q
    refine ⟨t, bs, m, σ, μ, u, μ', hb, he, M, ev, fun m1 H1 v x1 M1 r1 => ?_⟩
    obtain ⟨d, td, z⟩ := k m1 H1 v x1 M1 r1
    refine ⟨d, td, ?_⟩
    cases d with
    | true => simpa using z
    | false => simpa using z
theorem w_one {and : Bool} (ha : PTv X fa cal n0 xa a) : PBw X fa cal n0 (.BoolOp (bop and) [xa] pos) and [a] := by
  cases and with
  | true => exact (pw_and1 ha).imp fun σV H Q q => by simpa only [evalB] using q
  | false => exact (pw_or1 ha).imp fun σV H Q q => by simpa only [evalB] using q
theorem w_cons {and : Bool} {e2 : E} {es : List E} {xs : List Expr} (ha : PTv X fa cal n0 xa a) (hr : PBw X fa cal n0 (.BoolOp (bop and) (xb :: xs) pos) and (e2 :: es)) : PBw X fa cal n0 (.BoolOp (bop and) (xa :: xb :: xs) pos) and (a :: e2 :: es) := by
  have rd : ∀ {σV : L2.St} {H : Hp} {Q : Bool → Hp → Prop}, tT X.K fa n0 (evalB cal n0 and (a :: e2 :: es)) σV H Q → tT X.K fa n0 (evalE cal n0 a) σV H fun k H1 => if k = and then tT X.K fa n0 (evalB cal n0 and (e2 :: es)) σV H1 Q else Q k H1 := by
    intro σV H Q q
    obtain ⟨t, bs, m, σ, μ, u, μ', w, hb, he, M, ev, tr, k⟩ := q
    simp only [evalB] at ev
    split at ev
    · rename_i u1 μ1 e1
      split at ev
      · rename_i d e3
        refine ⟨t, bs, m, σ, μ, u1, μ1, d, hb, he, M, e1, e3, fun m1 H1 x1 M1 => ?_⟩
        by_cases hd : d = and
        · rw [if_pos hd] at ev
          simp only [hd, if_true]
          exact ⟨t, bs, m1, σ, μ1, u, μ', w, hb, he.ex x1, M1, ev, tr, fun m2 H2 x2 M2 => k m2 H2 (x1.trans x2) M2⟩
        · rw [if_neg hd] at ev
          simp only [hd, if_false]
          cases ev
          rw [e3] at tr
          cases tr
          exact k m1 H1 x1 M1
      · cases ev
    · cases ev
  cases and with
  | true =>
    refine (pw_and ha hr).imp fun σV H Q q => ?_
    obtain ⟨t, bs, m, σ, μ, u, μ', w, hb, he, M, ev, tr, k⟩ := rd q
    refine ⟨t, bs, m, σ, μ, u, μ', w, hb, he, M, ev, tr, fun m1 H1 x1 M1 => ?_⟩
    have z := k m1 H1 x1 M1
    cases w with
    | true => simpa using z
    | false => simpa using z
  | false =>
    refine (pw_or ha hr).imp fun σV H Q q => ?_
    obtain ⟨t, bs, m, σ, μ, u, μ', w, hb, he, M, ev, tr, k⟩ := rd q
    refine ⟨t, bs, m, σ, μ, u, μ', w, hb, he, M, ev, tr, fun m1 H1 x1 M1 => ?_⟩
    have z := k m1 H1 x1 M1
    cases w with
    | true => simpa using z
    | false => simpa using z
theorem e_bool {and : Bool} {es : List E} {x : Expr} (h : PBv X fa cal n0 x and es) : PEv X fa cal n0 x (.bool and es) := h.imp fun σV H Q q => by simpa only [evalE] using q
theorem t_bool {and : Bool} {es : List E} {x : Expr} (h : PBw X fa cal n0 x and es) : PTv X fa cal n0 x (.bool and es) := h.pt.imp fun σV H Q q => by simpa only [evalE] using q
end
end R

set_option Elab.async false
set_option linter.all false
set_option maxRecDepth 100000
set_option maxHeartbeats 4000000
/-! R3g: dict stores and displays, builtins, isinstance, methods -/
namespace R
open PySem PySem.Spec PyProof.Rows L2

section
variable {K : PySem.W.Frag} {fa : Nat → Option Addr} {t m m' : List Addr} {n n' : Nat} {H H' : Hp} {bs : List Nat} {μ : Mu} {D : Addr}
theorem putK_keys {κ : Type} [DecidableEq κ] (kvs : List (κ × V)) (k : κ) (v : V) : (putK kvs k v).map (·.1) = ptk (kvs.map (·.1)) k := by
  unfold putK ptk
  have e : (kvs.any fun kv => decide (kv.1 = k)) = true ↔ k ∈ kvs.map (·.1) := by
    simp only [List.any_eq_true, decide_eq_true_eq, List.mem_map]
  by_cases h : k ∈ kvs.map (·.1)
  · rw [if_pos (e.mpr h), if_pos h, List.map_map]
    refine List.map_congr_left fun kv _ => ?_
    simp only [Function.comp]
    split <;> rfl
  · rw [if_neg (fun z => h (e.mp z)), if_neg h]
    simp
theorem rpl_ok {κ : Type} [DecidableEq κ] {u : U} {v : V} {q : κ} (hu : Rp K fa t m n H u v) : ∀ {kvs : List (κ × V)} {us : List U}, RpA K fa t m n H us (kvs.map (·.2)) →
    RpA K fa t m n H (rpl (kvs.map (·.1)) us q u) ((kvs.map fun kv => if kv.1 = q then (kv.1, v) else kv).map (·.2))
  | [], _, .nil => .nil
  | kv :: kvs, _, .cons r ra => by
    simp only [List.map_cons, rpl]
    refine .cons ?_ (rpl_ok hu ra)
    by_cases h : kv.1 = q
    · simp only [h, if_true]; exact hu
    · simp only [h, if_false]; exact r
theorem putK_ok {κ : Type} [DecidableEq κ] {u : U} {v : V} {q : κ} (hu : Rp K fa t m n H u v) {kvs : List (κ × V)} {us : List U} (ra : RpA K fa t m n H us (kvs.map (·.2))) :
    RpA K fa t m n H (pt (kvs.map (·.1)) us q u) ((putK kvs q v).map (·.2)) := by
  unfold putK pt
  have e : (kvs.any fun kv => decide (kv.1 = q)) = true ↔ q ∈ kvs.map (·.1) := by
    simp only [List.any_eq_true, decide_eq_true_eq, List.mem_map]
  by_cases h : q ∈ kvs.map (·.1)
  · rw [if_pos (e.mpr h), if_pos h]
    exact rpl_ok hu ra
  · rw [if_neg (fun z => h (e.mp z)), if_neg h]
    rw [List.map_append]
    exact ra.append (.one hu)
theorem okw_rp {n0 i : Nat} {u : U} {v : V} (hb : bs.length = n0) (h : okw n0 i u = true) (r : Rp K fa t m m.length H u v) : Rp K fa t m (bs[i]?.getD m.length) H u v := by
  unfold okw at h
  simp only [Bool.or_eq_true, decide_eq_true_eq] at h
  rcases h with h | h
  · rw [List.getElem?_eq_none_iff.mpr (by omega)]
    exact r
  · exact r.nomut h
/-- the pairs of a display -/
inductive RpP (K : PySem.W.Frag) (fa : Nat → Option Addr) (t m : List Addr) (n : Nat) (H : Hp) : List (U × U) → List (V × V) → Prop
  | nil : RpP K fa t m n H [] []
  | cons {p : U × U} {q : V × V} {ps : List (U × U)} {qs : List (V × V)} : Rp K fa t m n H p.1 q.1 → Rp K fa t m n H p.2 q.2 → RpP K fa t m n H ps qs → RpP K fa t m n H (p :: ps) (q :: qs)
theorem RpP.ex (e : Ex m H m' H') (hn : n ≤ n') : ∀ {ps : List (U × U)} {qs : List (V × V)}, RpP K fa t m n H ps qs → RpP K fa t m' n' H' ps qs
  | _, _, .nil => .nil
  | _, _, .cons a b r => .cons (a.ex e hn) (b.ex e hn) (RpP.ex e hn r)
theorem RpP.td {o : HO} (hD : D ∈ t) : ∀ {ps : List (U × U)} {qs : List (V × V)}, RpP K fa t m n H ps qs → RpP K fa t m n (L2.upd H D o) ps qs
  | _, _, .nil => .nil
  | _, _, .cons a b r => .cons (a.td hD) (b.td hD) (RpP.td hD r)
/-- merging pairs with plain keys -/
theorem mergeU_k {tk : Bool} : ∀ {ps : List (U × U)} {qs : List (V × V)} {kvs0 : List (Key × V)} {us : List U} {o : U}, RpP K fa t m n H ps qs → RpA K fa t m n H us (kvs0.map (·.2)) → mergeU tk ps (.dk (kvs0.map (·.1)) us) = some o →
    ∃ (kvs : List (Key × V)) (us' : List U), qs = kvs.map (fun kv => (kV kv.1, kv.2)) ∧ o = .dk ((mergeK kvs0 kvs).map (·.1)) us' ∧ RpA K fa t m n H us' ((mergeK kvs0 kvs).map (·.2))
  | _, _, kvs0, us, o, .nil, ra, h => by
    simp only [mergeU] at h
    cases h
    exact ⟨[], us, rfl, rfl, ra⟩
  | _, _, kvs0, us, o, .cons (p := p) (q := q) a b r, ra, h => by
    simp only [mergeU] at h
    split at h
    · rename_i o' e
      simp only [dput] at e
      split at e
      · rename_i k hk
        split at e
        · cases e
          have ek := sky_ok a hk
          rw [← putK_keys _ _ q.2] at h
          obtain ⟨kvs, us', e1, e2, e3⟩ := mergeU_k r (putK_ok b ra) h
          exact ⟨(k, q.2) :: kvs, us', by rw [e1, List.map_cons, ← ek], e2, e3⟩
        · cases e
      · cases e
    · cases h
/-- merging pairs with tuples for keys -/
def mergeT (kvs0 : List (List Key × V)) (ts : List (List Key × Addr × V)) : List (List Key × V) := ts.foldl (fun acc x => putK acc x.1 x.2.2) kvs0
theorem mergeU_t {tk : Bool} : ∀ {ps : List (U × U)} {qs : List (V × V)} {kvs0 : List (List Key × V)} {us : List U} {o : U}, RpP K fa t m n H ps qs → RpA K fa t m n H us (kvs0.map (·.2)) → mergeU tk ps (.dt (kvs0.map (·.1)) us) = some o →
    ∃ (ts : List (List Key × Addr × V)) (us' : List U), qs = ts.map (fun x => (V.ref x.2.1, x.2.2)) ∧ (∀ x ∈ ts, H x.2.1 = some (.tup (x.1.map kV))) ∧ o = .dt ((mergeT kvs0 ts).map (·.1)) us' ∧ RpA K fa t m n H us' ((mergeT kvs0 ts).map (·.2))
  | _, _, kvs0, us, o, .nil, ra, h => by
    simp only [mergeU] at h
    cases h
    exact ⟨[], us, rfl, (fun x z => nomatch z), rfl, ra⟩
  | _, _, kvs0, us, o, .cons (p := p) (q := q) a b r, ra, h => by
    simp only [mergeU] at h
    split at h
    · rename_i o' e
      simp only [dput] at e
      split at e
      · rename_i k hk
        split at e
        · cases e
          obtain ⟨c, ec, hc⟩ := tky_ok a hk
          rw [← putK_keys _ _ q.2] at h
          obtain ⟨ts, us', e1, e2, e3, e4⟩ := mergeU_t r (putK_ok b ra) h
          refine ⟨(k, c, q.2) :: ts, us', by rw [e1, List.map_cons, ← ec], fun x z => ?_, e3, e4⟩
          rcases List.mem_cons.mp z with z | z
          · rw [z]; exact hc
          · exact e2 x z
        · cases e
      · cases e
    · cases h
theorem pairUp_cons {es : List U} {k v : U} {ps : List (U × U)} (h : pairUp (k :: v :: es) = some ps) : ∃ qs, pairUp es = some qs ∧ ps = (k, v) :: qs := by
  simp only [pairUp] at h
  split at h
  · rename_i qs e
    cases h
    exact ⟨qs, e, rfl⟩
  · cases h
end

section
variable {X : Cx} {fa : Nat → Option Addr} {cal : Nat → List U → Mu → Option (U × Mu)} {n0 : Nat}
variable {a b c : E} {xa xb xc : Expr} {pos : Pos}
/-! ### displays of dicts -/
def trsOf (X : Cx) (fa : Nat → Option Addr) (cal : Nat → List U → Mu → Option (U × Mu)) (n0 : Nat) : List E → List (TE × TE)
  | k :: v :: es => (tE X.K fa n0 (evalE cal n0 k), tE X.K fa n0 (evalE cal n0 v)) :: trsOf X fa cal n0 es
  | _ => []
theorem pairs_rd {R : List (V × V) → Hp → Prop} : ∀ (es : List E) (ps : List (U × U)) {t m : List Addr} {bs : List Nat} {σ : Env} {σV : L2.St} {H : Hp} {μ μ' : Mu} {us : List U}, bs.length = n0 → EnvR X.K fa t m H σ σV → Me X.K fa bs t m H μ →
    evalL cal n0 es σ μ = some (us, μ') → pairUp us = some ps → (∀ m' H' qs, Ex m H m' H' → Me X.K fa bs t m' H' μ' → RpP X.K fa t m' m'.length H' ps qs → R qs H') → tPairs (trsOf X fa cal n0 es) σV H R
  | [], ps, t, m, bs, σ, σV, H, μ, μ', us, hb, he, M, ev, ep, k => by
    simp only [evalL] at ev
    cases ev
    cases ep
    exact k m H [] (Ex.refl m H) M .nil
  | [e], ps, t, m, bs, σ, σV, H, μ, μ', us, hb, he, M, ev, ep, k => by
    simp only [evalL] at ev
    split at ev
    · cases ev
      cases ep
    · cases ev
  | e :: f :: es, ps, t, m, bs, σ, σV, H, μ, μ', us, hb, he, M, ev, ep, k => by
    simp only [evalL] at ev
    split at ev
    · rename_i u1 μ1 e1
      split at ev
      · rename_i us2 μ2 e2
        split at e2
        · rename_i u2 μ3 e3
          split at e2
          · rename_i us3 μ4 e4
            cases e2
            cases ev
            obtain ⟨qs, ep', rfl⟩ := pairUp_cons ep
            refine seq2 hb he M e1 e3 fun m2 H2 v1 v2 x M2 r1 r2 => ?_
            exact pairs_rd es qs hb (he.ex x) M2 e4 ep' fun m' H' pq x' M' rp => k m' H' _ (x.trans x') M' (.cons (r1.ex' x') (r2.ex' x') rp)
          · cases e2
        · cases e2
      · cases ev
    · cases ev
/-- keys and values of a display, flat -/
def flatE : List (Option Expr) → List Expr → Option (List Expr)
  | some k :: ks, v :: vs => match flatE ks vs with
    | some r => some (k :: v :: r)
    | none => none
  | [], [] => some []
  | _, _ => none
theorem flat_ok : ∀ {keys : List (Option Expr)} {vals : List Expr} {es : List E} {r : List Expr}, flatE keys vals = some r → (∀ (i : Nat) x e, r[i]? = some x → es[i]? = some e → PEv X fa cal n0 x e) → r.length = es.length →
    PPs X pos keys vals (trsOf X fa cal n0 es) ∧ keys.all (·.isSome) = true ∧ keys.length = vals.length
  | [], [], es, r, h, hp, hl => by
    cases h
    cases es with
    | nil => exact ⟨pps_nil, rfl, rfl⟩
    | cons => simp at hl
  | some k :: ks, v :: vs, es, r, h, hp, hl => by
    simp only [flatE] at h
    split at h
    · rename_i r' e
      cases h
      match es, hl, hp with
      | e1 :: e2 :: es, hl, hp =>
        obtain ⟨h1, h2, h3⟩ := flat_ok (es := es) e (fun i x f a b => hp (i + 2) x f (by simpa using a) (by simpa using b)) (by simpa using hl)
        exact ⟨pps_cons (hp 0 k e1 rfl rfl) (hp 1 v e2 rfl rfl) h1, by simpa using h2, by simp [h3]⟩
    · cases h
  | [], _ :: _, _, _, h, _, _ => by cases h
  | none :: _, _, _, _, h, _, _ => by simp [flatE] at h
  | some _ :: _, [], _, _, h, _, _ => by simp [flatE] at h
theorem e_dct {al : Bool} {es : List E} {keys : List (Option Expr)} {vals : List Expr} {r : List Expr} (h : flatE keys vals = some r) (hp : ∀ (i : Nat) x e, r[i]? = some x → es[i]? = some e → PEv X fa cal n0 x e) (hl : r.length = es.length) (h0 : keys ≠ []) (h15 : keys.length ≤ 15) :
    PEv X fa cal n0 (.Dict keys vals pos) (.dct al false es) := by
  obtain ⟨h1, h2, h3⟩ := flat_ok (pos := pos) h hp hl
  refine (pe_disp h1 h2 h3 h0 h15).imp fun σV H Q q => ?_
  obtain ⟨t, bs, m, σ, μ, u, μ', hb, he, M, ev, k⟩ := q
  simp only [evalE] at ev
  split at ev
  · rename_i us μ1 e1
    split at ev
    · rename_i ps e2
      split at ev
      · rename_i h15
        split at ev
        · rename_i o e3
          obtain ⟨rfl, rfl⟩ := Prod.mk.inj (Option.some.inj ev)
          intro p hp
          obtain ⟨pm, pt'⟩ := M.fresh hp
          refine pairs_rd es ps (t := p :: t) (bs := bs) hb (he.tn hp) (M.tn hp) e1 e2 fun m2 H2 qs x M2 rp => ?_
          have hp2 : H2 p = some (.dK []) := x.keep p _ upd_same pm
          have e3' : mergeU false ps (.dk (([] : List (Key × V)).map (·.1)) []) = some o := by simpa using e3
          obtain ⟨kvs, us', rfl, rfl, ra⟩ := mergeU_k (kvs0 := []) rp .nil e3'
          refine ⟨hp2, kvs, rfl, ?_, ?_⟩
          · have : ps.length = kvs.length := by
              have : ∀ {ps : List (U × U)} {qs : List (V × V)}, RpP X.K fa (p :: t) m2 m2.length H2 ps qs → ps.length = qs.length := by
                intro ps qs r
                induction r with
                | nil => rfl
                | cons _ _ _ ih => simp [ih]
              have := this rp
              simpa using this
            omega
          · have x0 : Ex m H m2 (upd H2 p (.dK (mergeK [] kvs))) := ((Ex.upd hp).trans x).tmp hp
            exact k.tmpK hp pt' x0 (M2.td (by simp)) upd_same (ra.td (by simp))
        · cases ev
      · cases ev
    · cases ev
  · cases ev
theorem e_dnew {al tk : Bool} : PEv X fa cal n0 (.Dict [] [] pos) (.dct al tk []) := by
  cases tk with
  | false =>
    refine pe_dnewK.imp fun σV H Q q => ?_
    obtain ⟨t, bs, m, σ, μ, u, μ', hb, he, M, ev, k⟩ := q
    simp only [evalE, evalL, pairUp, mergeU] at ev
    rw [if_pos (by decide)] at ev
    obtain ⟨rfl, rfl⟩ := Prod.mk.inj (Option.some.inj ev)
    intro p hp
    exact k.dk (kvs := []) M hp .nil
  | true =>
    refine pe_dnewT.imp fun σV H Q q => ?_
    obtain ⟨t, bs, m, σ, μ, u, μ', hb, he, M, ev, k⟩ := q
    simp only [evalE, evalL, pairUp, mergeU] at ev
    rw [if_pos (by decide)] at ev
    obtain ⟨rfl, rfl⟩ := Prod.mk.inj (Option.some.inj ev)
    intro p hp
    exact k.dt (kvs := []) M hp .nil

/-! ### builtin functions -/
theorem vs_rd {f : Mu → List U → Option (U × Mu)} {ev : Ev} {es : List E} {σV : L2.St} {H : Hp} {Q : VK} (he : ∀ σ μ u μ', ev σ μ = some (u, μ') → ∃ us μ1, evalL cal n0 es σ μ = some (us, μ1) ∧ f μ1 us = some (u, μ'))
    (q : tE X.K fa n0 ev σV H Q) : tL X.K fa n0 (evalL cal n0 es) σV H fun vs H1 => rVs X.K fa f vs H1 Q := by
  obtain ⟨t, bs, m, σ, μ, u, μ', hb, hE, M, e, k⟩ := q
  obtain ⟨us, μ1, e1, e2⟩ := he _ _ _ _ e
  exact ⟨t, bs, m, σ, μ, us, μ1, hb, hE, M, e1, fun m1 H1 vs x1 M1 ra => ⟨t, bs, m1, μ1, us, u, μ', M1, ra, e2, k.ex x1⟩⟩
theorem bi_ev {b : Bi} {es : List E} {σ : Env} {μ μ' : Mu} {u : U} (h : evalE cal n0 (.bi b es) σ μ = some (u, μ')) : ∃ us μ1, evalL cal n0 es σ μ = some (us, μ1) ∧ biF b μ1 us = some (u, μ') := by
  simp only [evalE] at h
  split at h
  · rename_i us μ1 e1
    exact ⟨us, μ1, e1, h⟩
  · cases h
/-- what a builtin function is -/
def Bi.val : Bi → Value
  | .int => .type "int"
  | .len => .builtin "len" | .abs => .builtin "abs" | .all => .builtin "all" | .any => .builtin "any" | .sum => .builtin "sum" | .min1 => .builtin "min" | .max1 => .builtin "max" | .min2 => .builtin "min" | .max2 => .builtin "max"
theorem Bi.boot (b : Bi) : bootBuiltins b.nm = some b.val := by cases b <;> decide +kernel
theorem Bi.main (b : Bi) : b.nm ≠ "__name__" := by cases b <;> decide +kernel
theorem Bi.dbg (b : Bi) : (b.nm == ("__debug__" : Str)) = false := by cases b <;> decide +kernel
theorem biR (hc : X.calm = true) (hu : X.A.units + 66 < cLine) : ∀ b : Bi, (b = .int ∧ CallR X (.type "int") (rVs X.K fa (biF b))) ∨ ∃ id, b.val = .builtin id ∧ CallR X (.builtin id) (rVs X.K fa (biF b))
  | .int => .inl ⟨rfl, intR⟩
  | .len => .inr ⟨_, rfl, lenR⟩
  | .abs => .inr ⟨_, rfl, absR⟩
  | .all => .inr ⟨_, rfl, allR hc⟩
  | .any => .inr ⟨_, rfl, anyR hc⟩
  | .sum => .inr ⟨_, rfl, sumR hc⟩
  | .min1 => .inr ⟨_, rfl, min1R hc hu⟩
  | .max1 => .inr ⟨_, rfl, max1R hc hu⟩
  | .min2 => .inr ⟨_, rfl, min2R hc⟩
  | .max2 => .inr ⟨_, rfl, max2R hc⟩
theorem e_bi {b : Bi} {es : List E} {x : Expr} {xs : List Expr} {p : Pos} (hc : X.calm = true) (hu : X.A.units + 66 < cLine) (hg : Gl X b.nm) (hm : X.mg b.nm = none) (ha : PAv X fa cal n0 (x :: xs) es) (hk : okh x = true) (hks : xs.all okh = true) :
    PEv X fa cal n0 (.Call (.Name b.nm p) (x :: xs) [] pos) (.bi b es) := by
  rcases biR (fa := fa) hc hu b with ⟨rfl, h⟩ | ⟨id, e, h⟩
  · exact (pe_callTy h hg hm boot_int ha (Bi.main _) (Bi.dbg _) (okh_star hk) (okh_back hks)).imp fun σV H Q q => vs_rd (fun _ _ _ _ => bi_ev) q
  · exact (pe_callB h hg hm (by rw [Bi.boot, e]) ha (Bi.main _) (Bi.dbg _) (okh_star hk) (okh_back hks)).imp fun σV H Q q => vs_rd (fun _ _ _ _ => bi_ev) q

/-! ### isinstance -/
def Ty.nm : Ty → String
  | .int => "int" | .bool => "bool" | .str => "str" | .tuple => "tuple" | .list => "list" | .dict => "dict"
def Ty.st : Ty → Str
  | .int => "int" | .bool => "bool" | .str => "str" | .tuple => "tuple" | .list => "list" | .dict => "dict"
theorem Ty.boot (t : Ty) : bootBuiltins t.st = some (.type t.nm) := by cases t <;> decide +kernel
theorem Ty.main (t : Ty) : t.st ≠ "__name__" := by cases t <;> decide +kernel
theorem Ty.dbg (t : Ty) : (t.st == ("__debug__" : Str)) = false := by cases t <;> decide +kernel
theorem isi_ok {K : PySem.W.Frag} {t m : List Addr} {H : Hp} {bs : List Nat} {μ : Mu} {u : U} {v : V} {b : Bool} {ty : Ty} (M : Me K fa bs t m H μ) (r : Rp K fa t m m.length H u v) (h : evIsi μ u ty = some b) :
    ∃ T : String, TyX K H v (.type T) ∧ PySem.W.kitOne K (.type T) (.type ty.nm) = some b := by
  have kk : ∀ {T : String} {b : Bool}, kitB T ty.nm = some b → PySem.W.kitOne K (.type T) (.type ty.nm) = some b := fun h => kit_ty h
  simp only [evIsi] at h
  split at h
  · rename_i hc
    cases u with
    | ob i => rcases ob_not M r hc with ⟨_, e⟩ | ⟨_, _, e⟩ | ⟨_, _, e⟩ <;> cases e
    | non => cases r; cases h; exact ⟨_, .base .non, kk (by cases ty <;> decide +kernel)⟩
    | _ => simp [cont] at hc
  · rename_i x hc
    cases u with
    | ob i => rcases ob_not M r hc with ⟨_, e⟩ | ⟨_, _, e⟩ | ⟨_, _, e⟩ <;> cases e
    | bl y => cases r; cases h; exact ⟨_, .base (.bl _), kk (by cases ty <;> decide +kernel)⟩
    | _ => simp [cont] at hc
  · rename_i x hc
    cases u with
    | ob i => rcases ob_not M r hc with ⟨_, e⟩ | ⟨_, _, e⟩ | ⟨_, _, e⟩ <;> cases e
    | int y => cases r; cases h; exact ⟨_, .base (.int _), kk (by cases ty <;> decide +kernel)⟩
    | _ => simp [cont] at hc
  · rename_i x hc
    have e := cont_str M r hc
    subst e
    cases r; cases h; exact ⟨_, .base (.str _), kk (by cases ty <;> decide +kernel)⟩
  · rename_i x hc
    have e := cont_tup M r hc
    subst e
    cases h
    cases r with
    | tup f _ => exact ⟨_, .base (.tup f.1), kk (by cases ty <;> decide +kernel)⟩
  · rename_i x hc
    obtain ⟨p, vs, rfl, hH, _⟩ := cont_lst M r hc
    cases h; exact ⟨_, .base (.lst hH), kk (by cases ty <;> decide +kernel)⟩
  · rename_i x y hc
    obtain ⟨p, vs, rfl, hH, _⟩ := dk_at M r hc
    cases h; exact ⟨_, .base (.dK hH), kk (by cases ty <;> decide +kernel)⟩
  · rename_i x y hc
    obtain ⟨p, vs, rfl, hH, _⟩ := dt_at M r hc
    cases h; exact ⟨_, .base (.dT hH), kk (by cases ty <;> decide +kernel)⟩
  · cases h
theorem e_isi {ty : Ty} {p p2 : Pos} (hg : Gl X "isinstance") (hm : X.mg "isinstance" = none) (hg2 : Gl X ty.st) (hm2 : X.mg ty.st = none) (ha : PEv X fa cal n0 xa a) (hk : okh xa = true) :
    PEv X fa cal n0 (.Call (.Name "isinstance" p) [xa, .Name ty.st p2] [] pos) (.isi a ty) := by
  have hcls : PE X (.Name ty.st p2) (tC (.ty ty.nm)) := pe_bltn hg2 hm2 ty.boot rfl ty.main ty.dbg
  have h := pe_callB (p := p) (pos := pos) (call_isi (X := X)) hg hm boot_isinstance (pa_cons ha (pa_cons hcls pa_nil (okh_star rfl)) (okh_star hk)) (by decide) (by decide) (okh_star hk) (okh_back (es := [.Name ty.st p2]) rfl)
  refine h.imp fun σV H Q q => ?_
  obtain ⟨t, bs, m, σ, μ, u, μ', hb, hE, M, ev, k⟩ := q
  simp only [evalE] at ev
  split at ev
  · rename_i u1 μ1 e1
    split at ev
    · rename_i d e2
      cases ev
      refine seq1 hb hE M e1 fun m1 H1 v1 x1 M1 r1 => ?_
      obtain ⟨T, ht, hk'⟩ := isi_ok M1 r1 e2
      exact ⟨v1, .ty ty.nm, .type T, .type ty.nm, d, rfl, .ty _, ht, hk', k m1 H1 _ x1 M1 (.bl _)⟩
    · cases ev
  · cases ev

/-! ### methods -/
def rMe (K : PySem.W.Frag) (fa : Nat → Option Addr) (n0 : Nat) (al : Bool) (me : Mt) : V → List V → Hp → VK → Prop := fun x vs H Q => ∃ t bs m μ u us w μ', bs.length = n0 ∧ Me K fa bs t m H μ ∧ Rp K fa t m m.length H u x ∧ RpA K fa t m m.length H us vs ∧ evMe n0 al μ me u us = some (w, μ') ∧ Kn K fa bs t m H w μ' Q
def Mt.T : Mt → String
  | .get2 => "dict"
  | _ => "list"
theorem okm_ty {K : PySem.W.Frag} {t m : List Addr} {H : Hp} {bs : List Nat} {μ : Mu} {u : U} {v : V} {me : Mt} (M : Me K fa bs t m H μ) (r : Rp K fa t m m.length H u v) (h : okm μ me u = true) : tyV K me.T v H := by
  have L : (asL μ u).isSome = true → tyV K "list" v H := fun z => by
    obtain ⟨xs, e⟩ := Option.isSome_iff_exists.mp z
    obtain ⟨p, vs, rfl, q, _⟩ := asL_ok M r e
    exact .inl ⟨rfl, vs, q⟩
  cases me with
  | get2 =>
    simp only [okm] at h
    split at h
    · rename_i e
      obtain ⟨p, kvs, rfl, hH, _⟩ := dk_at M r e
      exact .inr (.inr (.inl ⟨rfl, .inl ⟨_, hH⟩⟩))
    · rename_i e
      obtain ⟨p, kvs, rfl, hH, _⟩ := dt_at M r e
      exact .inr (.inr (.inl ⟨rfl, .inr ⟨_, hH⟩⟩))
    · cases h
  | _ => exact L h
theorem me_rd {al : Bool} {me : Mt} {es : List E} {σV : L2.St} {H : Hp} {Q : VK} (q : tE X.K fa n0 (evalE cal n0 (.me al me a es)) σV H Q) : tBM X.K me.T (rMe X.K fa n0 al me) (tE X.K fa n0 (evalE cal n0 a)) (tL X.K fa n0 (evalL cal n0 es)) σV H Q := by
  obtain ⟨t, bs, m, σ, μ, u, μ', hb, he, M, ev, k⟩ := q
  simp only [evalE] at ev
  split at ev
  · rename_i u1 μ1 e1
    split at ev
    · rename_i e2
      split at ev
      · rename_i us μ2 e3
        refine seq1 hb he M e1 fun m1 H1 v1 x1 M1 r1 => ⟨okm_ty M1 r1 e2, ?_⟩
        exact ⟨t, bs, m1, σ, μ1, us, μ2, hb, he.ex x1, M1, e3, fun m2 H2 vs x2 M2 ra => ⟨t, bs, m2, μ2, u1, us, u, μ', hb, M2, r1.ex' x2, ra, ev, k.ex (x1.trans x2)⟩⟩
      · cases ev
    · cases ev
  · cases ev
theorem mtAppend {al : Bool} : MtR X "list.append" (rMe X.K fa n0 al .append) := by
  intro pins s σ H x vs v us Q I rx rv h
  obtain ⟨t, bs, m, μ, u, ws, w, μ', hb, M, r, ra, ev, k⟩ := h
  simp only [evMe] at ev
  match u, ws, ev, r, ra with
  | .ob i, [y], ev, r, ra =>
    simp only at ev
    split at ev
    · rename_i xs e
      split at ev
      · rename_i hz
        cases ev
        obtain ⟨p, rfl, hp, c⟩ := M.obj r e
        obtain ⟨z, rfl, rz⟩ := rpa1 ra
        have hl := sz_line
        generalize hn : bs[i]?.getD m.length = nn at c
        cases c with
        | @lst vx _ hH rl =>
          refine mt_append pins s σ H _ _ v us Q I rx rv ⟨p, _, z, rfl, rfl, hH, by rw [← rl.length]; omega, ?_⟩
          have ex : Ex m H m (upd H p (.lst (vx ++ [z]))) := Ex.write (List.mem_of_getElem? hp)
          have rz' := okw_rp hb hz.2 rz
          refine k m _ _ ex (M.write hp (.lst upd_same ?_)) .non
          rw [hn] at rz' ⊢
          exact (rl.append (.one rz')).ex ex (Nat.le_refl _)
      · cases ev
    · cases ev
theorem mtPop0 {al : Bool} : MtR X "list.pop" (rMe X.K fa n0 al .pop0) := by
  intro pins s σ H x vs v us Q I rx rv h
  obtain ⟨t, bs, m, μ, u, ws, w, μ', hb, M, r, ra, ev, k⟩ := h
  simp only [evMe] at ev
  match u, ws, ev, r, ra with
  | .ob i, [], ev, r, ra =>
    simp only at ev
    split at ev
    · rename_i xs e
      split at ev
      · rename_i y hy
        cases ev
        cases ra
        obtain ⟨p, rfl, hp, c⟩ := M.obj r e
        have hbn := M.bnd i
        generalize hn : bs[i]?.getD m.length = nn at c hbn
        cases c with
        | @lst vx _ hH rl =>
          have hy' := hy
          rw [rl.length] at hy'
          obtain ⟨z, hz, rz⟩ := rl.get hy'
          refine mt_pop pins s σ H _ _ v us Q I rx rv ⟨p, _, z, rfl, rfl, hH, hz, ?_⟩
          have ex : Ex m H m (upd H p (.lst vx.dropLast)) := Ex.write (List.mem_of_getElem? hp)
          refine k m _ _ ex (M.write hp (.lst upd_same ?_)) ((rz.ex (Ex.refl m H) hbn).ex' ex)
          rw [hn]
          exact rl.dropL.ex ex (Nat.le_refl _)
      · cases ev
    · cases ev
theorem mtPop1 {al : Bool} : MtR X "list.pop" (rMe X.K fa n0 al .pop1) := by
  intro pins s σ H x vs v us Q I rx rv h
  obtain ⟨t, bs, m, μ, u, ws, w, μ', hb, M, r, ra, ev, k⟩ := h
  simp only [evMe] at ev
  match u, ws, ev, r, ra with
  | .ob i, [.int j], ev, r, ra =>
    simp only at ev
    split at ev
    · rename_i xs e
      split at ev
      · rename_i hj
        split at ev
        · rename_i kk hk
          split at ev
          · rename_i y hy
            cases ev
            obtain ⟨z0, rfl, rz0⟩ := rpa1 ra
            cases rz0
            obtain ⟨p, rfl, hp, c⟩ := M.obj r e
            have hbn := M.bnd i
            generalize hn : bs[i]?.getD m.length = nn at c hbn
            cases c with
            | @lst vx _ hH rl =>
              obtain ⟨z, hz, rz⟩ := rl.get hy
              rw [rl.length] at hk
              refine mt_popAt pins s σ H _ _ v us Q I rx rv ⟨p, _, j, kk, z, rfl, rfl, hH, hj.1, hj.2, (ixN_seq hk).1, hz, ?_⟩
              have ex : Ex m H m (upd H p (.lst (vx.eraseIdx kk))) := Ex.write (List.mem_of_getElem? hp)
              refine k m _ _ ex (M.write hp (.lst upd_same ?_)) ((rz.ex (Ex.refl m H) hbn).ex' ex)
              rw [hn]
              exact (rl.erase kk).ex ex (Nat.le_refl _)
          · cases ev
        · cases ev
      · cases ev
    · cases ev
theorem mtGet2 {al : Bool} (hu : X.A.units + 66 < cLine) : MtR X "dict.get" (rMe X.K fa n0 al .get2) := by
  intro pins s σ H x vs v us Q I rx rv h
  obtain ⟨t, bs, m, μ, u, ws, w, μ', hb, M, r, ra, ev, k⟩ := h
  match ws, ev, ra with
  | [y, d], ev, ra =>
    simp only [evMe] at ev
    split at ev
    · rename_i o ho
      cases ev
      obtain ⟨y', d', rfl, ry, rd⟩ := rpa2 ra
      obtain ⟨u1, u2, rfl, ru1, ru2⟩ := rv.two
      obtain ⟨p, rfl, _, hg⟩ := dget_ok M r ry ho
      cases rx
      rcases hg with ⟨u', v', rfl, g, r'⟩ | ⟨rfl, g⟩
      · exact d_get2 (by omega) I g ru1 ru2 fun w' s3 I3 rw' => ⟨v', H, I3, rw', k.here M r'⟩
      · exact d_get2 (by omega) I g ru1 ru2 fun w' s3 I3 rw' => ⟨d', H, I3, rw', k.here M rd⟩
    · cases ev
  | [], ev, _ => cases u <;> simp [evMe] at ev
  | [_], ev, _ => cases u <;> simp [evMe] at ev
  | _ :: _ :: _ :: _, ev, _ => cases u <;> simp [evMe] at ev
theorem few_ok {e : Expr} {es : List Expr} {env : PySem.Env} {cpos : Pos} (hk : (e :: es).all okh = true) (hl : es.length < 20) :
    ((backTo cpos (starEach (e :: es) env)).all (fun x => !x.1) && (backToKw cpos (keywordEach [] env)).all (fun x => x.1.isSome)
      && decide ((e :: es).length + ([] : List Keyword).length + (if ([] : List Keyword).isEmpty then 0 else 1) < 30)) = true := by
  rw [okh_all hk]
  simp only [Bool.true_and, Bool.and_eq_true, decide_eq_true_eq]
  refine ⟨rfl, ?_⟩
  simp
  omega
theorem e_append {al : Bool} {es : List E} {x : Expr} {xs : List Expr} {apos : Pos} (ha : PEv X fa cal n0 xa a) (hs : PAv X fa cal n0 (x :: xs) es) (hr : okr xa = true) (hk : okh x = true) (hks : xs.all okh = true) (hl : xs.length < 20) (hline : (apos.endLine == pos.line) = true) :
    PEv X fa cal n0 (.Call (.Attribute xa "append" apos) (x :: xs) [] pos) (.me al .append a es) :=
  (pe_bm F.plainAttrs_list F.slot_list_append F.type_list_append (mtAppend (al := al)) ha hs (okr_base hr) (few_ok (by simp [hk, hks]) hl) hline (okh_star hk) (okh_back hks)).imp fun σV H Q q => me_rd q
theorem e_pop1 {al : Bool} {es : List E} {x : Expr} {xs : List Expr} {apos : Pos} (ha : PEv X fa cal n0 xa a) (hs : PAv X fa cal n0 (x :: xs) es) (hr : okr xa = true) (hk : okh x = true) (hks : xs.all okh = true) (hl : xs.length < 20) (hline : (apos.endLine == pos.line) = true) :
    PEv X fa cal n0 (.Call (.Attribute xa "pop" apos) (x :: xs) [] pos) (.me al .pop1 a es) :=
  (pe_bm F.plainAttrs_list F.slot_list_pop F.type_list_pop (mtPop1 (al := al)) ha hs (okr_base hr) (few_ok (by simp [hk, hks]) hl) hline (okh_star hk) (okh_back hks)).imp fun σV H Q q => me_rd q
theorem e_get2 {al : Bool} {es : List E} {x : Expr} {xs : List Expr} {apos : Pos} (hu : X.A.units + 66 < cLine) (ha : PEv X fa cal n0 xa a) (hs : PAv X fa cal n0 (x :: xs) es) (hr : okr xa = true) (hk : okh x = true) (hks : xs.all okh = true) (hl : xs.length < 20) (hline : (apos.endLine == pos.line) = true) :
    PEv X fa cal n0 (.Call (.Attribute xa "get" apos) (x :: xs) [] pos) (.me al .get2 a es) :=
  (pe_bm F.plainAttrs_dict F.slot_dict_get F.type_dict_get (mtGet2 (al := al) hu) ha hs (okr_base hr) (few_ok (by simp [hk, hks]) hl) hline (okh_star hk) (okh_back hks)).imp fun σV H Q q => me_rd q
theorem e_pop0 {al : Bool} {apos : Pos} (ha : PEv X fa cal n0 xa a) (hr : okr xa = true) (hline : (apos.endLine == pos.line) = true) :
    PEv X fa cal n0 (.Call (.Attribute xa "pop" apos) [] [] pos) (.me al .pop0 a []) :=
  (pe_bm0 F.plainAttrs_list F.slot_list_pop F.type_list_pop (mtPop0 (al := al)) ha (okr_base hr) hline).imp fun σV H Q q => by
    obtain ⟨t, bs, m, σ, μ, u, μ', hb, he, M, ev, k⟩ := me_rd q
    refine ⟨t, bs, m, σ, μ, u, μ', hb, he, M, ev, fun m1 H1 v1 x1 M1 r1 => ?_⟩
    obtain ⟨ty, t2, bs2, m2, σ2, μ2, us2, μ2', hb2, he2, M2, ev2, k2⟩ := k m1 H1 v1 x1 M1 r1
    simp only [evalL] at ev2
    cases ev2
    exact ⟨ty, k2 m2 H1 [] (Ex.refl _ _) M2 .nil⟩
end
end R

set_option Elab.async false
set_option linter.all false
set_option maxRecDepth 100000
set_option maxHeartbeats 4000000
/-! R3h: targets, statements -/
namespace R
open PySem PySem.Spec PyProof.Rows L2

theorem _root_.L2.PG.imp {X : Cx} {e : Expr} {t t' : TG} (h : PG X e t) (hi : ∀ v σ H Q, t' v σ H Q → t v σ H Q) : PG X e t' := ⟨fun pins s σ H v u Q I r q => h.run pins s σ H v u Q I r (hi _ _ _ _ q)⟩
theorem _root_.L2.PGs.imp {X : Cx} {e : List Expr} {t t' : TGs} (h : PGs X e t) (hi : ∀ v σ H Q, t' v σ H Q → t v σ H Q) : PGs X e t' := ⟨fun pins s σ H v u Q I r q => h.run pins s σ H v u Q I r (hi _ _ _ _ q)⟩
def okt : Expr → Bool
  | .Name .. | .Tuple .. | .Subscript .. => true
  | _ => false
theorem okt_each {e : Expr} {es : List Expr} {env : PySem.Env} (h : okt e = true) : assignEach (e :: es) env = (false, assign e env) :: assignEach es env := by
  cases e <;> first | rfl | cases h
theorem okt_none : ∀ {es : List Expr} {env : PySem.Env}, es.all okt = true → (assignEach es env).findIdx? (·.1) = none
  | [], _, _ => rfl
  | e :: es, env, h => by
    simp only [List.all_cons, Bool.and_eq_true] at h
    rw [okt_each h.1, List.findIdx?_cons]
    simp [okt_none (env := env) h.2]
theorem okt_len : ∀ {es : List Expr} {env : PySem.Env}, es.all okt = true → (assignEach es env).length = es.length
  | [], _, _ => rfl
  | e :: es, env, h => by
    simp only [List.all_cons, Bool.and_eq_true] at h
    rw [okt_each h.1, List.length_cons, okt_len h.2, List.length_cons]

/-! ### the order of the stores -/
def isStar : Expr → Bool
  | .Starred .. => true
  | _ => false
/-- what swappedStores answers; none: not told -/
def swF (sc : Scope) (ts vs : List Expr) : Option (Option (List Str)) :=
  if (!(ts.length == 2 || ts.length == 3) || vs.length != ts.length) = true then some none
  else if vs.any (fun | .Starred .. => true | _ => false) = true then some none
  else
    let line := (ts.head?.map (·.pos.line)).getD 0
    let names := ts.filterMap fun
      | .Name id pos => if (sc.names.lookup id == some .local && pos.line == line) = true then some id else none
      | _ => none
    if (names.length != ts.length || names.eraseDups.length != names.length) = true then some none
    else if vs.all (foldedForSure 8) = true then some none
    else if vs.all (constantsAlone 8) = true then none
    else some (some names)
theorem sw_ok {env : PySem.Env} {ts vs : List Expr} {k k2 : Nat} {p p2 : Pos} {r : Option (List Str)} (hk : env.scope.kind = .function) (h : swF env.scope ts vs = some r) :
    swappedStores [.Tuple ts k p] (.Tuple vs k2 p2) env = pure r := by
  have hb : env.blockKind = .function := by unfold PySem.Env.blockKind; rw [hk]; rfl
  unfold swF at h
  unfold swappedStores
  simp only [hb]
  have hne : (ScopeKind.function != ScopeKind.function) = false := by decide
  rw [hne, Bool.or_false]
  split at h
  · rename_i c; cases h; exact (if_pos c).trans rfl
  · rename_i c
    refine (if_neg c).trans ?_
    split at h
    · rename_i c; cases h; exact (if_pos c).trans rfl
    · rename_i c
      refine (if_neg c).trans ?_
      simp only at h
      unfold PySem.Env.kindOf
      split at h
      · rename_i c; cases h; exact (if_pos c).trans rfl
      · rename_i c
        refine (if_neg c).trans ?_
        split at h
        · rename_i c; cases h; exact (if_pos c).trans rfl
        · rename_i c
          refine (if_neg c).trans ?_
          split at h
          · cases h
          · rename_i c
            cases h
            refine (if_neg c).trans ?_
            rfl
/-- no pair of targets with a tuple -/
def noSw : Expr → Expr → Bool
  | .Tuple .., .Tuple .. => false
  | .List .., _ => false
  | _, _ => true
theorem noSw_ok {t v : Expr} {env : PySem.Env} (h : noSw t v = true) : swappedStores [t] v env = pure none := by
  cases t <;> first | rfl | (cases v <;> first | rfl | cases h)
/-- no list comprehension -/
def noLc : Expr → Bool
  | .ListComp .. => false
  | _ => true
theorem noLc_sw {v : Expr} {t : Option Expr} {l : Nat} {env : PySem.Env} (h : noLc v = true) (hk : okh v = true) : swapsWith v t l env = pure false := by
  cases v <;> first | rfl | (simp [okh] at hk; done) | (simp [noLc] at h; done)

section
variable {X : Cx} {fa : Nat → Option Addr} {cal : Nat → List U → Mu → Option (U × Mu)} {n0 : Nat}
variable {a b c : E} {xa xb xc : Expr} {pos : Pos}
/-! ### targets -/
mutual
def ptSlots : Pt → List Nat
  | .slot i => [i]
  | .tup ps => ptsSlots ps
def ptsSlots : List Pt → List Nat
  | [] => []
  | p :: ps => ptSlots p ++ ptsSlots ps
end
/-- only those slots changed -/
def Same (is : List Nat) (σV σV' : L2.St) : Prop := ∀ ws : List Nat, (∀ i ∈ is, i ∈ ws) → L2.wipe σV' ws = L2.wipe σV ws
theorem wipe_get (σ : L2.St) (j : Nat) : ∀ ws : List Nat, (L2.wipe σ ws)[j]? = if j ∈ ws then (σ[j]?).map (fun _ => none) else σ[j]?
  | [] => by simp [L2.wipe]
  | w :: ws => by
    unfold L2.wipe
    by_cases h : w = j
    · subst h
      rw [List.getElem?_set]
      simp only [if_true, wipe_length, List.mem_cons, true_or, if_true]
      by_cases hl : w < σ.length
      · simp [hl]
      · simp [hl]
    · rw [List.getElem?_set_ne h, wipe_get σ j ws]
      have : j ∈ w :: ws ↔ j ∈ ws := by
        constructor
        · intro z
          rcases List.mem_cons.mp z with z | z
          · exact absurd z.symm h
          · exact z
        · exact fun z => List.mem_cons_of_mem _ z
      simp only [this]
theorem wipe_set {σ : L2.St} {i : Nat} {x : Option V} {ws : List Nat} (h : i ∈ ws) : L2.wipe (σ.set i x) ws = L2.wipe σ ws := by
  apply List.ext_getElem?
  intro j
  rw [wipe_get, wipe_get]
  by_cases hj : j ∈ ws
  · rw [if_pos hj, if_pos hj, List.getElem?_set]
    by_cases hi : i = j
    · subst hi
      by_cases hl : i < σ.length
      · simp [hl]
      · simp [hl]
    · simp [hi]
  · rw [if_neg hj, if_neg hj, List.getElem?_set_ne (fun z => hj (by rw [← z]; exact h))]
theorem wipe_wipe {σ : L2.St} {ws : List Nat} : L2.wipe (L2.wipe σ ws) ws = L2.wipe σ ws := by
  apply List.ext_getElem?
  intro j
  rw [wipe_get, wipe_get]
  by_cases hj : j ∈ ws
  · rw [if_pos hj, if_pos hj]
    cases σ[j]? <;> rfl
  · rw [if_neg hj, if_neg hj]
theorem Same.trans {a b : List Nat} {σ σ' σ'' : L2.St} (h : Same a σ σ') (h' : Same b σ' σ'') : Same (a ++ b) σ σ'' := fun ws hw => (h' ws fun i hi => hw i (List.mem_append_right _ hi)).trans (h ws fun i hi => hw i (List.mem_append_left _ hi))
def tGp (K : PySem.W.Frag) (fa : Nat → Option Addr) (p : Pt) : TG := fun v σV H Q => ∃ t bs m μ σ u σ', EnvR K fa t m H σ σV ∧ Me K fa bs t m H μ ∧ Rp K fa t m m.length H u v ∧ bindP μ p u σ = some σ' ∧ ∀ σV', EnvR K fa t m H σ' σV' → Same (ptSlots p) σV σV' → Q σV' H
def tGs (K : PySem.W.Frag) (fa : Nat → Option Addr) (ps : List Pt) : TGs := fun vs σV H Q => ∃ t bs m μ σ us σ', EnvR K fa t m H σ σV ∧ Me K fa bs t m H μ ∧ RpA K fa t m m.length H us vs ∧ bindPs μ ps us σ = some σ' ∧ ∀ σV', EnvR K fa t m H σ' σV' → Same (ptsSlots ps) σV σV' → Q σV' H
theorem g_slot {i : Nat} {x : Str} (hN : X.N.Nodup) (hi : X.N[i]? = some x) (hx : Loc X.env.scope x) (hf : X.fn x = true ∨ X.env.scope.names.lookup x = some .local) : PG X (.Name x pos) (tGp X.K fa (.slot i)) :=
  (pg_name hN hi hx hf).imp fun v σV H Q q => by
    obtain ⟨t, bs, m, μ, σ, u, σ', he, M, r, e, k⟩ := q
    simp only [bindP] at e
    cases e
    exact k _ (he.set r) fun ws hw => wipe_set (hw i (by simp [ptSlots]))
theorem gs_nil : PGs X [] (tGs X.K fa []) := pgs_nil.imp fun vs σV H Q q => by
  obtain ⟨t, bs, m, μ, σ, us, σ', he, M, r, e, k⟩ := q
  match us, e, r with
  | [], e, r =>
    simp only [bindPs] at e
    cases e
    cases r
    exact ⟨rfl, k _ he fun _ _ => rfl⟩
theorem gs_cons {p : Pt} {ps : List Pt} {x : Expr} {xs : List Expr} (h : PG X x (tGp X.K fa p)) (hs : PGs X xs (tGs X.K fa ps)) (hk : okt x = true) : PGs X (x :: xs) (tGs X.K fa (p :: ps)) :=
  (pgs_cons h hs (by rw [okt_each hk] <;> rfl)).imp fun vs σV H Q q => by
    obtain ⟨t, bs, m, μ, σ, us, σ', he, M, r, e, k⟩ := q
    match us, e, r with
    | u :: us, e, .cons r ra =>
      simp only [bindPs] at e
      split at e
      · rename_i σ1 e1
        exact ⟨_, _, rfl, t, bs, m, μ, σ, u, σ1, he, M, r, e1, fun σV1 he1 s1 => ⟨t, bs, m, μ, σ1, us, σ', he1, M, ra, e, fun σV2 he2 s2 => k σV2 he2 (by simpa [ptsSlots] using s1.trans s2)⟩⟩
      · cases e
theorem g_tup {ps : List Pt} {xs : List Expr} {j : Nat} (hc : X.calm = true) (h : PGs X xs (tGs X.K fa ps)) (hk : xs.all okt = true) (hl : xs.length = ps.length) : PG X (.Tuple xs j pos) (tGp X.K fa (.tup ps)) :=
  (pg_tup hc h (okt_len hk) (okt_none hk)).imp fun v σV H Q q => by
    obtain ⟨t, bs, m, μ, σ, u, σ', he, M, r, e, k⟩ := q
    cases u with
    | tup us =>
      simp only [bindP] at e
      split at e
      · rename_i hl'
        cases r with
        | tup f ra => exact ⟨_, _, rfl, f.sq, by rw [← ra.length, hl, hl'], t, bs, m, μ, σ, us, σ', he, M, ra, e, fun σV' he' s' => k σV' he' (by simpa [ptSlots] using s')⟩
      · cases e
    | _ => simp [bindP] at e

/-! ### statements -/
def KnO (K : PySem.W.Frag) (fa : Nat → Option Addr) (bs : List Nat) (t m : List Addr) (H : Hp) : Out → Ends → Prop
  | .nx σ' μ', D => ∀ m' H' σV', Ex m H m' H' → Me K fa bs t m' H' μ' → EnvR K fa t m' H' σ' σV' → D.nx σV' H'
  | .rt u μ', D => Kn K fa bs t m H u μ' D.rt
  | .bk σ' μ', D => ∀ m' H' σV', Ex m H m' H' → Me K fa bs t m' H' μ' → EnvR K fa t m' H' σ' σV' → D.bk σV' H'
  | .ct σ' μ', D => ∀ m' H' σV', Ex m H m' H' → Me K fa bs t m' H' μ' → EnvR K fa t m' H' σ' σV' → D.ct σV' H'
theorem KnO.ex {K : PySem.W.Frag} {bs : List Nat} {t m m' : List Addr} {H H' : Hp} {o : Out} {D : Ends} (k : KnO K fa bs t m H o D) (e : Ex m H m' H') : KnO K fa bs t m' H' o D := by
  cases o with
  | nx σ μ => exact fun m2 H2 σV2 x M h => k m2 H2 σV2 (e.trans x) M h
  | rt u μ => exact Kn.ex k e
  | bk σ μ => exact fun m2 H2 σV2 x M h => k m2 H2 σV2 (e.trans x) M h
  | ct σ μ => exact fun m2 H2 σV2 x M h => k m2 H2 σV2 (e.trans x) M h
def tSv (K : PySem.W.Frag) (fa : Nat → Option Addr) (n0 : Nat) (ex : Env → Mu → Option Out) : TS := fun D σV H => ∃ t bs m σ μ o, bs.length = n0 ∧ EnvR K fa t m H σ σV ∧ Me K fa bs t m H μ ∧ ex σ μ = some o ∧ KnO K fa bs t m H o D
abbrev PSv (X : Cx) (fa : Nat → Option Addr) (cal : Nat → List U → Mu → Option (U × Mu)) (n0 : Nat) (x : Stmt) (s : S) : Prop := PS X x (tSv X.K fa n0 (exS cal n0 s))
abbrev PLv (X : Cx) (fa : Nat → Option Addr) (cal : Nat → List U → Mu → Option (U × Mu)) (n0 : Nat) (x : List Stmt) (s : List S) : Prop := PSs X x (tSv X.K fa n0 (exL cal n0 s))
theorem l_nil : PLv X fa cal n0 [] [] := pss_nil.imp fun D σV H q => by
  obtain ⟨t, bs, m, σ, μ, o, hb, he, M, ev, k⟩ := q
  simp only [exL] at ev
  cases ev
  exact k m H σV (Ex.refl _ _) M he
theorem l_cons {s : S} {ss : List S} {x : Stmt} {xs : List Stmt} (h : PSv X fa cal n0 x s) (hs : PLv X fa cal n0 xs ss) : PLv X fa cal n0 (x :: xs) (s :: ss) :=
  (pss_cons h hs).imp fun D σV H q => by
    obtain ⟨t, bs, m, σ, μ, o, hb, he, M, ev, k⟩ := q
    simp only [exL] at ev
    split at ev
    · rename_i σ1 μ1 e1
      exact ⟨t, bs, m, σ, μ, _, hb, he, M, e1, fun m1 H1 σV1 x1 M1 he1 => ⟨t, bs, m1, σ1, μ1, o, hb, he1, M1, ev, k.ex x1⟩⟩
    · rename_i o' hno
      refine ⟨t, bs, m, σ, μ, o, hb, he, M, ev, ?_⟩
      cases o with
      | nx σ1 μ1 => exact absurd ev (hno σ1 μ1)
      | rt u μ => exact k
      | bk σ μ => exact k
      | ct σ μ => exact k
theorem s_pass : PSv X fa cal n0 (.Pass pos) .pass := ps_pass.imp fun D σV H q => by
  obtain ⟨t, bs, m, σ, μ, o, hb, he, M, ev, k⟩ := q
  simp only [exS] at ev
  cases ev
  exact k m H σV (Ex.refl _ _) M he
theorem s_brk : PSv X fa cal n0 (.Break pos) .brk := ps_break.imp fun D σV H q => by
  obtain ⟨t, bs, m, σ, μ, o, hb, he, M, ev, k⟩ := q
  simp only [exS] at ev
  cases ev
  exact k m H σV (Ex.refl _ _) M he
theorem s_cont : PSv X fa cal n0 (.Continue pos) .cont := ps_continue.imp fun D σV H q => by
  obtain ⟨t, bs, m, σ, μ, o, hb, he, M, ev, k⟩ := q
  simp only [exS] at ev
  cases ev
  exact k m H σV (Ex.refl _ _) M he
theorem s_doc {x : Str} {j : Nat} {p2 : Pos} : PSv X fa cal n0 (.Expr (.Constant (.str x) j p2) pos) .pass := ps_doc.imp fun D σV H q => by
  obtain ⟨t, bs, m, σ, μ, o, hb, he, M, ev, k⟩ := q
  simp only [exS] at ev
  cases ev
  exact k m H σV (Ex.refl _ _) M he
theorem s_never {x : Stmt} : PSv X fa cal n0 x .stuck := ps_never.imp fun D σV H q => by
  obtain ⟨t, bs, m, σ, μ, o, hb, he, M, ev, k⟩ := q
  simp only [exS] at ev
  cases ev
theorem s_ex (h : PEv X fa cal n0 xa a) (hk : okh xa = true) (hl : noLc xa = true) : PSv X fa cal n0 (.Expr xa pos) (.ex a) :=
  (ps_expr h (noLc_sw hl hk)).imp fun D σV H q => by
    obtain ⟨t, bs, m, σ, μ, o, hb, he, M, ev, k⟩ := q
    simp only [exS] at ev
    split at ev
    · rename_i u μ1 e1
      cases ev
      exact seq1 hb he M e1 fun m1 H1 v1 x1 M1 r1 => k m1 H1 σV x1 M1 (he.ex x1)
    · cases ev
theorem s_ret (h : PEv X fa cal n0 xa a) : PSv X fa cal n0 (.Return (some xa) pos) (.ret a) :=
  (ps_ret h).imp fun D σV H q => by
    obtain ⟨t, bs, m, σ, μ, o, hb, he, M, ev, k⟩ := q
    simp only [exS] at ev
    split at ev
    · rename_i u μ1 e1
      cases ev
      exact ⟨t, bs, m, σ, μ, u, _, hb, he, M, e1, k⟩
    · cases ev
theorem s_retN : PSv X fa cal n0 (.Return none pos) (.ret .non) := ps_retN.imp fun D σV H q => by
  obtain ⟨t, bs, m, σ, μ, o, hb, he, M, ev, k⟩ := q
  simp only [exS, evalE] at ev
  cases ev
  exact k m H .non (Ex.refl _ _) M .non
theorem s_if {p q : List S} {xp xq : List Stmt} (hc : PTv X fa cal n0 xc c) (hp : PLv X fa cal n0 xp p) (hq : PLv X fa cal n0 xq q) : PSv X fa cal n0 (.If xc xp xq pos) (.iff c p q) :=
  (ps_if hc hp hq).imp fun D σV H q => by
    obtain ⟨t, bs, m, σ, μ, o, hb, he, M, ev, k⟩ := q
    simp only [exS] at ev
    split at ev
    · rename_i u1 μ1 e1
      split at ev
      · rename_i e2
        refine ⟨t, bs, m, σ, μ, u1, μ1, true, hb, he, M, e1, e2, fun m1 H1 x1 M1 => ?_⟩
        simp only [↓reduceIte]
        exact ⟨t, bs, m1, σ, μ1, o, hb, he.ex x1, M1, ev, k.ex x1⟩
      · rename_i e2
        refine ⟨t, bs, m, σ, μ, u1, μ1, false, hb, he, M, e1, e2, fun m1 H1 x1 M1 => ?_⟩
        simp only [↓reduceIte, Bool.false_eq_true]
        exact ⟨t, bs, m1, σ, μ1, o, hb, he.ex x1, M1, ev, k.ex x1⟩
      · cases ev
    · cases ev
/-- name = value -/
theorem s_set {i : Nat} {x : Str} {pos' : Pos} (hN : X.N.Nodup) (hi : X.N[i]? = some x) (hx : Loc X.env.scope x) (hf : X.fn x = true ∨ X.env.scope.names.lookup x = some .local) (h : PEv X fa cal n0 xa a) (hs : swapsWith xa (some (.Name x pos')) pos.line X.env = pure false) :
    PSv X fa cal n0 (.Assign [.Name x pos'] xa pos) (.set i a) :=
  (ps_set hN hi hx h hs hf).imp fun D σV H q => by
    obtain ⟨t, bs, m, σ, μ, o, hb, he, M, ev, k⟩ := q
    simp only [exS] at ev
    split at ev
    · rename_i u μ1 e1
      cases ev
      exact seq1 hb he M e1 fun m1 H1 v1 x1 M1 r1 => k m1 H1 _ x1 M1 ((he.ex x1).set r1)
    · cases ev
theorem s_asg {p : Pt} {tg : Expr} (hg : PG X tg (tGp X.K fa p)) (h : PEv X fa cal n0 xa a) (hk : okh xa = true) (ht : okt tg = true) (hl : noLc xa = true) (hw : swappedStores [tg] xa X.env = pure none) :
    PSv X fa cal n0 (.Assign [tg] xa pos) (.asg p a) :=
  (ps_asg h hg (noLc_sw hl hk) hw (by rw [okt_each ht] <;> rfl)).imp fun D σV H q => by
    obtain ⟨t, bs, m, σ, μ, o, hb, he, M, ev, k⟩ := q
    simp only [exS] at ev
    split at ev
    · rename_i u μ1 e1
      split at ev
      · rename_i σ1 e2
        cases ev
        exact seq1 hb he M e1 fun m1 H1 v1 x1 M1 r1 => ⟨t, bs, m1, _, σ, u, σ1, he.ex x1, M1, r1, e2, fun σV' he' _ => k m1 H1 σV' x1 M1 he'⟩
      · cases ev
    · cases ev
/-- a tuple's items, then the stores from the right -/
theorem s_par2 {i j : Nat} {x y : Str} {es : List E} {px py pt : Pos} {kt k2 : Nat} {pt2 : Pos} (hc : X.calm = true) (hN : X.N.Nodup) (hi : X.N[i]? = some x) (hj : X.N[j]? = some y) (hij : i ≠ j)
    (hx : X.env.scope.names.lookup x = some .local) (hy : X.env.scope.names.lookup y = some .local) (ha : PAv X fa cal n0 [xa, xb] es)
    (hw : swappedStores [.Tuple [.Name x px, .Name y py] kt pt] (.Tuple [xa, xb] k2 pt2) X.env = pure (some [x, y])) :
    PSv X fa cal n0 (.Assign [.Tuple [.Name x px, .Name y py] kt pt] (.Tuple [xa, xb] k2 pt2) pos) (.par [i, j] es) :=
  (ps_par hc hN hi hj hij hx hy ha hw).imp fun D σV H q => by
    obtain ⟨t, bs, m, σ, μ, o, hb, he, M, ev, k⟩ := q
    simp only [exS] at ev
    split at ev
    · rename_i us μ1 e1
      split at ev
      · rename_i σ1 e2
        cases ev
        match us, e2 with
        | [u1, u2], e2 =>
          simp only [bindI] at e2
          cases e2
          refine ⟨t, bs, m, σ, μ, _, _, hb, he, M, e1, fun m1 H1 vs x1 M1 ra => ?_⟩
          obtain ⟨v, w, rfl, r1, r2⟩ := rpa2 ra
          exact ⟨v, w, rfl, k m1 H1 _ x1 M1 (((he.ex x1).set r1).set r2)⟩
      · cases ev
    · cases ev
theorem rpa3 {K : PySem.W.Frag} {t m : List Addr} {n : Nat} {H : Hp} {u w z : U} {xs : List V} (r : RpA K fa t m n H [u, w, z] xs) : ∃ v y q, xs = [v, y, q] ∧ Rp K fa t m n H u v ∧ Rp K fa t m n H w y ∧ Rp K fa t m n H z q := by
  cases r with
  | cons h q =>
    obtain ⟨y, z, rfl, h2, h3⟩ := rpa2 q
    exact ⟨_, y, z, rfl, h, h2, h3⟩
theorem s_par3 {i j l : Nat} {x y z : Str} {es : List E} {px py pz pt : Pos} {kt k2 : Nat} {pt2 : Pos} (hc : X.calm = true) (hN : X.N.Nodup) (hi : X.N[i]? = some x) (hj : X.N[j]? = some y) (hl : X.N[l]? = some z) (hij : i ≠ j) (hil : i ≠ l) (hjl : j ≠ l)
    (hx : X.env.scope.names.lookup x = some .local) (hy : X.env.scope.names.lookup y = some .local) (hz : X.env.scope.names.lookup z = some .local) (ha : PAv X fa cal n0 [xa, xb, xc] es)
    (hw : swappedStores [.Tuple [.Name x px, .Name y py, .Name z pz] kt pt] (.Tuple [xa, xb, xc] k2 pt2) X.env = pure (some [x, y, z])) :
    PSv X fa cal n0 (.Assign [.Tuple [.Name x px, .Name y py, .Name z pz] kt pt] (.Tuple [xa, xb, xc] k2 pt2) pos) (.par [i, j, l] es) :=
  (ps_par3 hc hN hi hj hl hij hil hjl hx hy hz ha hw).imp fun D σV H q => by
    obtain ⟨t, bs, m, σ, μ, o, hb, he, M, ev, k⟩ := q
    simp only [exS] at ev
    split at ev
    · rename_i us μ1 e1
      split at ev
      · rename_i σ1 e2
        cases ev
        match us, e2 with
        | [u1, u2, u3], e2 =>
          simp only [bindI] at e2
          cases e2
          refine ⟨t, bs, m, σ, μ, _, _, hb, he, M, e1, fun m1 H1 vs x1 M1 ra => ?_⟩
          obtain ⟨v, w, q, rfl, r1, r2, r3⟩ := rpa3 ra
          exact ⟨v, w, q, rfl, k m1 H1 _ x1 M1 ((((he.ex x1).set r1).set r2).set r3)⟩
      · cases ev
    · cases ev
/-! ### o[i] = v -/
def rSetU (K : PySem.W.Frag) (fa : Nat → Option Addr) (n0 : Nat) : TSet := fun o i v H Q => ∃ t bs m μ d j u μ', bs.length = n0 ∧ Me K fa bs t m H μ ∧ Rp K fa t m m.length H d o ∧ Rp K fa t m m.length H j i ∧ Rp K fa t m m.length H u v ∧ storeSub n0 μ d j u = some μ' ∧ ∀ m' H', Ex m H m' H' → Me K fa bs t m' H' μ' → Q H'
theorem setR (hu : X.A.units + 66 < cLine) : PSet X (rSetU X.K fa n0) := by
  intro pins s σ H o i v ov iv u Q I ro ri rv h
  obtain ⟨t, bs, m, μ, d, j, w, μ', hb, M, rd, rj, rw', ev, k⟩ := h
  have hl := sz_line
  simp only [storeSub] at ev
  split at ev
  · rename_i kk
    split at ev
    · rename_i xs e
      split at ev
      · rename_i z
        split at ev
        · rename_i q hq
          split at ev
          · rename_i ho
            cases ev
            obtain ⟨p, rfl, hp, c⟩ := M.obj rd e
            have rw2 := okw_rp hb ho rw'
            cases rj
            generalize hn : bs[kk]?.getD m.length = nn at c rw2
            cases c with
            | @lst vx _ hH rl =>
              rw [rl.length] at hq
              refine set_list pins s σ H _ _ _ ov iv u Q I ro ri rv ⟨p, vx, z, q, rfl, rfl, hH, hq, ?_⟩
              have ex : Ex m H m (upd H p (.lst (vx.set q v))) := Ex.write (List.mem_of_getElem? hp)
              refine k m _ ex (M.write hp (.lst upd_same ?_))
              rw [hn]
              exact (rl.set rw2 q).ex ex (Nat.le_refl _)
          · cases ev
        · cases ev
      · cases ev
    · rename_i o hno e
      split at ev
      · rename_i o' e2
        split at ev
        · rename_i ho
          cases ev
          obtain ⟨p, rfl, hp, c⟩ := M.obj rd e
          have rw2 := okw_rp hb ho rw'
          generalize hn : bs[kk]?.getD m.length = nn at c rw2
          cases c with
          | lst hH rl => simp [dput] at e2
          | @dK kvs us hH rl =>
            simp only [dput] at e2
            split at e2
            · rename_i q hq
              split at e2
              · rename_i hz
                cases e2
                have ek := sky_ok rj hq
                subst ek
                rw [List.length_map] at hz
                cases ro
                refine d_setItem (by omega) I (DPut.k hH (by omega)) ri rv fun s' I' => ⟨_, I', ?_⟩
                have ex : Ex m H m (upd H p (.dK (putK kvs q v))) := Ex.write (List.mem_of_getElem? hp)
                refine k m _ ex (M.write hp ?_)
                rw [← putK_keys _ _ v]
                refine .dK upd_same ?_
                rw [hn]
                exact (putK_ok rw2 rl).ex ex (Nat.le_refl _)
              · cases e2
            · cases e2
          | @dT kvs us hH rl =>
            simp only [dput] at e2
            split at e2
            · rename_i q hq
              split at e2
              · rename_i hz
                cases e2
                obtain ⟨b, rfl, hbb⟩ := tky_ok rj hq
                rw [List.length_map] at hz
                cases ro
                refine d_setItem (by omega) I (DPut.t hH hbb (by omega)) ri rv fun s' I' => ⟨_, I', ?_⟩
                have ex : Ex m H m (upd H p (.dT (putK kvs q v))) := Ex.write (List.mem_of_getElem? hp)
                refine k m _ ex (M.write hp ?_)
                rw [← putK_keys _ _ v]
                refine .dT upd_same ?_
                rw [hn]
                exact (putK_ok rw2 rl).ex ex (Nat.le_refl _)
              · cases e2
            · cases e2
        · cases ev
      · cases ev
    · cases ev
  · cases ev
theorem okh_asg {o i : Expr} {p : Pos} {env : PySem.Env} (h : okh i = true) (v : Value) : assign (.Subscript o i p) env v = (do
      let ov ← holding [v] (eval o env)
      let iv ← holding [v, ov] (eval i env)
      standAt p
      holding [v, ov, iv] (setItem ov iv v)
      release [v, ov, iv] []) := by
  cases i <;> first | rfl | cases h
theorem s_sub {p2 : Pos} (hu : X.A.units + 66 < cLine) (ha : PEv X fa cal n0 xa a) (hb : PEv X fa cal n0 xb b) (hc : PEv X fa cal n0 xc c) (hkb : okh xb = true) (hkc : okh xc = true) (hl : noLc xc = true) :
    PSv X fa cal n0 (.Assign [.Subscript xa xb p2] xc pos) (.sub a b c) :=
  have hs : swapsWithSole [.Subscript xa xb p2] xc pos.line X.env = pure false := noLc_sw (t := some (.Subscript xa xb p2)) (l := pos.line) (env := X.env) hl hkc
  (ps_asg hc (pg_sub ha hb (setR (fa := fa) (n0 := n0) hu) (okh_asg hkb)) hs (noSw_ok rfl) rfl).imp fun D σV H q => by
    obtain ⟨t, bs, m, σ, μ, o, hb, he, M, ev, k⟩ := q
    simp only [exS] at ev
    split at ev
    · rename_i u μ1 e1
      split at ev
      · rename_i d μ2 e2
        split at ev
        · rename_i j μ3 e3
          split at ev
          · rename_i μ4 e4
            cases ev
            refine seq1 hb he M e1 fun m1 H1 v1 x1 M1 r1 => ?_
            refine seq2 hb (he.ex x1) M1 e2 e3 fun m3 H3 v2 v3 x3 M3 r2 r3 => ?_
            exact ⟨t, bs, m3, _, d, j, u, _, hb, M3, r2, r3, r1.ex' x3, e4, fun m4 H4 x4 M4 => k m4 H4 σV (x1.trans (x3.trans x4)) M4 ((he.ex (x1.trans x3)).ex x4)⟩
          · cases ev
        · cases ev
      · cases ev
    · cases ev
/-! ### two stores -/
def tGS (K : PySem.W.Frag) (fa : Nat → Option Addr) (cal : Nat → List U → Mu → Option (U × Mu)) (n0 : Nat) (a i : E) : TG := fun v σV H Q => ∃ t bs m σ μ u μ', bs.length = n0 ∧ EnvR K fa t m H σ σV ∧ Me K fa bs t m H μ ∧ Rp K fa t m m.length H u v ∧ storeTo cal n0 a i u σ μ = some μ' ∧ ∀ m' H', Ex m H m' H' → Me K fa bs t m' H' μ' → Q σV H'
theorem g_sub {p2 : Pos} (hu : X.A.units + 66 < cLine) (ha : PEv X fa cal n0 xa a) (hb : PEv X fa cal n0 xb b) (hkb : okh xb = true) : PG X (.Subscript xa xb p2) (tGS X.K fa cal n0 a b) :=
  (pg_sub ha hb (setR (fa := fa) (n0 := n0) hu) (okh_asg hkb)).imp fun v σV H Q q => by
    obtain ⟨t, bs, m, σ, μ, u, μ', hb, he, M, r, ev, k⟩ := q
    unfold storeTo at ev
    split at ev
    · rename_i d μ2 e2
      split at ev
      · rename_i j μ3 e3
        exact seq2 hb he M e2 e3 fun m3 H3 v2 v3 x3 M3 r2 r3 => ⟨t, bs, m3, _, d, j, u, _, hb, M3, r2, r3, r.ex' x3, ev, fun m4 H4 x4 M4 => k m4 H4 (x3.trans x4) M4⟩
      · cases ev
    · cases ev
theorem s_asg2 {a' b' : E} {xa' xb' : Expr} {p2 p3 : Pos} (hu : X.A.units + 66 < cLine) (ha : PEv X fa cal n0 xa a) (hb : PEv X fa cal n0 xb b) (ha' : PEv X fa cal n0 xa' a') (hb' : PEv X fa cal n0 xb' b') (hc : PEv X fa cal n0 xc c) (hkb : okh xb = true) (hkb' : okh xb' = true) :
    PSv X fa cal n0 (.Assign [.Subscript xa xb p2, .Subscript xa' xb' p3] xc pos) (.asg2 a b a' b' c) :=
  (ps_asg2 hc (g_sub hu ha hb hkb) (g_sub hu ha' hb' hkb') (by rw [okt_each rfl, okt_each rfl] <;> rfl) rfl).imp fun D σV H q => by
    obtain ⟨t, bs, m, σ, μ, o, hb, he, M, ev, k⟩ := q
    simp only [exS] at ev
    split at ev
    · rename_i u μ1 e1
      split at ev
      · rename_i μ2 e2
        split at ev
        · rename_i μ3 e3
          cases ev
          exact seq1 hb he M e1 fun m1 H1 v1 x1 M1 r1 => ⟨t, bs, m1, σ, μ1, u, μ2, hb, he.ex x1, M1, r1, e2, fun m2 H2 x2 M2 => ⟨t, bs, m2, σ, μ2, u, μ3, hb, (he.ex x1).ex x2, M2, r1.ex' x2, e3, fun m3 H3 x3 M3 => k m3 H3 σV (x1.trans (x2.trans x3)) M3 (((he.ex x1).ex x2).ex x3)⟩⟩
        · cases ev
      · cases ev
    · cases ev
theorem s_sub2 {a' b' d : E} {xa' xb' xd : Expr} {p2 p3 pt qt : Pos} {kt k2 : Nat} (hcm : X.calm = true) (hu : X.A.units + 66 < cLine) (ha : PEv X fa cal n0 xa a) (hb : PEv X fa cal n0 xb b) (ha' : PEv X fa cal n0 xa' a') (hb' : PEv X fa cal n0 xb' b') (hcd : PAv X fa cal n0 [xc, xd] [c, d]) (hkb : okh xb = true) (hkb' : okh xb' = true)
    (hw : swappedStores [.Tuple [.Subscript xa xb p2, .Subscript xa' xb' p3] kt pt] (.Tuple [xc, xd] k2 qt) X.env = pure none) :
    PSv X fa cal n0 (.Assign [.Tuple [.Subscript xa xb p2, .Subscript xa' xb' p3] kt pt] (.Tuple [xc, xd] k2 qt) pos) (.sub2 a b a' b' c d) :=
  have hs : swapsWithSole [.Tuple [.Subscript xa xb p2, .Subscript xa' xb' p3] kt pt] (.Tuple [xc, xd] k2 qt) pos.line X.env = pure false := noLc_sw (v := .Tuple [xc, xd] k2 qt) (t := some (.Tuple [.Subscript xa xb p2, .Subscript xa' xb' p3] kt pt)) (l := pos.line) (env := X.env) rfl rfl
  (ps_asg (e_tup hcd) (pg_tup hcm (pgs_cons (g_sub hu ha hb hkb) (pgs_cons (g_sub hu ha' hb' hkb') pgs_nil (by rw [okt_each rfl] <;> rfl)) (by rw [okt_each rfl] <;> rfl)) (okt_len rfl) (okt_none rfl)) hs hw (by rw [okt_each rfl] <;> rfl)).imp fun D σV H q => by
    obtain ⟨t, bs, m, σ, μ, o, hb, he, M, ev, k⟩ := q
    simp only [exS] at ev
    split at ev
    · rename_i u μ1 e1
      split at ev
      · rename_i u' μ2 e2
        split at ev
        · rename_i μ3 e3
          split at ev
          · rename_i μ4 e4
            cases ev
            have et : evalE cal n0 (.tup [c, d]) σ μ = some (.tup [u, u'], μ2) := by
              simp only [evalE, evalL, e1, e2]
              rw [if_pos (by simp [SZ])]
            refine ⟨t, bs, m, σ, μ, _, μ2, hb, he, M, et, fun m1 H1 v1 x1 M1 r1 => ?_⟩
            cases r1 with
            | tup f ra =>
              obtain ⟨v, w, rfl, r1, r2⟩ := rpa2 ra
              exact ⟨_, _, rfl, f.sq, rfl, v, [w], rfl, t, bs, m1, σ, μ2, u, μ3, hb, he.ex x1, M1, r1, e3, fun m2 H2 x2 M2 => ⟨w, [], rfl, t, bs, m2, σ, μ3, u', μ4, hb, (he.ex x1).ex x2, M2, r2.ex' x2, e4, fun m3 H3 x3 M3 => ⟨rfl, k m3 H3 σV (x1.trans (x2.trans x3)) M3 (((he.ex x1).ex x2).ex x3)⟩⟩⟩
          · cases ev
        · cases ev
      · cases ev
    · cases ev
end
end R

set_option Elab.async false
set_option linter.all false
set_option maxRecDepth 100000
set_option maxHeartbeats 4000000
/-! R3i: walks, while, for, comprehensions -/
namespace R
open PySem PySem.Spec PyProof.Rows L2

section
variable {K : PySem.W.Frag} {fa : Nat → Option Addr} {t t' m m' : List Addr} {n n' : Nat} {H H' : Hp} {bs : List Nat} {μ : Mu} {D : Addr}
mutual
/-- other temporaries to be avoided: known ones or none at this heap -/
theorem Rp.tt (ht : ∀ a ∈ t', a ∈ t ∨ H a = none) : ∀ {u : U} {v : V}, Rp K fa t m n H u v → Rp K fa t' m n H u v
  | _, _, .non => .non
  | _, _, .bl b => .bl b
  | _, _, .int i => .int i
  | _, _, .str x => .str x
  | _, _, .tup h r => .tup ⟨h.1, h.2.1, fun z => (ht _ z).elim h.2.2 fun q => by have := h.1; rw [q] at this; cases this⟩ (RpA.tt ht r)
  | _, _, .lst h r => .lst ⟨h.1, h.2.1, fun z => (ht _ z).elim h.2.2 fun q => by have := h.1; rw [q] at this; cases this⟩ (RpA.tt ht r)
  | _, _, .dK h n z r => .dK h n (fun q => (ht _ q).elim z fun q => by rw [q] at h; cases h) (RpA.tt ht r)
  | _, _, .dT h n z r => .dT h n (fun q => (ht _ q).elim z fun q => by rw [q] at h; cases h) (RpA.tt ht r)
  | _, _, .ob hi h => .ob hi h
  | _, _, .fn h => .fn h
  | _, _, .scr h => .scr (h.elim (fun q => .inl ⟨q.1, q.2.1, fun z => (ht _ z).elim q.2.2 fun w => by obtain ⟨u, e⟩ := Rd.some q.1; rw [w] at e; cases e⟩) .inr)
theorem RpA.tt (ht : ∀ a ∈ t', a ∈ t ∨ H a = none) : ∀ {us : List U} {vs : List V}, RpA K fa t m n H us vs → RpA K fa t' m n H us vs
  | _, _, .nil => .nil
  | _, _, .cons h r => .cons (Rp.tt ht h) (RpA.tt ht r)
end
theorem Ex.of_keep (k : ∀ a o, H a = some o → H' a = some o) : Ex m H m H' := ⟨⟨[], by simp⟩, fun a o h _ => k a o h, fun a h n => absurd h n⟩

/-- an iterator over known items -/
structure WkL (K : PySem.W.Frag) (fa : Nat → Option Addr) (t m : List Addr) (H : Hp) (J : It) (xs : List U) : Prop where
  go : ∀ i m' H', Ex m H m' H' → i < xs.length → J.go i H'
  stop : ∀ i m' H', Ex m H m' H' → xs.length ≤ i → J.stop i H'
  yld : ∀ i m' H' t' bs μ v H'', i < xs.length → Ex m H m' H' → (∀ a ∈ t', a ∈ t ∨ H a = none) → Me K fa bs t' m' H' μ → J.yld i H' v H'' →
    ∃ u, xs[i]? = some u ∧ (∀ a o, H' a = some o → H'' a = some o) ∧ Rp K fa t' m' m'.length H'' u v
def WkJ (K : PySem.W.Frag) (fa : Nat → Option Addr) (t m : List Addr) (H : Hp) (J : It) : List U ⊕ Nat → Prop
  | .inl xs => WkL K fa t m H J xs
  | .inr i => ∃ a, m[i]? = some a ∧ J = Itl K a
def tI (K : PySem.W.Frag) (fa : Nat → Option Addr) (n0 : Nat) (ev : Env → Mu → Option (List U × Mu)) (ik : Ik) : TI := fun σV H R => ∃ t bs m σ μ us μ' w, bs.length = n0 ∧ EnvR K fa t m H σ σV ∧ Me K fa bs t m H μ ∧ ev σ μ = some (us, μ') ∧ walk μ' ik us = some w ∧
  ∀ m1 H1 J, Ex m H m1 H1 → Me K fa bs t m1 H1 μ' → WkJ K fa t m1 H1 J w → R J H1
end

section
variable {X : Cx} {fa : Nat → Option Addr} {cal : Nat → List U → Mu → Option (U × Mu)} {n0 : Nat}
variable {a b c : E} {xa xb xc : Expr} {pos : Pos}
/-! ### while -/
theorem s_wh {p : List S} {xp : List Stmt} (hp : PassesOwn (model X.prog X.w) X.A X.env X.xe) (hc : PTv X fa cal n0 xc c) (hb : PLv X fa cal n0 xp p) : PSv X fa cal n0 (.While xc xp [] pos) (.wh c p) :=
  (ps_while hp hc hb).imp fun D σV H q => by
    obtain ⟨t, bs, m0, σ0, μ0, o, hbl, he0, M0, ev, k⟩ := q
    simp only [exS] at ev
    generalize hcond : (fun (σ : Env) (μ : Mu) => match evalE cal n0 c σ μ with
      | some (u, μ) => match truth μ u with
        | some t => some (t, μ)
        | none => none
      | none => none) = cond at ev
    generalize hbody : (fun (σ : Env) (μ : Mu) => exL cal n0 p σ μ) = body at ev
    refine ⟨fun f σV' H' => ∃ m σ μ, Ex m0 H m H' ∧ EnvR X.K fa t m H' σ σV' ∧ Me X.K fa bs t m H' μ ∧ whL cond body f σ μ = some o, ⟨FU, m0, σ0, μ0, Ex.refl _ _, he0, M0, ev⟩, ?_⟩
    rintro f σV1 H1 ⟨m1, σ1, μ1, x1, he1, M1, ev1⟩
    cases f with
    | zero => simp [whL] at ev1
    | succ g =>
      simp only [whL] at ev1
      split at ev1
      · rename_i μ2 e2
        rw [← hcond] at e2
        simp only at e2
        split at e2
        · rename_i u μ3 e3
          split at e2
          · rename_i d e4
            cases e2
            refine ⟨t, bs, m1, σ1, μ1, u, _, true, hbl, he1, M1, e3, e4, fun m2 H2 x2 M2 => ?_⟩
            simp only [↓reduceIte]
            refine ⟨fun σV' H' => ∃ m σ μ, Ex m0 H m H' ∧ EnvR X.K fa t m H' σ σV' ∧ Me X.K fa bs t m H' μ ∧ whL cond body g σ μ = some o, fun σV' H' w => ⟨g, Nat.lt_succ_self g, w⟩, ?_⟩
            have x12 := x1.trans x2
            split at ev1
            · rename_i σ4 μ4 e5
              rw [← hbody] at e5
              exact ⟨t, bs, m2, σ1, _, _, hbl, he1.ex x2, M2, e5, fun m3 H3 σV3 x3 M3 he3 => ⟨m3, σ4, μ4, x12.trans x3, he3, M3, ev1⟩⟩
            · rename_i σ4 μ4 e5
              rw [← hbody] at e5
              exact ⟨t, bs, m2, σ1, _, _, hbl, he1.ex x2, M2, e5, fun m3 H3 σV3 x3 M3 he3 => ⟨m3, σ4, μ4, x12.trans x3, he3, M3, ev1⟩⟩
            · rename_i σ4 μ4 e5
              cases ev1
              rw [← hbody] at e5
              exact ⟨t, bs, m2, σ1, _, _, hbl, he1.ex x2, M2, e5, fun m3 H3 σV3 x3 M3 he3 => k m3 H3 σV3 (x12.trans x3) M3 he3⟩
            · rename_i o1 h1 h2 h3
              rw [← hbody] at ev1
              refine ⟨t, bs, m2, σ1, _, o, hbl, he1.ex x2, M2, ev1, ?_⟩
              rw [← hbody] at h1 h2 h3
              cases o with
              | nx σ μ => exact absurd ev1 (h1 σ μ)
              | ct σ μ => exact absurd ev1 (h2 σ μ)
              | bk σ μ => exact absurd ev1 (h3 σ μ)
              | rt u μ => exact Kn.ex (show Kn X.K fa bs t m0 H u μ D.rt from k) x12
          · cases e2
        · cases e2
      · rename_i μ2 e2
        rw [← hcond] at e2
        simp only at e2
        split at e2
        · rename_i u μ3 e3
          split at e2
          · rename_i d e4
            cases e2
            cases ev1
            refine ⟨t, bs, m1, σ1, μ1, u, _, false, hbl, he1, M1, e3, e4, fun m2 H2 x2 M2 => ?_⟩
            simp only [↓reduceIte, Bool.false_eq_true]
            exact k m2 H2 σV1 (x1.trans x2) M2 (he1.ex x2)
          · cases e2
        · cases e2
      · cases ev1

/-! ### for -/
theorem okh_fold {e : Expr} {env : PySem.Env} (h : okh e = true) (x : Value) : foldedSetIterable e env x = pure x := by
  cases e <;> first | rfl | cases h
theorem s_for {p : Pt} {ik : Ik} {its : List E} {tg iter : Expr} {body : List Stmt} {bd : List S} (hp : PassesOwn (model X.prog X.w) X.A X.env X.xe) (hc : X.calm = true) (hi : PI X tg iter (tI X.K fa n0 (evalL cal n0 its) ik)) (hg : PG X tg (tGp X.K fa p)) (hb : PLv X fa cal n0 body bd) (hk : okh iter = true) :
    PSv X fa cal n0 (.For tg iter body [] pos) (.for_ p ik its bd) :=
  (ps_for hp hc hi hg hb (okh_fold hk)).imp fun D σV H q => by
    obtain ⟨t, bs, m0, σ0, μ0, o, hbl, he0, M0, ev, k⟩ := q
    simp only [exS] at ev
    split at ev
    · rename_i us μ1 e1
      generalize hstep : (fun (x : U) (σ : Env) (μ : Mu) => match bindP μ p x σ with
        | some σ => exL cal n0 bd σ μ
        | none => none) = step at ev
      split at ev
      · rename_i xs e2
        refine ⟨t, bs, m0, σ0, μ0, us, μ1, .inl xs, hbl, he0, M0, e1, e2, fun m1 H1 J x1 M1 wk => ?_⟩
        have wk : WkL X.K fa t m1 H1 J xs := wk
        refine ⟨fun i mm σV' H' => mm = xs.length - i ∧ i ≤ xs.length ∧ ∃ m σ μ, Ex m1 H1 m H' ∧ EnvR X.K fa t m H' σ σV' ∧ Me X.K fa bs t m H' μ ∧ forL step (xs.drop i) σ μ = some o, ⟨xs.length, by simp, Nat.zero_le _, m1, σ0, μ1, Ex.refl _ _, he0.ex x1, M1, by simpa using ev⟩, ?_⟩
        rintro i mm σV2 H2 ⟨rfl, hle, m2, σ2, μ2, x2, he2, M2, ev2⟩
        by_cases hlt : i < xs.length
        · refine .inr ⟨wk.go i m2 H2 x2 hlt, fun σV' H' => i + 1 ≤ xs.length ∧ ∃ m σ μ, Ex m1 H1 m H' ∧ EnvR X.K fa t m H' σ σV' ∧ Me X.K fa bs t m H' μ ∧ forL step (xs.drop (i + 1)) σ μ = some o, fun σV' H' w => ⟨xs.length - (i + 1), by omega, rfl, w.1, w.2⟩, fun x H3 y => ?_⟩
          obtain ⟨u, hu, kp, r⟩ := wk.yld i m2 H2 t bs μ2 x H3 hlt x2 (fun a h => .inl h) M2 y
          have x3 : Ex m2 H2 m2 H3 := Ex.of_keep kp
          have hd : xs.drop i = u :: xs.drop (i + 1) := by
            rw [List.drop_eq_getElem_cons hlt]
            rw [List.getElem?_eq_getElem hlt] at hu
            cases hu; rfl
          rw [hd] at ev2
          simp only [forL] at ev2
          have bnd : ∀ o1, step u σ2 μ2 = some o1 → ∃ σ3, bindP μ2 p u σ2 = some σ3 ∧ exL cal n0 bd σ3 μ2 = some o1 := by
            intro o1 h
            rw [← hstep] at h
            simp only at h
            split at h
            · rename_i σ3 e; exact ⟨σ3, e, h⟩
            · cases h
          have M3 := M2.ext kp
          have x23 := x2.trans x3
          have run : ∀ o1, step u σ2 μ2 = some o1 → KnO X.K fa bs t m2 H3 o1 { D with nx := fun σV' H' => i + 1 ≤ xs.length ∧ ∃ m σ μ, Ex m1 H1 m H' ∧ EnvR X.K fa t m H' σ σV' ∧ Me X.K fa bs t m H' μ ∧ forL step (xs.drop (i + 1)) σ μ = some o, ct := fun σV' H' => i + 1 ≤ xs.length ∧ ∃ m σ μ, Ex m1 H1 m H' ∧ EnvR X.K fa t m H' σ σV' ∧ Me X.K fa bs t m H' μ ∧ forL step (xs.drop (i + 1)) σ μ = some o, bk := D.nx } →
              tGp X.K fa p x σV2 H3 fun σV3 H4 => tSv X.K fa n0 (exL cal n0 bd) { D with nx := fun σV' H' => i + 1 ≤ xs.length ∧ ∃ m σ μ, Ex m1 H1 m H' ∧ EnvR X.K fa t m H' σ σV' ∧ Me X.K fa bs t m H' μ ∧ forL step (xs.drop (i + 1)) σ μ = some o, ct := fun σV' H' => i + 1 ≤ xs.length ∧ ∃ m σ μ, Ex m1 H1 m H' ∧ EnvR X.K fa t m H' σ σV' ∧ Me X.K fa bs t m H' μ ∧ forL step (xs.drop (i + 1)) σ μ = some o, bk := D.nx } σV3 H4 := by
            intro o1 h ko
            obtain ⟨σ3, e3, e4⟩ := bnd o1 h
            exact ⟨t, bs, m2, μ2, σ2, u, σ3, he2.ex x3, M3, r, e3, fun σV3 he3 _ => ⟨t, bs, m2, σ3, μ2, o1, hbl, he3, M3, e4, ko⟩⟩
          split at ev2
          · rename_i σ4 μ4 e5
            exact run _ e5 fun m3 H4 σV3 x4 M4 he4 => ⟨hlt, m3, σ4, μ4, x23.trans x4, he4, M4, ev2⟩
          · rename_i σ4 μ4 e5
            exact run _ e5 fun m3 H4 σV3 x4 M4 he4 => ⟨hlt, m3, σ4, μ4, x23.trans x4, he4, M4, ev2⟩
          · rename_i σ4 μ4 e5
            cases ev2
            exact run _ e5 fun m3 H4 σV3 x4 M4 he4 => k m3 H4 σV3 (x1.trans (x23.trans x4)) M4 he4
          · rename_i o1 h1 h2 h3
            refine run _ ev2 ?_
            cases o with
            | nx σ μ => exact absurd ev2 (h1 σ μ)
            | ct σ μ => exact absurd ev2 (h2 σ μ)
            | bk σ μ => exact absurd ev2 (h3 σ μ)
            | rt u μ => exact Kn.ex (show Kn X.K fa bs t m0 H u μ D.rt from k) (x1.trans x23)
        · have e : i = xs.length := by omega
          subst e
          rw [List.drop_length] at ev2
          simp only [forL] at ev2
          cases ev2
          exact .inl ⟨wk.stop _ m2 H2 x2 (Nat.le_refl _), k m2 H2 σV2 (x1.trans x2) M2 he2⟩
      · rename_i iob e2
        refine ⟨t, bs, m0, σ0, μ0, us, μ1, .inr iob, hbl, he0, M0, e1, e2, fun m1 H1 J x1 M1 wk => ?_⟩
        obtain ⟨ad, had, rfl⟩ := (show ∃ a, m1[iob]? = some a ∧ J = Itl X.K a from wk)
        refine ⟨fun i f σV' H' => ∃ m σ μ, Ex m1 H1 m H' ∧ EnvR X.K fa t m H' σ σV' ∧ Me X.K fa bs t m H' μ ∧ forV step iob f i σ μ = some o, ⟨FU, m1, σ0, μ1, Ex.refl _ _, he0.ex x1, M1, ev⟩, ?_⟩
        rintro i f σV2 H2 ⟨m2, σ2, μ2, x2, he2, M2, ev2⟩
        cases f with
        | zero => simp [forV] at ev2
        | succ g =>
          simp only [forV] at ev2
          split at ev2
          · rename_i xs e3
            obtain ⟨ad', e4, hm2, c⟩ := M2.objF (v := .ref ad) (.ob (by have := (List.getElem?_eq_some_iff.mp (x2.at_ had)).1; exact this) (x2.at_ had)) e3
            cases e4
            cases c with
            | @lst vx _ hH rl =>
              have hS : SqL X.K H2 ad vx := SqL.of hH
              split at ev2
              · rename_i hnone
                cases ev2
                exact .inl ⟨⟨vx, hS, by rw [← rl.length]; exact List.getElem?_eq_none_iff.mp hnone⟩, k m2 H2 σV2 (x1.trans x2) M2 he2⟩
              · rename_i u hu
                obtain ⟨v, hv, r⟩ := rl.get hu
                refine .inr ⟨⟨vx, v, hS, hv⟩, fun σV' H' => ∃ m σ μ, Ex m1 H1 m H' ∧ EnvR X.K fa t m H' σ σV' ∧ Me X.K fa bs t m H' μ ∧ forV step iob g (i + 1) σ μ = some o, fun σV' H' w => ⟨g, Nat.lt_succ_self g, w⟩, fun x H3 y => ?_⟩
                obtain ⟨rfl, y⟩ := y
                have := y vx hS
                rw [hv] at this
                cases this
                have bnd : ∀ o1, step u σ2 μ2 = some o1 → ∃ σ3, bindP μ2 p u σ2 = some σ3 ∧ exL cal n0 bd σ3 μ2 = some o1 := by
                  intro o1 h
                  rw [← hstep] at h
                  simp only at h
                  split at h
                  · rename_i σ3 e; exact ⟨σ3, e, h⟩
                  · cases h
                have run : ∀ o1, step u σ2 μ2 = some o1 → KnO X.K fa bs t m2 H3 o1 { D with nx := fun σV' H' => ∃ m σ μ, Ex m1 H1 m H' ∧ EnvR X.K fa t m H' σ σV' ∧ Me X.K fa bs t m H' μ ∧ forV step iob g (i + 1) σ μ = some o, ct := fun σV' H' => ∃ m σ μ, Ex m1 H1 m H' ∧ EnvR X.K fa t m H' σ σV' ∧ Me X.K fa bs t m H' μ ∧ forV step iob g (i + 1) σ μ = some o, bk := D.nx } →
                    tGp X.K fa p v σV2 H3 fun σV3 H4 => tSv X.K fa n0 (exL cal n0 bd) { D with nx := fun σV' H' => ∃ m σ μ, Ex m1 H1 m H' ∧ EnvR X.K fa t m H' σ σV' ∧ Me X.K fa bs t m H' μ ∧ forV step iob g (i + 1) σ μ = some o, ct := fun σV' H' => ∃ m σ μ, Ex m1 H1 m H' ∧ EnvR X.K fa t m H' σ σV' ∧ Me X.K fa bs t m H' μ ∧ forV step iob g (i + 1) σ μ = some o, bk := D.nx } σV3 H4 := by
                  intro o1 h ko
                  obtain ⟨σ3, e5, e6⟩ := bnd o1 h
                  exact ⟨t, bs, m2, μ2, σ2, u, σ3, he2, M2, r, e5, fun σV3 he3 _ => ⟨t, bs, m2, σ3, μ2, o1, hbl, he3, M2, e6, ko⟩⟩
                split at ev2
                · rename_i σ4 μ4 e5
                  exact run _ e5 fun m3 H4 σV3 x4 M4 he4 => ⟨m3, σ4, μ4, x2.trans x4, he4, M4, ev2⟩
                · rename_i σ4 μ4 e5
                  exact run _ e5 fun m3 H4 σV3 x4 M4 he4 => ⟨m3, σ4, μ4, x2.trans x4, he4, M4, ev2⟩
                · rename_i σ4 μ4 e5
                  cases ev2
                  exact run _ e5 fun m3 H4 σV3 x4 M4 he4 => k m3 H4 σV3 (x1.trans (x2.trans x4)) M4 he4
                · rename_i o1 h1 h2 h3
                  refine run _ ev2 ?_
                  cases o with
                  | nx σ μ => exact absurd ev2 (h1 σ μ)
                  | ct σ μ => exact absurd ev2 (h2 σ μ)
                  | bk σ μ => exact absurd ev2 (h3 σ μ)
                  | rt u μ => exact Kn.ex (show Kn X.K fa bs t m0 H u μ D.rt from k) (x1.trans x2)
          · cases ev2
      · cases ev
    · cases ev
end
end R

set_option Elab.async false
set_option linter.all false
set_option maxRecDepth 100000
set_option maxHeartbeats 4000000
/-! R3j: iterators; list comprehensions -/
namespace R
open PySem PySem.Spec PyProof.Rows L2

section
variable {K : PySem.W.Frag} {fa : Nat → Option Addr} {t t' m m' : List Addr} {n n' : Nat} {H H' : Hp} {bs : List Nat} {μ : Mu} {D : Addr}
theorem wk_list {a : Addr} {vs : List V} {xs : List U} (hS : ∀ m' H', Ex m H m' H' → SqL K H' a vs) (ra : RpA K fa t m m.length H xs vs) : WkL K fa t m H (Itl K a) xs where
  go := fun i m' H' e hl => by
    have hl' : i < vs.length := by rw [← ra.length]; exact hl
    exact ⟨vs, vs[i], hS m' H' e, List.getElem?_eq_getElem hl'⟩
  stop := fun i m' H' e hl => ⟨vs, hS m' H' e, by rw [← ra.length]; exact hl⟩
  yld := fun i m' H' t' bs μ v H'' hl e ht M y => by
    obtain ⟨rfl, y⟩ := y
    obtain ⟨u, hu, r⟩ := ra.getV (y vs (hS m' _ e))
    exact ⟨u, hu, fun _ _ h => h, (r.tt ht).ex' e⟩
theorem wk_tup {a : Addr} {vs : List V} {xs : List U} (f : FT t m H a vs) (ra : RpA K fa t m m.length H xs vs) : WkL K fa t m H (Itt K a) xs where
  go := fun i m' H' e hl => by
    have hl' : i < vs.length := by rw [← ra.length]; exact hl
    exact ⟨vs, vs[i], (f.ex e).sq, List.getElem?_eq_getElem hl'⟩
  stop := fun i m' H' e hl => ⟨vs, (f.ex e).sq, by rw [← ra.length]; exact hl⟩
  yld := fun i m' H' t' bs μ v H'' hl e ht M y => by
    obtain ⟨rfl, y⟩ := y
    obtain ⟨u, hu, r⟩ := ra.getV (y vs (f.ex e).sq)
    exact ⟨u, hu, fun _ _ h => h, (r.tt ht).ex' e⟩
theorem wk_str {x : Str} : WkL K fa t m H (Its x) (x.cps.toList.map fun c => .str ⟨#[c]⟩) where
  go := fun i m' H' e hl => by simpa [Its] using hl
  stop := fun i m' H' e hl => by simpa [Its] using hl
  yld := fun i m' H' t' bs μ v H'' hl e ht M y => by
    obtain ⟨rfl, c, hc, rfl⟩ := y
    exact ⟨.str ⟨#[c]⟩, by simp [hc], fun _ _ h => h, .str _⟩
theorem rgn_len (lo hi : Int) : (rgn lo hi).length = (hi - lo).toNat := by simp [rgn]
theorem wk_rng {lo hi : Int} : WkL K fa t m H (Itr lo (hi - lo).toNat) (rgn lo hi) where
  go := fun i m' H' e hl => by rw [rgn_len] at hl; exact hl
  stop := fun i m' H' e hl => by rw [rgn_len] at hl; exact hl
  yld := fun i m' H' t' bs μ v H'' hl e ht M y => by
    obtain ⟨rfl, rfl⟩ := y
    rw [rgn_len] at hl
    exact ⟨.int (lo + i), by simp [rgn, hl], fun _ _ h => h, .int _⟩
theorem wk_enm {a : Addr} {vs : List V} {xs : List U} (f : FL t m H a vs) (ra : RpA K fa t m m.length H xs vs) : WkL K fa t m H (Ite K a) (enum xs) where
  go := fun i m' H' e hl => by
    have hl' : i < vs.length := by rw [← ra.length]; simpa [enum] using hl
    exact ⟨vs, vs[i], (f.ex e).sq, List.getElem?_eq_getElem hl'⟩
  stop := fun i m' H' e hl => ⟨vs, (f.ex e).sq, by rw [← ra.length]; simpa [enum] using hl⟩
  yld := fun i m' H' t' bs μ v H'' hl e ht M y => by
    obtain ⟨T, x, rfl, hT, rfl, y⟩ := y
    obtain ⟨u, hu, r⟩ := ra.getV (y vs (f.ex e).sq)
    have hl' : i < xs.length := by simpa [enum] using hl
    obtain ⟨n1, n2⟩ := M.fresh hT
    have r' : Rp K fa t' m' m'.length (upd H' T (.tup [.int (i : Nat), x])) u x := ((r.tt ht).ex' e).ex' (Ex.upd hT)
    refine ⟨.tup [.int (i : Nat), u], ?_, fun b o h => by rw [upd_ne (ne_of_none h hT)]; exact h, .tup ⟨upd_same, n1, n2⟩ (.cons (.int _) (.one r'))⟩
    have hu' : xs[i] = u := by rw [List.getElem?_eq_getElem hl'] at hu; exact Option.some.inj hu
    simp [enum, List.getElem?_map, List.getElem?_zip_eq_some, hl', hu']
theorem wk_enmT {a : Addr} {vs : List V} {xs : List U} (f : FT t m H a vs) (ra : RpA K fa t m m.length H xs vs) : WkL K fa t m H (IteT K a) (enum xs) where
  go := fun i m' H' e hl => by
    have hl' : i < vs.length := by rw [← ra.length]; simpa [enum] using hl
    exact ⟨vs, vs[i], (f.ex e).sq, List.getElem?_eq_getElem hl'⟩
  stop := fun i m' H' e hl => ⟨vs, (f.ex e).sq, by rw [← ra.length]; simpa [enum] using hl⟩
  yld := fun i m' H' t' bs μ v H'' hl e ht M y => by
    obtain ⟨T, x, rfl, hT, rfl, y⟩ := y
    obtain ⟨u, hu, r⟩ := ra.getV (y vs (f.ex e).sq)
    have hl' : i < xs.length := by simpa [enum] using hl
    obtain ⟨n1, n2⟩ := M.fresh hT
    have r' : Rp K fa t' m' m'.length (upd H' T (.tup [.int (i : Nat), x])) u x := ((r.tt ht).ex' e).ex' (Ex.upd hT)
    refine ⟨.tup [.int (i : Nat), u], ?_, fun b o h => by rw [upd_ne (ne_of_none h hT)]; exact h, .tup ⟨upd_same, n1, n2⟩ (.cons (.int _) (.one r'))⟩
    have hu' : xs[i] = u := by rw [List.getElem?_eq_getElem hl'] at hu; exact Option.some.inj hu
    simp [enum, List.getElem?_map, List.getElem?_zip_eq_some, hl', hu']
theorem wk_zipL {a b : Addr} {vs ws : List V} {xs ys : List U} (f : FL t m H a vs) (g : FL t m H b ws) (ra : RpA K fa t m m.length H xs vs) (rb : RpA K fa t m m.length H ys ws) : WkL K fa t m H (Itz K a b) (zips xs ys) where
  go := fun i m' H' e hl => by
    simp [zips] at hl
    have h1 : i < vs.length := by rw [← ra.length]; omega
    have h2 : i < ws.length := by rw [← rb.length]; omega
    exact ⟨vs, ws, vs[i], ws[i], (f.ex e).sq, (g.ex e).sq, List.getElem?_eq_getElem h1, List.getElem?_eq_getElem h2⟩
  stop := fun i m' H' e hl => ⟨vs, ws, (f.ex e).sq, (g.ex e).sq, by
    simp [zips] at hl
    rw [← ra.length, ← rb.length]; omega⟩
  yld := fun i m' H' t' bs μ v H'' hl e ht M y => by
    obtain ⟨T, x, z, rfl, hT, rfl, y1, y2⟩ := y
    obtain ⟨u, hu, r⟩ := ra.getV (y1 vs (f.ex e).sq)
    obtain ⟨w, hw, r2⟩ := rb.getV (y2 ws (g.ex e).sq)
    obtain ⟨n1, n2⟩ := M.fresh hT
    refine ⟨.tup [u, w], by simp [zips, List.getElem?_map, List.getElem?_zip_eq_some, hu, hw], fun b o h => by rw [upd_ne (ne_of_none h hT)]; exact h, .tup ⟨upd_same, n1, n2⟩ (.cons (((r.tt ht).ex' e).ex' (Ex.upd hT)) (.one (((r2.tt ht).ex' e).ex' (Ex.upd hT))))⟩
theorem wk_zipT {a b : Addr} {vs ws : List V} {xs ys : List U} (f : FT t m H a vs) (g : FT t m H b ws) (ra : RpA K fa t m m.length H xs vs) (rb : RpA K fa t m m.length H ys ws) : WkL K fa t m H (RZ.ItzT K a b) (zips xs ys) where
  go := fun i m' H' e hl => by
    simp [zips] at hl
    have h1 : i < vs.length := by rw [← ra.length]; omega
    have h2 : i < ws.length := by rw [← rb.length]; omega
    exact ⟨vs, ws, vs[i], ws[i], (f.ex e).sq, (g.ex e).sq, List.getElem?_eq_getElem h1, List.getElem?_eq_getElem h2⟩
  stop := fun i m' H' e hl => ⟨vs, ws, (f.ex e).sq, (g.ex e).sq, by
    simp [zips] at hl
    rw [← ra.length, ← rb.length]; omega⟩
  yld := fun i m' H' t' bs μ v H'' hl e ht M y => by
    obtain ⟨T, x, z, rfl, hT, rfl, y1, y2⟩ := y
    obtain ⟨u, hu, r⟩ := ra.getV (y1 vs (f.ex e).sq)
    obtain ⟨w, hw, r2⟩ := rb.getV (y2 ws (g.ex e).sq)
    obtain ⟨n1, n2⟩ := M.fresh hT
    refine ⟨.tup [u, w], by simp [zips, List.getElem?_map, List.getElem?_zip_eq_some, hu, hw], fun b o h => by rw [upd_ne (ne_of_none h hT)]; exact h, .tup ⟨upd_same, n1, n2⟩ (.cons (((r.tt ht).ex' e).ex' (Ex.upd hT)) (.one (((r2.tt ht).ex' e).ex' (Ex.upd hT))))⟩
end

section
variable {X : Cx} {fa : Nat → Option Addr} {cal : Nat → List U → Mu → Option (U × Mu)} {n0 : Nat}
variable {a b c : E} {xa xb xc : Expr} {pos : Pos} {tg : Expr}
abbrev PIv (X : Cx) (fa : Nat → Option Addr) (cal : Nat → List U → Mu → Option (U × Mu)) (n0 : Nat) (tg iter : Expr) (ik : Ik) (its : List E) : Prop := PI X tg iter (tI X.K fa n0 (evalL cal n0 its) ik)
theorem evalL_one {σ : Env} {μ μ' : Mu} {us : List U} (h : evalL cal n0 [a] σ μ = some (us, μ')) : ∃ u, us = [u] ∧ evalE cal n0 a σ μ = some (u, μ') := by
  simp only [evalL] at h
  split at h
  · rename_i u μ1 e1
    cases h
    exact ⟨u, rfl, e1⟩
  · cases h
theorem i_ex (h : PEv X fa cal n0 xa a) : PIv X fa cal n0 tg xa .ex [a] := by
  refine ⟨fun pins s σV H R I q => ?_⟩
  obtain ⟨t, bs, m, σ, μ, us, μ', w, hb, he, M, ev, wk, k⟩ := q
  obtain ⟨u, rfl, e1⟩ := evalL_one ev
  cases u with
  | tup xs =>
    cases wk
    refine (pi_tup h).run pins s σV H R I ?_
    refine seq1 hb he M e1 fun m1 H1 v1 x1 M1 r1 => ?_
    cases r1 with
    | tup f ra => exact ⟨_, rfl, ⟨_, f.sq⟩, k m1 H1 _ x1 M1 (wk_tup f ra)⟩
  | lst xs =>
    cases wk
    refine (pi_list h).run pins s σV H R I ?_
    refine seq1 hb he M e1 fun m1 H1 v1 x1 M1 r1 => ?_
    cases r1 with
    | lst f ra => exact ⟨_, rfl, ⟨_, f.sq⟩, k m1 H1 _ x1 M1 (wk_list (fun m' H' e => (f.ex e).sq) ra)⟩
  | scr ns =>
    cases wk
    refine (pi_list h).run pins s σV H R I ?_
    refine seq1 hb he M e1 fun m1 H1 v1 x1 M1 r1 => ?_
    cases r1 with
    | scr f => exact ⟨_, rfl, ⟨_, f.sq⟩, k m1 H1 _ x1 M1 (wk_list (fun m' H' e => (f.ex e).sq) (RpA.ints ns))⟩
  | ob i =>
    simp only [walk] at wk
    split at wk
    · rename_i xs e2
      cases wk
      refine (pi_list h).run pins s σV H R I ?_
      refine seq1 hb he M e1 fun m1 H1 v1 x1 M1 r1 => ?_
      obtain ⟨p, rfl, hp, c⟩ := M1.objF r1 e2
      cases c with
      | lst hH ra => exact ⟨_, rfl, ⟨_, SqL.of hH⟩, k m1 H1 _ x1 M1 ⟨p, hp, rfl⟩⟩
    · cases wk
  | str x =>
    cases wk
    refine (pi_str h).run pins s σV H R I ?_
    refine seq1 hb he M e1 fun m1 H1 v1 x1 M1 r1 => ?_
    cases r1
    exact ⟨x, rfl, k m1 H1 _ x1 M1 wk_str⟩
  | _ => cases wk
theorem evalL_len {σ : Env} : ∀ {es : List E} {μ μ' : Mu} {us : List U}, evalL cal n0 es σ μ = some (us, μ') → us.length = es.length
  | [], _, _, _, h => by simp only [evalL] at h; cases h; rfl
  | e :: es, _, _, _, h => by
    simp only [evalL] at h
    split at h
    · split at h
      · rename_i e2
        cases h
        simp [evalL_len e2]
      · cases h
    · cases h
theorem i_rng1 {p : Pos} (hg : Gl X "range") (hm : X.mg "range" = none) (h : PEv X fa cal n0 xa a) (hk : okh xa = true) : PIv X fa cal n0 tg (.Call (.Name "range" p) [xa] [] pos) .rng [a] := by
  refine ⟨fun pins s σV H R I q => ?_⟩
  refine (pi_range1 (tg := tg) (p := p) (pos := pos) hg hm (a_cons h a_nil hk) (okh_star hk)).run pins s σV H R I ?_
  obtain ⟨t, bs, m, σ, μ, us, μ', w, hb, he, M, ev, wk, k⟩ := q
  obtain ⟨u, rfl, e1⟩ := evalL_one ev
  refine ⟨t, bs, m, σ, μ, _, μ', hb, he, M, ev, fun m1 H1 vs x1 M1 ra => ?_⟩
  obtain ⟨v, rfl, r⟩ := rpa1 ra
  cases u with
  | int j =>
    simp only [walk] at wk
    split at wk
    · rename_i hj
      cases wk
      cases r
      refine ⟨j, rfl, hj.1, hj.2, ?_⟩
      have := k m1 H1 (Itr 0 (j - 0).toNat) x1 M1 wk_rng
      simpa using this
    · cases wk
  | _ => simp [walk] at wk
theorem i_rng2 {p : Pos} (hg : Gl X "range") (hm : X.mg "range" = none) (h : PEv X fa cal n0 xa a) (hb : PEv X fa cal n0 xb b) (hk : okh xa = true) (hkb : okh xb = true) : PIv X fa cal n0 tg (.Call (.Name "range" p) [xa, xb] [] pos) .rng [a, b] := by
  refine ⟨fun pins s σV H R I q => ?_⟩
  refine (pi_range2 (tg := tg) (p := p) (pos := pos) hg hm (a_cons h (a_cons hb a_nil hkb) hk) (by rw [okh_star hk, okh_star hkb] <;> rfl) (okh_star hkb)).run pins s σV H R I ?_
  obtain ⟨t, bs, m, σ, μ, us, μ', w, hb, he, M, ev, wk, k⟩ := q
  refine ⟨t, bs, m, σ, μ, _, μ', hb, he, M, ev, fun m1 H1 vs x1 M1 ra => ?_⟩
  match us, wk, ra with
  | [.int i, .int j], wk, ra =>
    obtain ⟨v, z, rfl, r, r2⟩ := rpa2 ra
    simp only [walk] at wk
    split at wk
    · rename_i hj
      cases wk
      cases r
      cases r2
      exact ⟨i, j, rfl, hj, k m1 H1 (Itr i (j - i).toNat) x1 M1 wk_rng⟩
    · cases wk
  | [.int j], wk, ra =>
    have := evalL_len ev
    simp at this
theorem i_enm {p tpos : Pos} {elts : List Expr} {kk : Nat} (hg : Gl X "enumerate") (hm : X.mg "enumerate" = none) (h : PEv X fa cal n0 xa a) (hk : okh xa = true) : PIv X fa cal n0 (.Tuple elts kk tpos) (.Call (.Name "enumerate" p) [xa] [] pos) .enm [a] := by
  refine ⟨fun pins s σV H R I q => ?_⟩
  refine (pi_enumA (tpos := tpos) (elts := elts) (kk := kk) (p := p) (pos := pos) hg hm (a_cons h a_nil hk) (okh_star hk)).run pins s σV H R I ?_
  obtain ⟨t, bs, m, σ, μ, us, μ', w, hb, he, M, ev, wk, k⟩ := q
  obtain ⟨u, rfl, e1⟩ := evalL_one ev
  refine ⟨t, bs, m, σ, μ, _, μ', hb, he, M, ev, fun m1 H1 vs x1 M1 ra => ?_⟩
  obtain ⟨v, rfl, r⟩ := rpa1 ra
  cases u with
  | lst xs =>
    simp only [walk] at wk
    cases wk
    cases r with
    | lst f ra2 => exact ⟨_, _, rfl, .inl ⟨f.sq, k m1 H1 _ x1 M1 (wk_enm f ra2)⟩⟩
  | tup xs =>
    simp only [walk] at wk
    cases wk
    cases r with
    | tup f ra2 => exact ⟨_, _, rfl, .inr ⟨f.sq, k m1 H1 _ x1 M1 (wk_enmT f ra2)⟩⟩
  | _ => simp [walk] at wk
theorem i_zip {p tpos : Pos} {elts : List Expr} {kk : Nat} (hg : Gl X "zip") (hm : X.mg "zip" = none) (h : PEv X fa cal n0 xa a) (hb : PEv X fa cal n0 xb b) (hk : okh xa = true) (hkb : okh xb = true) : PIv X fa cal n0 (.Tuple elts kk tpos) (.Call (.Name "zip" p) [xa, xb] [] pos) .zip [a, b] := by
  refine ⟨fun pins s σV H R I q => ?_⟩
  refine (RZ.pi_zipA (tpos := tpos) (elts := elts) (kk := kk) (p := p) (pos := pos) hg hm (a_cons h (a_cons hb a_nil hkb) hk) (okh_star hk) (okh_back (es := [xb]) (by simp [hkb]))).run pins s σV H R I ?_
  obtain ⟨t, bs, m, σ, μ, us, μ', w, hb, he, M, ev, wk, k⟩ := q
  refine ⟨t, bs, m, σ, μ, _, μ', hb, he, M, ev, fun m1 H1 vs x1 M1 ra => ?_⟩
  match us, wk, ra with
  | [.lst xs, .lst ys], wk, ra =>
    obtain ⟨v, z, rfl, r, r2⟩ := rpa2 ra
    simp only [walk] at wk
    cases wk
    cases r with
    | lst f ra2 =>
      cases r2 with
      | lst g rb => exact ⟨_, _, _, _, rfl, .inl ⟨f.sq, g.sq, k m1 H1 _ x1 M1 (wk_zipL f g ra2 rb)⟩⟩
  | [.tup xs, .tup ys], wk, ra =>
    obtain ⟨v, z, rfl, r, r2⟩ := rpa2 ra
    simp only [walk] at wk
    cases wk
    cases r with
    | tup f ra2 =>
      cases r2 with
      | tup g rb => exact ⟨_, _, _, _, rfl, .inr ⟨f.sq, g.sq, k m1 H1 _ x1 M1 (wk_zipT f g ra2 rb)⟩⟩

/-! ### list comprehensions -/
theorem _root_.L2.PTs.imp {X : Cx} {e : List Expr} {t t' : TT} (h : PTs X e t) (hi : ∀ σ H Q, t' σ H Q → t σ H Q) : PTs X e t' := ⟨fun pins s σ H Q I q => h.run pins s σ H Q I (hi _ _ _ q)⟩
theorem pts_yes : PTs X [] (tT X.K fa n0 (evalE cal n0 (.bl true))) := pts_nil.imp fun σV H Q q => by
  obtain ⟨t, bs, m, σ, μ, u, μ', b, hb, he, M, ev, tr, k⟩ := q
  simp only [evalE] at ev
  cases ev
  cases tr
  exact k m H (Ex.refl _ _) M
theorem lc_rd {p : Pt} {ik : Ik} {its : List E} {al : Bool} {ws : List Nat} {K : PySem.W.Frag} (hws : ∀ i ∈ ptSlots p, i ∈ ws) {σV : L2.St} {H : Hp} {Q : VK} (q : tE K fa n0 (evalE cal n0 (.comp al p ik its c b ws)) σV H Q) :
    tLc (tI K fa n0 (evalL cal n0 its) ik) (tGp K fa p) (tT K fa n0 (evalE cal n0 c)) (tE K fa n0 (evalE cal n0 b)) ws σV H Q := by
  obtain ⟨t, bs, m0, σ0, μ0, u0, μ', hbl, he0, M0, ev, k⟩ := q
  have hl := sz_line
  simp only [evalE] at ev
  split at ev
  · rename_i us μ1 e1
    generalize hstep : (fun (x : U) (μ : Mu) => match bindP μ p x (wipeE σ0 ws) with
      | some σ' => match evalE cal n0 c σ' μ with
        | some (t, μ) => match truth μ t with
          | some true => match evalE cal n0 b σ' μ with
            | some (y, μ) => some (some y, μ)
            | none => none
          | some false => some (none, μ)
          | none => none
        | none => none
      | none => none) = step at ev
    -- a turn
    have turn : ∀ {t' m2 : List Addr} {H2 H3 : Hp} {μ2 μ3 : Mu} {x : U} {v : V} {oy : Option U} {R : L2.St → Hp → Prop} {Ny : V → Hp → Prop} {Nn : Hp → Prop}, step x μ2 = some (oy, μ3) → EnvR K fa t' m2 H2 σ0 σV → Me K fa bs t' m2 H2 μ2 → (∀ a o, H2 a = some o → H3 a = some o) → Rp K fa t' m2 m2.length H3 x v →
        (∀ y, oy = some y → ∀ m4 H4 w, Ex m2 H3 m4 H4 → Me K fa bs t' m4 H4 μ3 → Rp K fa t' m4 m4.length H4 y w → Ny w H4) → (oy = none → ∀ m4 H4, Ex m2 H3 m4 H4 → Me K fa bs t' m4 H4 μ3 → Nn H4) →
        tGp K fa p v (L2.wipe σV ws) H3 fun σ2 H2 => L2.wipe σ2 ws = L2.wipe σV ws ∧ tT K fa n0 (evalE cal n0 c) σ2 H2 fun b1 H3 => if b1 = true then tE K fa n0 (evalE cal n0 b) σ2 H3 fun y H4 => Ny y H4 else Nn H3 := by
      intro t' m2 H2 H3 μ2 μ3 x v oy R Ny Nn hs he M kp r hy hn
      rw [← hstep] at hs
      simp only at hs
      have x3 : Ex m2 H2 m2 H3 := Ex.of_keep kp
      split at hs
      · rename_i σ' eb
        refine ⟨t', bs, m2, μ2, wipeE σ0 ws, x, σ', (he.wipe ws).ex x3, M.ext kp, r, eb, fun σV2 he2 s2 => ⟨by rw [s2 ws hws, wipe_wipe], ?_⟩⟩
        split at hs
        · rename_i tv μ4 ec
          split at hs
          · rename_i et
            refine ⟨t', bs, m2, σ', μ2, tv, μ4, true, hbl, he2, M.ext kp, ec, et, fun m4 H4 x4 M4 => ?_⟩
            simp only [↓reduceIte]
            split at hs
            · rename_i y μ5 ey
              cases hs
              exact ⟨t', bs, m4, σ', μ4, y, _, hbl, he2.ex x4, M4, ey, fun m5 H5 w x5 M5 rw' => hy y rfl m5 H5 w (x4.trans x5) M5 rw'⟩
            · cases hs
          · rename_i et
            cases hs
            refine ⟨t', bs, m2, σ', μ2, tv, _, false, hbl, he2, M.ext kp, ec, et, fun m4 H4 x4 M4 => ?_⟩
            simp only [↓reduceIte, Bool.false_eq_true]
            exact hn rfl m4 H4 x4 M4
          · cases hs
        · cases hs
      · cases hs
    split at ev
    · rename_i xs e2
      split at ev
      · rename_i ys μ9 e3
        obtain ⟨rfl, rfl⟩ := Prod.mk.inj (Option.some.inj ev)
        refine ⟨t, bs, m0, σ0, μ0, us, μ1, .inl xs, hbl, he0, M0, e1, e2, fun m1 H1 J x1 M1 wk D hD => ?_⟩
        have wk : WkL K fa t m1 H1 J xs := wk
        obtain ⟨Dm, Dt⟩ := M1.fresh hD
        have he1 := he0.ex x1
        refine ⟨fun i mm H' => mm = xs.length - i ∧ i ≤ xs.length ∧ ∃ m μ acc vacc, Ex m1 H1 m H' ∧ Me K fa bs (D :: t) m H' μ ∧ H' D = some (.lst vacc) ∧ RpA K fa (D :: t) m m.length H' acc vacc ∧ compL step (xs.drop i) acc μ = some (ys, μ9),
          ⟨xs.length, by simp, Nat.zero_le _, m1, μ1, [], [], (Ex.refl _ _).tmp hD, M1.tn hD, upd_same, .nil, by simpa using e3⟩, ?_⟩
        rintro i mm H2 ⟨rfl, hle, m2, μ2, acc, vacc, x2, M2, hDv, ra, ev2⟩
        by_cases hlt : i < xs.length
        · refine .inr ⟨wk.go i m2 H2 x2 hlt, fun H' => i + 1 ≤ xs.length ∧ ∃ m μ acc vacc, Ex m1 H1 m H' ∧ Me K fa bs (D :: t) m H' μ ∧ H' D = some (.lst vacc) ∧ RpA K fa (D :: t) m m.length H' acc vacc ∧ compL step (xs.drop (i + 1)) acc μ = some (ys, μ9), fun H' w => ⟨xs.length - (i + 1), by omega, rfl, w.1, w.2⟩, fun x H3 y => ?_⟩
          obtain ⟨u, hu, kp, r⟩ := wk.yld i m2 H2 (D :: t) bs μ2 x H3 hlt x2 (fun a h => (List.mem_cons.mp h).elim (fun z => .inr (by rw [z]; exact hD)) .inl) M2 y
          have hd : xs.drop i = u :: xs.drop (i + 1) := by
            rw [List.drop_eq_getElem_cons hlt]
            rw [List.getElem?_eq_getElem hlt] at hu
            cases hu; rfl
          rw [hd] at ev2
          simp only [compL] at ev2
          have x3 : Ex m2 H2 m2 H3 := Ex.of_keep kp
          have x23 := x2.trans x3
          have heD : EnvR K fa (D :: t) m2 H2 σ0 σV := ⟨he1.len, fun j w q => let ⟨v, a, b⟩ := he1.at_ j w q; ⟨v, a, (b.tn hD).ex' x2⟩⟩
          have D2 : D ∉ m2 := (M2.tt D (by simp)).1
          split at ev2
          · rename_i y' μ3 e4
            split at ev2
            · rename_i hz
              refine turn (R := fun _ _ => True) e4 heD M2 kp r (fun y0 hy m4 H4 w x4 M4 rw' => ?_) (fun z => by cases z)
              cases hy
              have hD4 : H4 D = some (.lst vacc) := x4.keep D _ (kp D _ hDv) D2
              refine ⟨vacc, hD4, by rw [← ra.length]; omega, hlt, m4, μ3, acc ++ [y'], vacc ++ [w], (x23.trans x4).tmp hD, M4.td (by simp), upd_same, ?_, ev2⟩
              exact (((ra.ex' x3).ex' x4).append (.one rw')).td (by simp)
            · cases ev2
          · rename_i μ3 e4
            refine turn (R := fun _ _ => True) e4 heD M2 kp r (fun y0 hy => by cases hy) (fun _ m4 H4 x4 M4 => ?_)
            have hD4 : H4 D = some (.lst vacc) := x4.keep D _ (kp D _ hDv) D2
            exact ⟨hlt, m4, μ3, acc, vacc, x23.trans x4, M4, hD4, (ra.ex' x3).ex' x4, ev2⟩
          · cases ev2
        · have e : i = xs.length := by omega
          subst e
          rw [List.drop_length] at ev2
          simp only [compL] at ev2
          obtain ⟨rfl, rfl⟩ := Prod.mk.inj (Option.some.inj ev2)
          exact .inl ⟨wk.stop _ m2 H2 x2 (Nat.le_refl _), (k.ex x1).tmpL hD Dt x2 M2 hDv ra⟩
      · cases ev
    · rename_i iob e2
      split at ev
      · rename_i ys μ9 e3
        obtain ⟨rfl, rfl⟩ := Prod.mk.inj (Option.some.inj ev)
        refine ⟨t, bs, m0, σ0, μ0, us, μ1, .inr iob, hbl, he0, M0, e1, e2, fun m1 H1 J x1 M1 wk D hD => ?_⟩
        obtain ⟨ad, had, rfl⟩ := (show ∃ a, m1[iob]? = some a ∧ J = Itl K a from wk)
        obtain ⟨Dm, Dt⟩ := M1.fresh hD
        have he1 := he0.ex x1
        refine ⟨fun i f H' => ∃ m μ acc vacc, Ex m1 H1 m H' ∧ Me K fa bs (D :: t) m H' μ ∧ H' D = some (.lst vacc) ∧ RpA K fa (D :: t) m m.length H' acc vacc ∧ compV step iob f i acc μ = some (ys, μ9),
          ⟨FU, m1, μ1, [], [], (Ex.refl _ _).tmp hD, M1.tn hD, upd_same, .nil, e3⟩, ?_⟩
        rintro i f H2 ⟨m2, μ2, acc, vacc, x2, M2, hDv, ra, ev2⟩
        cases f with
        | zero => simp [compV] at ev2
        | succ g =>
          simp only [compV] at ev2
          split at ev2
          · rename_i xs e4
            have hat := x2.at_ had
            obtain ⟨ad', e5, hm2, cc⟩ := M2.objF (v := .ref ad) (.ob (by have := (List.getElem?_eq_some_iff.mp hat).1; exact this) hat) e4
            cases e5
            cases cc with
            | @lst vx _ hH rl =>
              have hS : SqL K H2 ad vx := SqL.of hH
              split at ev2
              · rename_i hnone
                obtain ⟨rfl, rfl⟩ := Prod.mk.inj (Option.some.inj ev2)
                exact .inl ⟨⟨vx, hS, by rw [← rl.length]; exact List.getElem?_eq_none_iff.mp hnone⟩, (k.ex x1).tmpL hD Dt x2 M2 hDv ra⟩
              · rename_i u hu
                obtain ⟨v, hv, r⟩ := rl.get hu
                refine .inr ⟨⟨vx, v, hS, hv⟩, fun H' => ∃ m μ acc vacc, Ex m1 H1 m H' ∧ Me K fa bs (D :: t) m H' μ ∧ H' D = some (.lst vacc) ∧ RpA K fa (D :: t) m m.length H' acc vacc ∧ compV step iob g (i + 1) acc μ = some (ys, μ9), fun H' w => ⟨g, Nat.lt_succ_self g, w⟩, fun x H3 y => ?_⟩
                obtain ⟨rfl, y⟩ := y
                have := y vx hS
                rw [hv] at this
                cases this
                have heD : EnvR K fa (D :: t) m2 H3 σ0 σV := ⟨he1.len, fun j w q => let ⟨v, a, b⟩ := he1.at_ j w q; ⟨v, a, (b.tn hD).ex' x2⟩⟩
                have D2 : D ∉ m2 := (M2.tt D (by simp)).1
                split at ev2
                · rename_i y' μ3 e6
                  split at ev2
                  · rename_i hz
                    refine turn (R := fun _ _ => True) e6 heD M2 (fun _ _ h => h) r (fun y0 hy m4 H4 w x4 M4 rw' => ?_) (fun z => by cases z)
                    cases hy
                    have hD4 : H4 D = some (.lst vacc) := x4.keep D _ hDv D2
                    refine ⟨vacc, hD4, by rw [← ra.length]; omega, m4, μ3, acc ++ [y'], vacc ++ [w], (x2.trans x4).tmp hD, M4.td (by simp), upd_same, ?_, ev2⟩
                    exact ((ra.ex' x4).append (.one rw')).td (by simp)
                  · cases ev2
                · rename_i μ3 e6
                  refine turn (R := fun _ _ => True) e6 heD M2 (fun _ _ h => h) r (fun y0 hy => by cases hy) (fun _ m4 H4 x4 M4 => ?_)
                  have hD4 : H4 D = some (.lst vacc) := x4.keep D _ hDv D2
                  exact ⟨m4, μ3, acc, vacc, x2.trans x4, M4, hD4, ra.ex' x4, ev2⟩
                · cases ev2
          · cases ev2
      · cases ev
    · cases ev
  · cases ev
theorem e_comp {p : Pt} {ik : Ik} {its : List E} {al : Bool} {elt iter : Expr} {ifs : List Expr} {scope : Scope} {own : List (Str × Nat)} (hc : X.calm = true) (hN : X.N.Nodup) (hi : PIv X fa cal n0 tg iter ik its) (ok : BlkOk X.N X.env.scope scope own)
    (hg : ∀ (s : Shared) (H : Hp) (C : Addr) (cl : List (Str × Addr)) (fp : List Addr), PG (X.blk s H scope (compEnvC scope cl C X.env) fp) tg (tGp X.K fa p))
    (ht : ∀ (s : Shared) (H : Hp) (C : Addr) (cl : List (Str × Addr)) (fp : List Addr), PTs (X.blk s H scope (compEnvC scope cl C X.env) fp) ifs (tT X.K fa n0 (evalE cal n0 c)))
    (he : ∀ (s : Shared) (H : Hp) (C : Addr) (cl : List (Str × Addr)) (fp : List Addr), PE (X.blk s H scope (compEnvC scope cl C X.env) fp) elt (tE X.K fa n0 (evalE cal n0 b))) (hk : okh iter = true) (hws : ∀ i ∈ ptSlots p, i ∈ own.map (·.2)) :
    PEv X fa cal n0 (.ListComp elt [⟨tg, iter, ifs, 0⟩] scope pos) (.comp al p ik its c b (own.map (·.2))) :=
  (pe_lc hc hN hi ok hg ht he (okh_fold hk)).imp fun σV H Q q => lc_rd hws q
theorem s_setLc {i : Nat} {y : Str} {py spos : Pos} {p : Pt} {ik : Ik} {its : List E} {al : Bool} {elt iter : Expr} {ifs : List Expr} {scope : Scope} {own : List (Str × Nat)} (hc : X.calm = true) (hN : X.N.Nodup) (hy : X.N[i]? = some y) (hyl : X.env.scope.names.lookup y = some .local)
    (hsw : swapsWith (.ListComp elt [⟨tg, iter, ifs, 0⟩] scope pos) (some (.Name y py)) spos.line X.env = pure true) (hi : PIv X fa cal n0 tg iter ik its) (ok : BlkOk X.N X.env.scope scope own)
    (hg : ∀ (s : Shared) (H : Hp) (C : Addr) (cl : List (Str × Addr)) (fp : List Addr), PG (X.blk s H scope (compEnvC scope cl C X.env) fp) tg (tGp X.K fa p))
    (ht : ∀ (s : Shared) (H : Hp) (C : Addr) (cl : List (Str × Addr)) (fp : List Addr), PTs (X.blk s H scope (compEnvC scope cl C X.env) fp) ifs (tT X.K fa n0 (evalE cal n0 c)))
    (he : ∀ (s : Shared) (H : Hp) (C : Addr) (cl : List (Str × Addr)) (fp : List Addr), PE (X.blk s H scope (compEnvC scope cl C X.env) fp) elt (tE X.K fa n0 (evalE cal n0 b))) (hk : okh iter = true) (hws : ∀ i ∈ ptSlots p, i ∈ own.map (·.2)) :
    PSv X fa cal n0 (.Assign [.Name y py] (.ListComp elt [⟨tg, iter, ifs, 0⟩] scope pos) spos) (.set i (.comp al p ik its c b (own.map (·.2)))) :=
  (ps_setLc hc hN hy hyl hsw hi ok hg ht he (okh_fold hk)).imp fun D σV H q => by
    obtain ⟨t, bs, m, σ, μ, o, hb, he, M, ev, k⟩ := q
    simp only [exS] at ev
    split at ev
    · rename_i u μ1 e1
      cases ev
      exact lc_rd hws (seq1 hb he M e1 fun m1 H1 v1 x1 M1 r1 => k m1 H1 _ x1 M1 ((he.ex x1).set r1))
    · cases ev
end
end R

set_option Elab.async false
set_option linter.all false
set_option maxRecDepth 100000
set_option maxHeartbeats 4000000
/-! R3k: list(..), tuple(..), dict(..), sorted(..) -/
namespace R
open PySem PySem.Spec PyProof.Rows L2

mutual
theorem reads_there {h : Heap} : ∀ {v : Value} {d : PyData} {as : List Addr}, Reads h v d as → ∀ a ∈ as, ∃ o, h.get? a = some o
  | _, _, _, .none, a, m => by cases m
  | _, _, _, .bool b, a, m => by cases m
  | _, _, _, .int i t, a, m => by cases m
  | _, _, _, .str x t, a, m => by cases m
  | _, _, _, .list h1 h2 h3 h4, a, m => by
    rcases List.mem_cons.mp m with m | m
    · subst m; exact ⟨_, h1⟩
    · exact reads_thereA h4 a m
  | _, _, _, .tuple h1 h2 h3 h4, a, m => reads_thereA h4 a m
  | _, _, _, .dict h1 h2 h3 h4 h5, a, m => by
    rcases List.mem_append.mp m with m | m
    · rcases List.mem_cons.mp m with m | m
      · subst m; exact ⟨_, h1⟩
      · exact reads_thereA h4 a m
    · exact reads_thereA h5 a m
theorem reads_thereA {h : Heap} : ∀ {vs : List Value} {ds : List PyData} {as : List Addr}, ReadsAll h vs ds as → ∀ a ∈ as, ∃ o, h.get? a = some o
  | _, _, _, .nil, a, m => by cases m
  | _, _, _, .cons h1 h2, a, m => by
    rcases List.mem_append.mp m with m | m
    · exact reads_there h1 a m
    · exact reads_thereA h2 a m
end

section
variable {X : Cx} {fa : Nat → Option Addr}
def colF (al : Bool) (c : Cl) : Mu → List U → Option (U × Mu) := fun μ us => match items μ c .ex us with
  | some xs => evCol al μ c xs
  | none => none
theorem colF_some {al : Bool} {c : Cl} {μ μ' : Mu} {us : List U} {u : U} (h : colF al c μ us = some (u, μ')) : ∃ a xs, us = [a] ∧ items μ c .ex [a] = some xs ∧ evCol al μ c xs = some (u, μ') := by
  unfold colF at h
  split at h
  · rename_i xs e
    match us, e with
    | [a], e => exact ⟨a, xs, rfl, e, h⟩
    | [], e => cases c <;> simp [items] at e
    | _ :: _ :: _, e => cases c <;> simp [items] at e
  · cases h
theorem keyU_ok {K : PySem.W.Frag} {t m : List Addr} {n : Nat} {H : Hp} (k : Key) : Rp K fa t m n H (keyU k) (kV k) := by
  cases k with
  | inl i => exact .int i
  | inr x => exact .str x
theorem keysA_ok {K : PySem.W.Frag} {t m : List Addr} {n : Nat} {H : Hp} : ∀ (ks : List Key), RpA K fa t m n H (ks.map keyU) (ks.map kV)
  | [] => .nil
  | k :: ks => .cons (keyU_ok k) (keysA_ok ks)
theorem keysU_ok {K : PySem.W.Frag} {t m : List Addr} {n : Nat} {H : Hp} {bs : List Nat} {μ : Mu} (M : Me K fa bs t m H μ) : ∀ {kvs : List (List Key × V)} {ps : List Addr}, IsKeys H kvs ps → RpA K fa t m n H ((kvs.map (·.1)).map keysU) (ps.map V.ref)
  | [], _, .nil => .nil
  | kv :: kvs, _, .cons h r => .cons (.tup (M.tupN h) (keysA_ok _)) (keysU_ok M r)
/-- what list(u), sorted(u) walk -/
theorem items_ok {K : PySem.W.Frag} {t m : List Addr} {H : Hp} {bs : List Nat} {μ : Mu} {u : U} {v : V} {xs : List U} (M : Me K fa bs t m H μ) (r : Rp K fa t m m.length H u v)
    (h : (match asS μ u with
      | some xs => some xs
      | none => match cont μ u with
        | some (.dk ks _) => some (ks.map keyU)
        | some (.dt ks _) => some (ks.map keysU)
        | _ => none) = some xs) :
    ∃ p, v = .ref p ∧ ((∃ vs, (SqL K H p vs ∨ SqT K H p vs) ∧ RpA K fa t m m.length H xs vs) ∨ (∃ kvs : List (Key × V), H p = some (.dK kvs) ∧ xs = (kvs.map (·.1)).map keyU) ∨ ∃ kvs : List (List Key × V), H p = some (.dT kvs) ∧ xs = (kvs.map (·.1)).map keysU) := by
  split at h
  · rename_i ys e
    cases h
    obtain ⟨p, vs, rfl, q, ra⟩ := asS_ok M r e
    exact ⟨p, rfl, .inl ⟨vs, q, ra⟩⟩
  · split at h
    · rename_i e
      cases h
      obtain ⟨p, kvs, rfl, hH, rfl, _⟩ := dk_at M r e
      exact ⟨p, rfl, .inr (.inl ⟨kvs, hH, rfl⟩)⟩
    · rename_i e
      cases h
      obtain ⟨p, kvs, rfl, hH, rfl, _⟩ := dt_at M r e
      exact ⟨p, rfl, .inr (.inr ⟨kvs, hH, rfl⟩)⟩
    · cases h
theorem listR (hc : X.calm = true) (al : Bool) : CallR X (.type "list") (rVs X.K fa (colF al .list)) := by
  intro pins s σ H xs us Q I rx h
  obtain ⟨t, bs, m, μ, as, u, μ', M, ra, h, k⟩ := h
  obtain ⟨a, ys, rfl, e1, e2⟩ := colF_some h
  obtain ⟨v, rfl, r⟩ := rpa1 ra
  simp only [evCol] at e2
  obtain ⟨rfl, rfl⟩ := Prod.mk.inj (Option.some.inj e2)
  by_cases hs : ∃ ns, a = .scr ns
  · obtain ⟨ns, rfl⟩ := hs
    simp only [items] at e1
    cases e1
    cases r with
    | scr f => exact call_list_of pins s σ H _ us Q I rx ⟨_, _, rfl, .inl f.sq, fun l hl => k.lst M hl (RpA.ints ns)⟩
  · have e1' : (match asS μ a with
      | some xs => some xs
      | none => match cont μ a with
        | some (.dk ks _) => some (ks.map keyU)
        | some (.dt ks _) => some (ks.map keysU)
        | _ => none) = some ys := by
      rw [← e1]
      cases a <;> first | rfl | exact absurd ⟨_, rfl⟩ hs
    obtain ⟨p, rfl, q⟩ := items_ok M r e1'
    rcases q with ⟨vs, q, ra⟩ | ⟨kvs, hH, rfl⟩ | ⟨kvs, hH, rfl⟩
    · exact call_list_of pins s σ H _ us Q I rx ⟨_, _, rfl, q, fun l hl => k.lst M hl ra⟩
    · refine call_list_dK hc pins s σ H _ us Q I rx ⟨p, kvs, rfl, hH, fun l hl => ?_⟩
      refine k.lst M hl ?_
      have := keysA_ok (fa := fa) (K := X.K) (t := t) (m := m) (n := m.length) (H := H) (kvs.map (·.1))
      simpa [List.map_map, Function.comp_def] using this
    · exact call_list_dT hc pins s σ H _ us Q I rx ⟨p, kvs, rfl, .inl hH, fun l ps hl hk => k.lst M hl (keysU_ok M hk)⟩
theorem tupleR (al : Bool) : CallR X (.type "tuple") (rVs X.K fa (colF al .tuple)) := by
  intro pins s σ H xs us Q I rx h
  obtain ⟨t, bs, m, μ, as, u, μ', M, ra, h, k⟩ := h
  obtain ⟨a, ys, rfl, e1, e2⟩ := colF_some h
  obtain ⟨v, rfl, r⟩ := rpa1 ra
  simp only [evCol] at e2
  obtain ⟨rfl, rfl⟩ := Prod.mk.inj (Option.some.inj e2)
  by_cases hs : ∃ ns, a = .scr ns
  · obtain ⟨ns, rfl⟩ := hs
    simp only [items] at e1
    cases e1
    cases r with
    | scr f => exact call_tuple_of pins s σ H _ us Q I rx ⟨_, _, rfl, .inl ⟨f.sq, fun l hl => k.tup M hl (RpA.ints ns)⟩⟩
  · have e1' : asS μ a = some ys := by
      rw [← e1]
      cases a <;> first | rfl | exact absurd ⟨_, rfl⟩ hs
    by_cases ht : ∃ zs, a = .tup zs
    · obtain ⟨zs, rfl⟩ := ht
      cases e1'
      cases r with
      | tup f rb => exact call_tuple_of pins s σ H _ us Q I rx ⟨_, _, rfl, .inr ⟨f.sq, k.here M (.tup f rb)⟩⟩
    · have e3 : asL μ a = some ys := by
        rw [← e1']
        cases a <;> first | rfl | exact absurd ⟨_, rfl⟩ ht
      obtain ⟨p, vs, rfl, q, rb⟩ := asL_ok M r e3
      exact call_tuple_of pins s σ H _ us Q I rx ⟨_, _, rfl, .inl ⟨q, fun l hl => k.tup M hl rb⟩⟩
/-- pairs as tuples -/
theorem pairs_ok {K : PySem.W.Frag} {t m : List Addr} {n : Nat} {H : Hp} : ∀ {xs : List U} {vs : List V} {ps : List (U × U)}, RpA K fa t m n H xs vs → mapO pairKV xs = some ps →
    ∃ (as : List Addr) (qs : List (V × V)), vs = as.map V.ref ∧ RpP K fa t m n H ps qs ∧ Paired (fun p (q : V × V) => SqT K H p [q.1, q.2]) as qs
  | _, _, _, .nil, h => by cases h; exact ⟨[], [], rfl, .nil, .nil⟩
  | _, _, _, .cons r ra, h => by
    obtain ⟨z, zs, e1, e2, rfl⟩ := mapO_cons h
    obtain ⟨as, qs, rfl, rp, pr⟩ := pairs_ok ra e2
    cases r with
    | @tup a vs ys f rb =>
      match ys, e1, rb with
      | [k, v], e1, rb =>
        cases e1
        obtain ⟨x, y, rfl, r1, r2⟩ := rpa2 rb
        exact ⟨a :: as, (x, y) :: qs, rfl, .cons r1 r2 rp, .cons f.sq pr⟩
    | _ => simp [pairKV] at e1
theorem paired_map {α β γ : Type} {R : α → β → Prop} {f : γ → β} : ∀ {as : List α} {cs : List γ}, Paired R as (cs.map f) → Paired (fun a c => R a (f c)) as cs
  | [], [], _ => .nil
  | [], _ :: _, h => by cases h
  | a :: as, [], h => by cases h
  | a :: as, c :: cs, .cons h r => .cons h (paired_map r)
theorem dictR (hc : X.calm = true) (al : Bool) : CallR X (.type "dict") (rVs X.K fa (colF al (.dict false))) := by
  intro pins s σ H xs us Q I rx h
  obtain ⟨t, bs, m, μ, as, u, μ', M, ra, h, k⟩ := h
  obtain ⟨a, ys, rfl, e1, e2⟩ := colF_some h
  obtain ⟨v, rfl, r⟩ := rpa1 ra
  have e1' : asL μ a = some ys := by
    rw [← e1]
    cases a <;> rfl
  obtain ⟨p, vs, rfl, q, rb⟩ := asL_ok M r e1'
  simp only [evCol] at e2
  split at e2
  · rename_i ps e3
    split at e2
    · rename_i o e4
      obtain ⟨rfl, rfl⟩ := Prod.mk.inj (Option.some.inj e2)
      obtain ⟨ads, qs, rfl, rp, pr⟩ := pairs_ok rb e3
      have e4' : mergeU false ps (.dk (([] : List (Key × V)).map (·.1)) []) = some o := by simpa using e4
      obtain ⟨kvs, us', rfl, rfl, rc⟩ := mergeU_k (kvs0 := []) rp .nil e4'
      exact call_dictP hc pins s σ H _ us Q I rx ⟨p, ads, kvs, rfl, q, paired_map (R := fun p (q : V × V) => SqT X.K H p [q.1, q.2]) (f := fun kv : Key × V => (kV kv.1, kv.2)) pr, fun l hl => k.dk M hl rc⟩
    · cases e2
  · cases e2

theorem mergeT_len : ∀ (ts : List (List Key × Addr × V)) (kvs : List (List Key × V)), (mergeT kvs ts).length ≤ kvs.length + ts.length
  | [], kvs => Nat.le_refl _
  | x :: ts, kvs => by
    have h1 := mergeT_len ts (putK kvs x.1 x.2.2)
    have h2 := length_putK kvs x.1 x.2.2
    show (mergeT (putK kvs x.1 x.2.2) ts).length ≤ _
    rw [List.length_cons]
    omega
theorem kt_all {H : Hp} : ∀ {ts : List (List Key × Addr × V)} {prs : List (List Key × Addr × Value)} {kvs : List (List Key × V)} {xs : List (List Key × Addr × Value)}, Paired (fun (x : List Key × Addr × V) (y : List Key × Addr × Value) => x.1 = y.1 ∧ x.2.1 = y.2.1 ∧ RelV x.2.2 y.2.2) ts prs →
    (∀ x ∈ ts, H x.2.1 = some (.tup (x.1.map kV))) → KT H kvs xs → KT H (mergeT kvs ts) (storedAllH xs prs)
  | _, _, kvs, xs, .nil, _, r => r
  | _, _, kvs, xs, .cons (a := x) (b := y) h p, hh, r => by
    obtain ⟨e1, e2, e3⟩ := h
    have := r.put x.1 (hh x (by simp)) e3
    rw [e2, e1] at this
    have q := kt_all p (fun z hz => hh z (by simp [hz])) this
    rw [← e1] at q
    simpa [mergeT, storedAllH, e1, e2] using q
theorem prs_of {K : PySem.W.Frag} {X : Cx} {pins : List (Addr × Obj)} {σ : L2.St} {H : Hp} {s : Shared} (I : L2.Inv X pins σ H s) : ∀ {ads : List Addr} {ts : List (List Key × Addr × V)}, Paired (fun p (x : List Key × Addr × V) => SqT X.K H p [V.ref x.2.1, x.2.2]) ads ts →
    ∃ prs : List (List Key × Addr × Value), Paired (fun (x : List Key × Addr × V) (y : List Key × Addr × Value) => x.1 = y.1 ∧ x.2.1 = y.2.1 ∧ RelV x.2.2 y.2.2) ts prs ∧ prs.length = ads.length ∧ ∀ (j : Nat) (y : List Key × Addr × Value), prs[j]? = some y → ∃ p, ads[j]? = some p ∧ IsTup s.heap p #[.ref y.2.1, y.2.2]
  | _, _, .nil => ⟨[], .nil, rfl, fun j q e => by simp at e⟩
  | _, _, .cons (a := p) (b := x) h t => by
    obtain ⟨prs, r, hl, hp⟩ := prs_of (K := K) I t
    obtain ⟨its, rv, ht, _⟩ := I.tuple h
    obtain ⟨u, y, ei, ru, ry⟩ := vals2 rv
    subst ei
    cases ru
    refine ⟨(x.1, x.2.1, y) :: prs, .cons ⟨rfl, rfl, ry⟩ r, by rw [List.length_cons, List.length_cons, hl], fun j q e => ?_⟩
    cases j with
    | zero =>
      have e' : (x.1, x.2.1, y) = q := Option.some.inj e
      subst e'
      exact ⟨p, rfl, ht⟩
    | succ j =>
      obtain ⟨b, e1, e2⟩ := hp j q (by simpa using e)
      exact ⟨b, by simpa using e1, e2⟩
theorem dictRT (hc : X.calm = true) (hu : X.A.units + 66 < cLine) (al : Bool) : CallR X (.type "dict") (rVs X.K fa (colF al (.dict true))) := by
  intro pins s σ H xs us Q I rx h
  obtain ⟨t, bs, m, μ, as, u, μ', M, ra, h, k⟩ := h
  obtain ⟨a, ys, rfl, e1, e2⟩ := colF_some h
  obtain ⟨v, rfl, r⟩ := rpa1 ra
  have e1' : asL μ a = some ys := by
    rw [← e1]
    cases a <;> rfl
  obtain ⟨p, vs, rfl, q, rb⟩ := asL_ok M r e1'
  simp only [evCol] at e2
  split at e2
  · rename_i ps e3
    split at e2
    · rename_i o e4
      obtain ⟨rfl, rfl⟩ := Prod.mk.inj (Option.some.inj e2)
      obtain ⟨ads, qs, rfl, rp, pr⟩ := pairs_ok rb e3
      have e4' : mergeU true ps (.dt (([] : List (List Key × V)).map (·.1)) []) = some o := by simpa using e4
      obtain ⟨ts, us', rfl, hts, rfl, rc⟩ := mergeU_t (kvs0 := []) rp .nil e4'
      obtain ⟨w, ew, rw1⟩ := vals1 rx
      subst ew
      cases rw1
      obtain ⟨its, rv, pl, hz⟩ := I.list q
      have ei := refs_at rv
      subst ei
      rw [List.length_map] at hz
      have pr2 : Paired (fun p (x : List Key × Addr × V) => SqT X.K H p [V.ref x.2.1, x.2.2]) ads ts := paired_map (R := fun p (q : V × V) => SqT X.K H p [q.1, q.2]) (f := fun x : List Key × Addr × V => (V.ref x.2.1, x.2.2)) pr
      obtain ⟨prs, rel, hl, hpr⟩ := prs_of (K := X.K) I pr2
      obtain ⟨ob, n, ho, hco, hd, hdat⟩ := pl
      have hlt : ts.length = prs.length := rel.length
      refine call_dict_pairsH (knd := tupleKind (mixKind X.prog X.w)) (ps := prs) (PairArg.list p (ads.map Value.ref).toArray (fun j => ads[j]?.getD 0) (prs.map fun x => (Value.ref x.2.1, x.2.2))) (I.ok.hd hc)
        (show X.A.units + 1 + 1 < cLine by omega) ⟨⟨ob, n, ho, hco, hd, hdat⟩, by simp [hl], fun j kk vv e => ?_⟩ ⟨by simp, fun i kk vv e => ?_⟩ (fun h' hk x hx => ?_) (by rw [List.length_map, hl]; exact hz) fun h' tk hd' hk => ?_
      · rw [List.getElem?_map] at e
        cases e5 : prs[j]? with
        | none => rw [e5] at e; cases e
        | some y =>
          rw [e5] at e
          have e6 := Option.some.inj e
          obtain ⟨b, f1, f2⟩ := hpr j y e5
          have f3 : (Value.ref y.2.1, y.2.2) = (kk, vv) := e6
          obtain ⟨rfl, rfl⟩ := Prod.mk.inj f3
          exact ⟨by simp [f1], by show PairAt s.heap (ads[j]?.getD 0) _ _; rw [f1]; exact .inl f2⟩
      · have e' : (prs.map fun x => (Value.ref x.2.1, x.2.2))[i]? = some (kk, vv) := e
        rw [List.getElem?_map] at e'
        cases e5 : prs[i]? with
        | none => rw [e5] at e'; cases e'
        | some y =>
          rw [e5] at e'
          have f3 : (Value.ref y.2.1, y.2.2) = (kk, vv) := Option.some.inj e'
          obtain ⟨rfl, rfl⟩ := Prod.mk.inj f3
          exact ⟨y.1, y.2.1, rfl, rfl⟩
      · have mem : ∀ {l : List (List Key × Addr × V)} {l' : List (List Key × Addr × Value)}, Paired (fun (x : List Key × Addr × V) (y : List Key × Addr × Value) => x.1 = y.1 ∧ x.2.1 = y.2.1 ∧ RelV x.2.2 y.2.2) l l' → ∀ y ∈ l', ∃ x ∈ l, x.1 = y.1 ∧ x.2.1 = y.2.1 := by
          intro l l' hp
          induction hp with
          | nil => intro y hy; cases hy
          | @cons x y l l' h _ ih =>
            intro z hz
            rcases List.mem_cons.mp hz with rfl | hz
            · exact ⟨x, by simp, h.1, h.2.1⟩
            · obtain ⟨x', h1, h2⟩ := ih z hz
              exact ⟨x', by simp [h1], h2⟩
        obtain ⟨y, hy, y1, y2⟩ := mem rel x hx
        have ky := key_of I.hok (hts y hy)
        rw [y1, y2] at ky
        exact tupleKind_stays.stays (fun b o vs n e q => hk b o (Nat.ne_of_lt (Heap.lt_size e)) (fun z => nomatch z) e) ky
      · have hm : (s.heap.objs.size == sysModules) = false := beq_eq_false_iff_ne.mpr (Nat.ne_of_gt I.big)
        have hlen : (mergeT [] ts).length ≤ sizeLine := by
          have := mergeT_len ts []
          rw [List.length_nil] at this
          omega
        have new := I.hok.fresh (Nat.le_refl s.heap.objs.size)
        obtain ⟨ob2, es, ep, hq, h2, h3, h4, _, h5⟩ := hd'
        have kt : KT H (mergeT [] ts) (storedAllH [] prs) := kt_all rel hts .nil
        refine ⟨.ref s.heap.objs.size, upd H s.heap.objs.size (.dT (mergeT [] ts)), I.laid (t' := tk) (fun b o e => hk b o (fun z => nomatch z) e) (Nat.le_refl _) (show ObjOk X.prog X.w _ _ _ (.dT (mergeT [] ts)) from ⟨hlen, hm, _, kt.keeps fun c ys ec => ?_, ob2, es, ep, hq, h2, h3, h4, h5⟩), rfl, k.dt M new rc⟩
        rw [upd_ne (ne_of_none ec new)]
        exact ec
    · cases e2
  · cases e2

/-! ### sorted -/
theorem srtd_some {μ : Mu} {xs ys : List U} (h : srtd μ xs = some ys) : ∃ ds, mapO (dat μ D0) xs = some ds ∧ PySem.W.AllAlike ds ∧ PySem.W.Sortable ds ∧ ds.length ≤ SZ ∧ ys = ((xs.zip ds).mergeSort (PySem.W.dataLe false Prod.snd)).map (·.1) := by
  unfold srtd at h
  split at h
  · rename_i ds e
    split at h
    · rename_i c
      cases h
      simp only [Bool.and_eq_true, decide_eq_true_eq, Bool.or_eq_true, List.all_eq_true] at c
      refine ⟨ds, e, fun d hd d' hd' => c.1.1 d hd d' hd', ?_, c.2, rfl⟩
      rcases c.1.2 with q | q
      · refine .inl fun d hd => ?_
        have := q d hd
        split at this
        · exact ⟨_, _, rfl⟩
        · cases this
      · refine .inr fun d hd => ?_
        have := q d hd
        split at this
        · cases this
        · cases this
        · rename_i h1 h2
          exact ⟨fun z => h2 z, fun xs z => h1 xs z⟩
    · cases h
  · cases h
theorem each_build {pins : List (Addr × Obj)} {s : Shared} {σ : L2.St} {H : Hp} {t m : List Addr} {bs : List Nat} {μ : Mu} {h' : Heap} (I : L2.Inv X pins σ H s) (M : Me X.K fa bs t m H μ) (kp : ∀ b o, s.heap.get? b = some o → h'.get? b = some o) {a : Addr} (ha : s.heap.get? a = none) :
    ∀ {xs : List U} {vs : List V} {acc : List Value} {ds : List PyData}, RpA X.K fa t m m.length H xs vs → mapO (dat μ D0) xs = some ds → Vals vs acc →
    PySem.W.EachIs (fun v (b : (U × PyData) × V) => (RelV b.2 v ∧ Rp X.K fa t m m.length H b.1.1 b.2) ∧ (∃ as, Reads h' v b.1.2 as ∧ a ∉ as) ∧ b.1.2.depth ≤ D0) acc ((xs.zip ds).zip vs)
  | _, _, _, _, .nil, e, .nil => by cases e; exact .nil
  | _, _, _, _, .cons r ra, e, .cons rv vv => by
    obtain ⟨z, zs, e1, e2, rfl⟩ := mapO_cons e
    obtain ⟨d1, _, d3⟩ := Dp.of M D0 _ _ _ r e1
    obtain ⟨as, rd⟩ := Dp.reads I _ _ _ d1 rv
    refine .cons ⟨⟨rv, r⟩, ⟨as, Reads.keeps kp rd, fun z => ?_⟩, d3⟩ (each_build I M kp ha ra e2 vv)
    obtain ⟨o, eo⟩ := reads_there rd a z
    rw [ha] at eo; cases eo
theorem each_vals {K : PySem.W.Frag} {t m : List Addr} {n : Nat} {H : Hp} : ∀ {out : List Value} {zs : List ((U × PyData) × V)}, PySem.W.EachIs (fun v (b : (U × PyData) × V) => RelV b.2 v ∧ Rp K fa t m n H b.1.1 b.2) out zs → Vals (zs.map (·.2)) out ∧ RpA K fa t m n H ((zs.map (·.1)).map (·.1)) (zs.map (·.2))
  | _, _, .nil => ⟨.nil, .nil⟩
  | _, _, .cons h r => let ⟨a, b⟩ := each_vals r; ⟨.cons h.1 a, .cons h.2 b⟩
theorem each_zs {α β : Type} {R : α → β → Prop} {p : β → Prop} (hp : ∀ a b, R a b → p b) : ∀ {as : List α} {bs : List β}, PySem.W.EachIs R as bs → ∀ b ∈ bs, p b
  | _, _, .nil, b, h => by cases h
  | _, _, .cons h r, b, hb => by
    rcases List.mem_cons.mp hb with e | e
    · subst e; exact hp _ _ h
    · exact each_zs hp r b e
/-- sorted(..) behind its collecting -/
theorem sorted_from (hc : X.calm = true) (hu : X.A.units + 66 < cLine) {pins : List (Addr × Obj)} {s : Shared} {σ : L2.St} {H : Hp} {t m : List Addr} {bs : List Nat} {μ : Mu} {xs ys : List U} {vs : List V} {a : Addr} {Q : VK} {al : Bool}
    (I : L2.Inv X pins σ H s) (M : Me X.K fa bs t m H μ) (ra : RpA X.K fa t m m.length H xs vs) (hs : srtd μ xs = some ys) (k : Kn X.K fa bs t m H (fresh al (.lst ys) μ).1 (fresh al (.lst ys) μ).2 Q)
    (hcol : ∀ (R : List Value → Shared → Prop) (E : Value → Shared → Prop), (∀ h' tk acc, (∀ b o, s.heap.get? b = some o → h'.get? b = some o) → Vals vs acc → R acc { s with heap := h', toks := tk }) → wpAny (model X.prog X.w) X.A.in1 (collect (.ref a)) R E s) :
    wpAny (model X.prog X.w) X.A (call (.builtin "sorted") [.ref a]) (EP X pins σ Q) X.xe s := by
  obtain ⟨ds, e1, hal, hk, hz, rfl⟩ := srtd_some hs
  have l1 := mapO_len e1
  have l2 := ra.length
  have hl := sz_line
  have hd0 : D0 = 12 := rfl
  refine Calls.call_function_entry PyProof.Rows.kind_sorted PyProof.Rows.plain_sorted PyProof.Rows.entry_sorted (PyProof.Rows.args_sorted1 _) ?_
  unfold Builtin.«sorted»
  refine wpAny_bind (m := checkCount "sorted" 1 1 _) (wpAny_pure ?_)
  refine wpAny_bind (hcol _ _ fun h' tk acc kp vv => ?_)
  have la := vv.length
  have I1 : L2.Inv X pins σ H { s with heap := h', toks := tk } := I.kept kp
  refine wpAny_bind (wpAny_newList ?_ (by omega))
  have hoL : (h'.push (seqObj "list" acc.toArray 0)).get? h'.objs.size = some (seqObj "list" acc.toArray 0) := Heap.get?_push_size _ rfl
  show wpAny _ _ _ _ _ { s with heap := h'.push (seqObj "list" acc.toArray 0), toks := tk }
  have hfr : h'.get? h'.objs.size = none := Heap.get?_none_of_le (Nat.le_refl _)
  have ee := each_build (s := { s with heap := h', toks := tk }) (h' := h'.push (seqObj "list" acc.toArray 0)) (a := h'.objs.size) I1 M (fun b o e => Heap.get?_push_of_some _ e) hfr ra e1 vv
  have hbm : ((xs.zip ds).zip vs).map (fun b => b.1.2) = ds := by
    have h1 : ((xs.zip ds).zip vs).map (·.1) = xs.zip ds := List.map_fst_zip (by simp; omega)
    have h2 : (xs.zip ds).map (·.2) = ds := List.map_snd_zip (by omega)
    rw [show (fun b : (U × PyData) × V => b.1.2) = (fun p : U × PyData => p.2) ∘ (fun b : (U × PyData) × V => b.1) from rfl, ← List.map_map, h1, h2]
  refine wpAny_bind (wpAny_holding (PySem.W.list_sort_data (s := { s with heap := h'.push (seqObj "list" acc.toArray 0), toks := tk }) (enc := fun b : (U × PyData) × V => b.1.2) hoL (ee.mono fun _ _ q => q.1) (ee.mono fun _ _ q => q.2.1)
    (by rw [hbm]; exact hal) (by rw [hbm]; exact hk) (by simp; omega) (fun b hb => ?_) fun out ho he => ?_))
  · have : b.1.2.depth ≤ D0 := each_zs (p := fun b : (U × PyData) × V => b.1.2.depth ≤ D0) (fun _ _ q => q.2.2) ee b hb
    show X.A.units + 1 + 1 + _ < _
    omega
  · obtain ⟨e', he'⟩ := PyProof.Rows.sortedHeap_at (vs := acc) (out := out.toArray) hoL
    obtain ⟨rv, rr⟩ := each_vals he
    have hm : (((xs.zip ds).zip vs).mergeSort (PySem.W.dataLe false fun b => b.1.2)).map (·.1) = (xs.zip ds).mergeSort (PySem.W.dataLe false Prod.snd) := by
      have h1 : ((xs.zip ds).zip vs).map (·.1) = xs.zip ds := List.map_fst_zip (by simp; omega)
      rw [List.map_mergeSort (r := PySem.W.dataLe false fun b : (U × PyData) × V => b.1.2) (s := PySem.W.dataLe false Prod.snd) (f := fun b : (U × PyData) × V => b.1) (fun a _ b _ => rfl), h1]
    rw [hm] at rr
    have lo : out.length ≤ sizeLine := by rw [ho]; simp; omega
    refine wpAny_pure ⟨_, rfl, .ref h'.objs.size, upd H h'.objs.size (.lst _), I1.laid (t' := tk) (fun b u e => ?_) (Nat.le_refl _)
      (show ObjOk X.prog X.w _ _ _ (.lst _) from ⟨by rw [rv.length]; exact lo, out, e', rv, he'⟩), rfl, k.lst M (I1.hok.fresh (Nat.le_refl _)) rr⟩
    have hb : b < h'.objs.size := Heap.lt_size e
    rw [PyProof.Rows.sortedHeap_old (Nat.ne_of_lt hb) (by rw [size_push']; exact Nat.lt_succ_of_lt hb)]
    exact Heap.get?_push_of_some _ e
theorem sortedR (hc : X.calm = true) (hu : X.A.units + 66 < cLine) (al : Bool) : CallR X (.builtin "sorted") (rVs X.K fa (colF al .sorted)) := by
  intro pins s σ H xs us Q I rx h
  obtain ⟨t, bs, m, μ, as, u, μ', M, ra, h, k⟩ := h
  obtain ⟨a, ys, rfl, e1, e2⟩ := colF_some h
  obtain ⟨v, rfl, r⟩ := rpa1 ra
  simp only [evCol] at e2
  split at e2
  · rename_i zs e3
    obtain ⟨rfl, rfl⟩ := Prod.mk.inj (Option.some.inj e2)
    have e1' : (match asS μ a with
      | some xs => some xs
      | none => match cont μ a with
        | some (.dk ks _) => some (ks.map keyU)
        | some (.dt ks _) => some (ks.map keysU)
        | _ => none) = some ys := by
      rw [← e1]
      cases a <;> rfl
    obtain ⟨p, rfl, q⟩ := items_ok M r e1'
    obtain ⟨w, rfl, rw'⟩ := vals1 rx
    obtain rfl : w = Value.ref p := rw'
    have hl := sz_line
    rcases q with ⟨vs, q, rb⟩ | ⟨kvs, hH, rfl⟩ | ⟨kvs, hH, rfl⟩
    · refine sorted_from hc hu I M rb e3 k fun R E hR => ?_
      rcases q with q | q
      · obtain ⟨its, rv, ⟨o, n, ho, hcl, hdn, hd⟩, hz⟩ := I.list q
        have hlen := rv.length
        exact wpAny_collect_seq p (.inl rfl) ho hcl hd (fun h' hk => hR h' s.toks _ hk (by simpa using rv)) (by simp; omega)
      · obtain ⟨its, rv, ⟨o, ho, hcl, n, hd⟩, hz⟩ := I.tuple q
        have hlen := rv.length
        exact wpAny_collect_seq p (.inr rfl) ho hcl hd (fun h' hk => hR h' s.toks _ hk (by simpa using rv)) (by simp; omega)
    · obtain ⟨z, lo, vs, rel, dd⟩ := dk_of I.hok hH
      obtain ⟨ep, hat⟩ := dd.dictAt
      have h16 : vs.length ≤ sizeLine := by rw [← rel.length]; exact z
      have hkeys := rel.keys
      refine sorted_from hc hu I M (vs := (kvs.map (·.1)).map kV) (keysA_ok _) e3 k fun R E hR => ?_
      refine PySem.W.kdu_collect (A := X.A.in1) (PySem.W.kdl_dict (knd := mixKind X.prog X.w) (kvs := vs) (ep := ep) lo) (I.ok.hd hc) hat h16 fun h' tk acc hk hacc => hR h' tk _ hk ?_
      have := keys_at (us := acc.toList) (vs := vs) (by rw [Array.length_toList, hacc.1]) fun j v e => hacc.2 j v (by rw [← Array.getElem?_toList]; exact e)
      rw [hkeys, List.map_map]
      exact this
    · obtain ⟨z, hs, ks, pr, o, es, ep, ho, hx, hdt, he, hn⟩ := (show ObjOk X.prog X.w H s.heap p (.dT kvs) from I.hok p _ hH)
      have l1 : es.size = ks.length := size_of_entries he
      have l2 : kvs.length = ks.length := Paired.length pr
      refine sorted_from hc hu I M (vs := (ks.map fun x => x.2.1).map V.ref) (keysU_ok M (isKeys_of pr)) e3 k fun R E hR => ?_
      refine PySem.W.kdu_collect (A := X.A.in1) (kdl_raw hs hx hdt) (I.ok.hd hc) ho (by omega) fun h' tk acc' hk it => hR h' tk _ hk ?_
      have ea : acc'.toList = ks.map fun x => Value.ref x.2.1 := by
        have hl : acc'.toList.length = ks.length := by rw [Array.length_toList, it.1]; exact l1
        apply List.ext_getElem?
        intro j
        rw [List.getElem?_map]
        cases hj : acc'.toList[j]? with
        | none =>
          have h1 := List.getElem?_eq_none_iff.mp hj
          rw [List.getElem?_eq_none (by omega)]
          all_goals rfl
        | some v =>
          obtain ⟨en, hen, hv⟩ := it.2 j v (by rw [← Array.getElem?_toList]; exact hj)
          have qe := entry_at he j
          rw [hen] at qe
          cases hb : ks[j]? with
          | none =>
            rw [hb] at qe
            exact nomatch (show some en = none from qe)
          | some b =>
            rw [hb] at qe
            have e2 : en = entryOfKey (tupleKind (mixKind X.prog X.w)) b := Option.some.inj qe
            rw [hv, e2]
            all_goals rfl
      have eb : acc'.toList = (ks.map fun x => x.2.1).map Value.ref := by rw [ea, List.map_map]; all_goals rfl
      rw [eb]
      exact vals_refs _
  · cases e2
variable {cal : Nat → List U → Mu → Option (U × Mu)} {n0 : Nat} {a b : E} {xa xb : Expr} {pos p p2 pos2 : Pos}
theorem col_ev {al : Bool} {c : Cl} {σ : Env} {μ μ' : Mu} {u : U} {its : List E} (h : evalE cal n0 (.col al c .ex its) σ μ = some (u, μ')) : ∃ us μ1, evalL cal n0 its σ μ = some (us, μ1) ∧ colF al c μ1 us = some (u, μ') := by
  simp only [evalE] at h
  split at h
  · rename_i us μ1 e1
    exact ⟨us, μ1, e1, h⟩
  · cases h
theorem e_list {al : Bool} (hc : X.calm = true) (hg : Gl X "list") (hm : X.mg "list" = none) (ha : PEv X fa cal n0 xa a) (hk : okh xa = true) : PEv X fa cal n0 (.Call (.Name "list" p) [xa] [] pos) (.col al .list .ex [a]) :=
  (pe_callTy (listR hc al) hg hm boot_list (a_cons ha a_nil hk) (by decide) (by decide) (okh_star hk) rfl).imp fun σV H Q q => vs_rd (fun _ _ _ _ => col_ev) q
theorem e_tuple {al : Bool} (hg : Gl X "tuple") (hm : X.mg "tuple" = none) (ha : PEv X fa cal n0 xa a) (hk : okh xa = true) : PEv X fa cal n0 (.Call (.Name "tuple" p) [xa] [] pos) (.col al .tuple .ex [a]) :=
  (pe_callTy (tupleR al) hg hm boot_tuple (a_cons ha a_nil hk) (by decide) (by decide) (okh_star hk) rfl).imp fun σV H Q q => vs_rd (fun _ _ _ _ => col_ev) q
theorem e_dict {al : Bool} (hc : X.calm = true) (hg : Gl X "dict") (hm : X.mg "dict" = none) (ha : PEv X fa cal n0 xa a) (hk : okh xa = true) : PEv X fa cal n0 (.Call (.Name "dict" p) [xa] [] pos) (.col al (.dict false) .ex [a]) :=
  (pe_callTy (dictR hc al) hg hm boot_dict (a_cons ha a_nil hk) (by decide) (by decide) (okh_star hk) rfl).imp fun σV H Q q => vs_rd (fun _ _ _ _ => col_ev) q
theorem e_dictT {al : Bool} (hc : X.calm = true) (hu : X.A.units + 66 < cLine) (hg : Gl X "dict") (hm : X.mg "dict" = none) (ha : PEv X fa cal n0 xa a) (hk : okh xa = true) : PEv X fa cal n0 (.Call (.Name "dict" p) [xa] [] pos) (.col al (.dict true) .ex [a]) :=
  (pe_callTy (dictRT hc hu al) hg hm boot_dict (a_cons ha a_nil hk) (by decide) (by decide) (okh_star hk) rfl).imp fun σV H Q q => vs_rd (fun _ _ _ _ => col_ev) q
theorem e_sorted {al : Bool} (hc : X.calm = true) (hu : X.A.units + 66 < cLine) (hg : Gl X "sorted") (hm : X.mg "sorted" = none) (ha : PEv X fa cal n0 xa a) (hk : okh xa = true) : PEv X fa cal n0 (.Call (.Name "sorted" p) [xa] [] pos) (.col al .sorted .ex [a]) :=
  (pe_callB (sortedR hc hu al) hg hm boot_sorted (a_cons ha a_nil hk) (by decide) (by decide) (okh_star hk) rfl).imp fun σV H Q q => vs_rd (fun _ _ _ _ => col_ev) q
theorem rgn_ok {K : PySem.W.Frag} {t m : List Addr} {n : Nat} {H : Hp} (lo hi : Int) : RpA K fa t m n H (rgn lo hi) (rgV lo hi) := by
  unfold rgn rgV
  have : ∀ l : List Nat, RpA K fa t m n H (l.map fun (k : Nat) => U.int (lo + k)) (l.map fun i => V.int (lo + (i : Nat))) := by
    intro l
    induction l with
    | nil => exact .nil
    | cons x l ih => exact .cons (.int _) ih
  exact this _
/-- the bounds of a range that is collected -/
theorem rg1_rd {al : Bool} {c : Cl} {σV : L2.St} {H : Hp} {Q : VK} (hc : c = .list ∨ c = .tuple) (q : tE X.K fa n0 (evalE cal n0 (.col al c .rng [a])) σV H Q) :
    tRg1 (tE X.K fa n0 (evalE cal n0 a)) σV H fun lo hi H1 => RgOk lo hi ∧ ∃ t bs m μ u μ', Me X.K fa bs t m H1 μ ∧ evCol al μ c (rgn lo hi) = some (u, μ') ∧ Kn X.K fa bs t m H1 u μ' Q := by
  obtain ⟨t, bs, m, σ, μ, u, μ', hb, he, M, ev, k⟩ := q
  simp only [evalE] at ev
  split at ev
  · rename_i us μ1 e1
    split at ev
    · rename_i xs e2
      obtain ⟨w, rfl, e3⟩ := evalL_one e1
      refine seq1 hb he M e3 fun m1 H1 v1 x1 M1 r1 => ?_
      cases w with
      | int j =>
        have e4 : (if -(2 ^ 62) ≤ j ∧ j ≤ 2 ^ 24 then some (rgn 0 j) else none) = some xs := by
          rcases hc with rfl | rfl <;> exact e2
        split at e4
        · rename_i hj
          cases e4
          cases r1
          exact ⟨j, rfl, ⟨by omega, by omega, by omega, by omega, by omega⟩, t, bs, m1, μ1, u, μ', M1, ev, k.ex x1⟩
        · cases e4
      | _ => rcases hc with rfl | rfl <;> simp [items] at e2
    · cases ev
  · cases ev
theorem rg2_rd {al : Bool} {c : Cl} {σV : L2.St} {H : Hp} {Q : VK} (hc : c = .list ∨ c = .tuple) (q : tE X.K fa n0 (evalE cal n0 (.col al c .rng [a, b])) σV H Q) :
    tRg2 (tE X.K fa n0 (evalE cal n0 a)) (tE X.K fa n0 (evalE cal n0 b)) σV H fun lo hi H1 => RgOk lo hi ∧ ∃ t bs m μ u μ', Me X.K fa bs t m H1 μ ∧ evCol al μ c (rgn lo hi) = some (u, μ') ∧ Kn X.K fa bs t m H1 u μ' Q := by
  obtain ⟨t, bs, m, σ, μ, u, μ', hb, he, M, ev, k⟩ := q
  simp only [evalE] at ev
  split at ev
  · rename_i us μ1 e1
    split at ev
    · rename_i xs e2
      have hl := evalL_len e1
      match us, hl, e1, e2 with
      | [w1, w2], hl, e1, e2 =>
        simp only [evalL] at e1
        split at e1
        · rename_i y1 μ2 e3
          split at e1
          · rename_i e4
            split at e4
            · rename_i y2 μ3 e5
              cases e4
              cases e1
              refine seq2 hb he M e3 e5 fun m1 H1 v1 v2 x1 M1 r1 r2 => ?_
              have key : ∃ i j, w1 = .int i ∧ w2 = .int j ∧ (if -(2 ^ 62) ≤ i ∧ i < 2 ^ 62 ∧ -(2 ^ 62) ≤ j ∧ j < 2 ^ 62 ∧ (j - i).toNat ≤ 2 ^ 24 then some (rgn i j) else none) = some xs := by
                rcases hc with rfl | rfl
                · cases w1 <;> first | (simp [items] at e2; done) | (cases w2 <;> first | (simp [items] at e2; done) | exact ⟨_, _, rfl, rfl, e2⟩)
                · cases w1 <;> first | (simp [items] at e2; done) | (cases w2 <;> first | (simp [items] at e2; done) | exact ⟨_, _, rfl, rfl, e2⟩)
              obtain ⟨i, j, rfl, rfl, e6⟩ := key
              split at e6
              · rename_i hj
                cases e6
                cases r1
                cases r2
                exact ⟨i, j, rfl, rfl, ⟨hj.1, hj.2.1, hj.2.2.1, hj.2.2.2.1, hj.2.2.2.2⟩, t, bs, m1, _, u, μ', M1, ev, k.ex x1⟩
              · cases e6
            · cases e4
          · cases e1
        · cases e1
    · cases ev
  · cases ev
theorem col_lst {al : Bool} {t m : List Addr} {bs : List Nat} {H : Hp} {μ μ' : Mu} {u : U} {lo hi : Int} {Q : VK} (M : Me X.K fa bs t m H μ) (e : evCol al μ .list (rgn lo hi) = some (u, μ')) (k : Kn X.K fa bs t m H u μ' Q) : ∀ q, H q = none → Q (.ref q) (upd H q (.lst (rgV lo hi))) := fun q hq => by
  simp only [evCol] at e
  obtain ⟨rfl, rfl⟩ := Prod.mk.inj (Option.some.inj e)
  exact k.lst M hq (rgn_ok lo hi)
theorem col_tup {al : Bool} {t m : List Addr} {bs : List Nat} {H : Hp} {μ μ' : Mu} {u : U} {lo hi : Int} {Q : VK} (M : Me X.K fa bs t m H μ) (e : evCol al μ .tuple (rgn lo hi) = some (u, μ')) (k : Kn X.K fa bs t m H u μ' Q) : ∀ q, H q = none → Q (.ref q) (upd H q (.tup (rgV lo hi))) := fun q hq => by
  simp only [evCol] at e
  obtain ⟨rfl, rfl⟩ := Prod.mk.inj (Option.some.inj e)
  exact k.tup M hq (rgn_ok lo hi)
theorem tRg1_imp {ta : TE} {σ : L2.St} {H : Hp} {P R : Int → Int → Hp → Prop} (mono : ∀ (σ : L2.St) (H : Hp) (Q Q' : VK), (∀ v H', Q v H' → Q' v H') → ta σ H Q → ta σ H Q') (h : tRg1 ta σ H P) (hi : ∀ a b H', P a b H' → R a b H') : tRg1 ta σ H R :=
  mono σ H _ _ (fun _ _ ⟨n, e, p⟩ => ⟨n, e, hi _ _ _ p⟩) h
theorem tE_mono {K : PySem.W.Frag} {ev : Ev} {σ : L2.St} {H : Hp} {Q Q' : VK} (hq : ∀ v H', Q v H' → Q' v H') (h : tE K fa n0 ev σ H Q) : tE K fa n0 ev σ H Q' := by
  obtain ⟨t, bs, m, σ, μ, u, μ', hb, he, M, ev, k⟩ := h
  exact ⟨t, bs, m, σ, μ, u, μ', hb, he, M, ev, fun m' H' v x M' r => hq _ _ (k m' H' v x M' r)⟩
theorem e_list1 {al : Bool} (hc : X.calm = true) (hg : Gl X "list") (hm : X.mg "list" = none) (hgr : Gl X "range") (hmr : X.mg "range" = none) (ha : PEv X fa cal n0 xa a) (hk : okh xa = true) :
    PEv X fa cal n0 (.Call (.Name "list" p) [.Call (.Name "range" p2) [xa] [] pos2] [] pos) (.col al .list .rng [a]) :=
  (pe_listRg hc hg hm (prg_1 hgr hmr ha (okh_star hk)) (okh_star rfl)).imp fun σV H Q q =>
    tE_mono (fun v H' ⟨n, e, ok, t, bs, m, μ, u, μ', M, ec, k⟩ => ⟨n, e, ok, col_lst M ec k⟩) (rg1_rd (.inl rfl) q)
theorem e_tuple1 {al : Bool} (hc : X.calm = true) (hg : Gl X "tuple") (hm : X.mg "tuple" = none) (hgr : Gl X "range") (hmr : X.mg "range" = none) (ha : PEv X fa cal n0 xa a) (hk : okh xa = true) :
    PEv X fa cal n0 (.Call (.Name "tuple" p) [.Call (.Name "range" p2) [xa] [] pos2] [] pos) (.col al .tuple .rng [a]) :=
  (pe_tupRg hc hg hm (prg_1 hgr hmr ha (okh_star hk)) (okh_star rfl)).imp fun σV H Q q =>
    tE_mono (fun v H' ⟨n, e, ok, t, bs, m, μ, u, μ', M, ec, k⟩ => ⟨n, e, ok, col_tup M ec k⟩) (rg1_rd (.inr rfl) q)
theorem e_list2 {al : Bool} (hc : X.calm = true) (hg : Gl X "list") (hm : X.mg "list" = none) (hgr : Gl X "range") (hmr : X.mg "range" = none) (ha : PEv X fa cal n0 xa a) (hb : PEv X fa cal n0 xb b) (hk : okh xa = true) (hkb : okh xb = true) :
    PEv X fa cal n0 (.Call (.Name "list" p) [.Call (.Name "range" p2) [xa, xb] [] pos2] [] pos) (.col al .list .rng [a, b]) :=
  (pe_listRg hc hg hm (prg_2 hgr hmr ha hb (okh_star hk) (okh_star hkb) (okh_back (es := [xb]) (by simp [hkb]))) (okh_star rfl)).imp fun σV H Q q =>
    tE_mono (fun v H' h => tE_mono (fun w H'' ⟨i, j, e1, e2, ok, t, bs, m, μ, u, μ', M, ec, k⟩ => ⟨i, j, e1, e2, ok, col_lst M ec k⟩) h) (rg2_rd (.inl rfl) q)
theorem e_tuple2 {al : Bool} (hc : X.calm = true) (hg : Gl X "tuple") (hm : X.mg "tuple" = none) (hgr : Gl X "range") (hmr : X.mg "range" = none) (ha : PEv X fa cal n0 xa a) (hb : PEv X fa cal n0 xb b) (hk : okh xa = true) (hkb : okh xb = true) :
    PEv X fa cal n0 (.Call (.Name "tuple" p) [.Call (.Name "range" p2) [xa, xb] [] pos2] [] pos) (.col al .tuple .rng [a, b]) :=
  (pe_tupRg hc hg hm (prg_2 hgr hmr ha hb (okh_star hk) (okh_star hkb) (okh_back (es := [xb]) (by simp [hkb]))) (okh_star rfl)).imp fun σV H Q q =>
    tE_mono (fun v H' h => tE_mono (fun w H'' ⟨i, j, e1, e2, ok, t, bs, m, μ, u, μ', M, ec, k⟩ => ⟨i, j, e1, e2, ok, col_tup M ec k⟩) h) (rg2_rd (.inr rfl) q)
/-! ### list(d.items()) -/
theorem itms_ok {K : PySem.W.Frag} {t m : List Addr} {H' : Hp} {bs : List Nat} {μ : Mu} (M : Me K fa bs t m H' μ) : ∀ {kvs : List (Key × V)} {us : List U} {ts : List Addr}, Paired (fun (t : Addr) (q : Key × V) => H' t = some (.tup [kV q.1, q.2])) ts kvs → RpA K fa t m m.length H' us (kvs.map (·.2)) →
    RpA K fa t m m.length H' (((kvs.map (·.1)).zip us).map fun p => .tup [keyU p.1, p.2]) (ts.map V.ref)
  | [], us, ts, p, r => by
    cases p
    cases r
    exact .nil
  | kv :: kvs, us, ts, p, r => by
    cases p with
    | cons e p =>
      cases r with
      | cons r rr => exact .cons (.tup (M.tupN e) (.cons (keyU_ok _) (.one r))) (itms_ok M p rr)
theorem e_itms {p apos cpos : Pos} (hc : X.calm = true) (hg : Gl X "list") (hm : X.mg "list" = none) (hv : bootBuiltins "list" = some (.type "list")) (ha : PEv X fa cal n0 xa a) (hr : okr xa = true) (hline : (apos.endLine == cpos.line) = true) :
    PEv X fa cal n0 (.Call (.Name "list" p) [.Call (.Attribute xa "items" apos) [] [] cpos] [] pos) (.itms a) :=
  (LiI.pe_listItems hc ha hg hm hv (okr_base hr) hline (okh_star rfl)).imp fun σV H Q q => by
    obtain ⟨t, bs, m, σ, μ, u, μ', hb, he, M, ev, k⟩ := q
    simp only [evalE] at ev
    split at ev
    · rename_i u1 μ1 e1
      split at ev
      · rename_i xs e2
        cases ev
        refine seq1 hb he M e1 fun m1 H1 v1 x1 M1 r1 => ?_
        unfold itmU at e2
        split at e2
        · rename_i ks us e3
          cases e2
          obtain ⟨d, kvs, rfl, hH, rfl, ra⟩ := dk_at M1 r1 e3
          refine ⟨d, kvs, rfl, hH, fun H' p ts kp hp hts hpt hl hpr => ?_⟩
          have ex : Ex m1 H1 m1 H' := Ex.of_keep kp
          have M' := M1.ext kp
          obtain ⟨n1, n2⟩ := M1.fresh hp
          exact k m1 H' _ (x1.trans ex) M' (.lst ⟨hl, n1, n2⟩ (itms_ok M' hpr (ra.ex' ex)))
        · cases e2
      · cases ev
    · cases ev
end
end R

set_option Elab.async false
set_option linter.all false
set_option maxRecDepth 100000
set_option maxHeartbeats 4000000
/-! R4: the checker that an expression of ours is an expression of the program; its soundness -/
namespace R
open PySem PySem.Spec PyProof.Rows L2

/-- what stands at the top -/
structure Gd where
  fa : Nat → Option Addr
  fns : List (Str × Nat)
  nums : List (Str × Int)
  bns : List Str
def opC : Bo → Operator → Bool
  | .add, .Add | .sub, .Sub | .mul, .Mult | .fdiv, .FloorDiv | .mod, .Mod | .pow, .Pow | .shl, .LShift | .shr, .RShift | .band, .BitAnd | .bor, .BitOr | .bxor, .BitXor => true
  | _, _ => false
theorem opC_ok {a : Bo} {b : Operator} (h : opC a b = true) : b = a.op := by cases a <;> cases b <;> first | rfl | cases h
def coC : Co → CmpOp → Bool
  | .eq, .Eq | .ne, .NotEq | .lt, .Lt | .le, .LtE | .gt, .Gt | .ge, .GtE | .isin, .In | .notin, .NotIn | .is_, .Is | .isnot, .IsNot => true
  | _, _ => false
theorem coC_ok {a : Co} {b : CmpOp} (h : coC a b = true) : b = a.op := by cases a <;> cases b <;> first | rfl | cases h
def boC : Bool → BoolOp → Bool
  | true, .And | false, .Or => true
  | _, _ => false
theorem boC_ok {a : Bool} {b : BoolOp} (h : boC a b = true) : b = bop a := by cases a <;> cases b <;> first | rfl | cases h
def isNonE : E → Bool
  | .non => true
  | _ => false
def isYesE : E → Bool
  | .bl true => true
  | _ => false
/-- seen from within -/
def visC (rs : Scope) (x : Str) : Bool := match rs.names.lookup x with
  | some .local => true
  | some .cell => true
  | some .free => true
  | _ => false
def glC (rs : Scope) (x : Str) : Bool := decide (rs.names.lookup x = some .globalImplicit) && !(x == ("__debug__" : Str))
def bnC (G : Gd) (rs : Scope) (x : Str) : Bool := glC rs x && decide (x ∈ G.bns)
def varC (N : List Str) (rs : Scope) (i : Nat) (x : Str) : Bool := decide (N[i]? = some x) && visC rs x && !(x == ("__debug__" : Str)) && !(x == ("__classdict__" : Str))
def asgC (N : List Str) (rs ws : Scope) (i : Nat) (x : Str) : Bool := decide (N[i]? = some x) && (decide (rs.names.lookup x = some .local) || (decide (rs.names.lookup x = some .cell) && decide (ws.names.lookup x = some .cell)))
mutual
def chkP (N : List Str) (rs ws : Scope) : Pt → Expr → Bool
  | .slot i, .Name x _ => asgC N rs ws i x
  | .tup ps, .Tuple xs _ _ => chkPs N rs ws ps xs
  | _, _ => false
def chkPs (N : List Str) (rs ws : Scope) : List Pt → List Expr → Bool
  | [], [] => true
  | p :: ps, x :: xs => chkP N rs ws p x && chkPs N rs ws ps xs
  | _, _ => false
end
def ownOf (N : List Str) (ws : List Nat) : List (Str × Nat) := ws.map fun i => (N[i]?.getD default, i)
theorem ownOf_snd (N : List Str) (ws : List Nat) : (ownOf N ws).map (·.2) = ws := by
  unfold ownOf
  rw [List.map_map]
  show ws.map (fun i => i) = ws
  simp
def blkC (N : List Str) (rs scope : Scope) (ws : List Nat) : Bool :=
  decide (scope.kind = .function) && scope.names.all (fun y => decide (scope.names.lookup y.1 = some y.2)) && (ownOf N ws).all (fun p => decide (N[p.2]? = some p.1)) &&
  scope.names.all (fun y => !decide (y.2 = .free) || decide (rs.names.lookup y.1 = some .cell) || decide (rs.names.lookup y.1 = some .free)) &&
  scope.names.all (fun y => !(decide (y.2 = .local) || decide (y.2 = .cell)) || decide (y.1 ∈ (ownOf N ws).map (·.1)) || decide (y.1 ∉ N))
theorem blkC_ok {N : List Str} {rs scope : Scope} {ws : List Nat} (h : blkC N rs scope ws = true) : BlkOk N rs scope (ownOf N ws) := by
  unfold blkC at h
  simp only [Bool.and_eq_true, decide_eq_true_eq, List.all_eq_true, Bool.or_eq_true, Bool.not_eq_true', decide_eq_false_iff_not, Bool.or_eq_false_iff] at h
  obtain ⟨⟨⟨⟨h1, h2⟩, h3⟩, h4⟩, h5⟩ := h
  refine ⟨h1, h2, h3, fun y hy e => ?_, fun y hy e => ?_⟩
  · rcases h4 y hy with (z | z) | z
    · exact absurd e z
    · exact .inl z
    · exact .inr z
  · rcases h5 y hy with (z | z) | z
    · rcases e with e | e
      · exact absurd e z.1
      · exact absurd e z.2
    · exact .inl z
    · exact .inr z
/-- the arguments of what is walked -/
def argsOf (G : Gd) (rs : Scope) (ik : Ik) (tup : Bool) (iter : Expr) : Option (List Expr) :=
  match ik with
    | .ex => some [iter]
    | .rng => match iter with
      | .Call (.Name f _) [a] [] _ => if (bnC G rs f && decide (f = ("range" : Str))) = true then some [a] else none
      | .Call (.Name f _) [a, b] [] _ => if (bnC G rs f && decide (f = ("range" : Str))) = true then some [a, b] else none
      | _ => none
    | .enm => match iter with
      | .Call (.Name f _) [a] [] _ => if (tup && bnC G rs f && decide (f = ("enumerate" : Str))) = true then some [a] else none
      | _ => none
    | .zip => match iter with
      | .Call (.Name f _) [a, b] [] _ => if (tup && bnC G rs f && decide (f = ("zip" : Str))) = true then some [a, b] else none
      | _ => none
def isTupE : Expr → Bool
  | .Tuple .. => true
  | _ => false
def Cl.nm : Cl → Str
  | .list => "list" | .tuple => "tuple" | .sorted => "sorted" | .dict _ => "dict"
def meC : Mt → Str → Nat → Bool
  | .append, n, k => decide (n = ("append" : Str)) && decide (1 ≤ k) && decide (k < 20)
  | .pop0, n, k => decide (n = ("pop" : Str)) && decide (k = 0)
  | .pop1, n, k => decide (n = ("pop" : Str)) && decide (1 ≤ k) && decide (k < 20)
  | .get2, n, k => decide (n = ("get" : Str)) && decide (1 ≤ k) && decide (k < 20)
  | _, _, _ => false

variable (G : Gd) (N : List Str)
mutual
def chkE (rs ws : Scope) : E → Expr → Bool
  | .var i, x => match x with
    | .Name x _ => varC N rs i x
    | _ => false
  | .non, x => match x with
    | .Constant .none _ _ => true
    | _ => false
  | .bl b, x => match x with
    | .Constant (.bool c) _ _ => decide (b = c)
    | _ => false
  | .int i, x => match x with
    | .Constant (.int j) _ _ => decide (i = j)
    | _ => false
  | .str z, x => match x with
    | .Constant (.str y) _ _ => decide (z = y)
    | _ => false
  | .gint i, x => match x with
    | .Name x _ => glC rs x && decide (G.nums.lookup x = some i)
    | _ => false
  | .fnv f, x => match x with
    | .Name x _ => glC rs x && decide (G.fns.lookup x = some f)
    | _ => false
  | .tup es, x => match x with
    | .Tuple xs _ _ => chkL rs ws es xs
    | _ => false
  | .lst _ es, x => match x with
    | .List xs _ => chkL rs ws es xs
    | _ => false
  | .dct _ tk es, x => match x with
    | .Dict keys vals _ => match flatE keys vals with
      | some r => chkL rs ws es r && decide (keys.length ≤ 15) && (keys.isEmpty || !tk)
      | none => false
    | _ => false
  | .bin _ op a b, x => match x with
    | .BinOp xa o xb _ => opC op o && chkE rs ws a xa && chkE rs ws b xb
    | _ => false
  | .neg a, x => match x with
    | .UnaryOp .USub xa _ => chkE rs ws a xa
    | _ => false
  | .cmp op a b, x => match x with
    | .Compare xa [o] [xb] _ => coC op o && chkE rs ws a xa && chkE rs ws b xb
    | _ => false
  | .chain op op' a b c, x => match x with
    | .Compare xa [o, o'] [xb, xc] _ => coC op o && coC op' o' && chkE rs ws a xa && chkE rs ws b xb && chkE rs ws c xc
    | _ => false
  | .bool and es, x => match x with
    | .BoolOp o xs _ => boC and o && !xs.isEmpty && chkL rs ws es xs
    | _ => false
  | .not a, x => match x with
    | .UnaryOp .Not xa _ => chkE rs ws a xa
    | _ => false
  | .ite c a b, x => match x with
    | .IfExp xc xa xb _ => chkE rs ws c xc && chkE rs ws a xa && chkE rs ws b xb
    | _ => false
  | .idx a i, x => match x with
    | .Subscript xa xi _ => chkE rs ws a xa && chkE rs ws i xi
    | _ => false
  | .slc _ a lo hi, x => match x with
    | .Subscript xa (.Slice xlo xhi none _) _ => chkE rs ws a xa && (match xlo with
      | some y => chkE rs ws lo y
      | none => isNonE lo) && (match xhi with
      | some y => chkE rs ws hi y
      | none => isNonE hi)
    | _ => false
  | .rev _ a, x => match x with
    | .Subscript xa (.Slice none none (some (.UnaryOp .USub (.Constant (.int j) _ _) _)) _) _ => decide (j = 1) && chkE rs ws a xa
    | _ => false
  | .comp _ p ik its c e vs, x => match x with
    | .ListComp elt [⟨tg, iter, ifs, z⟩] scope _ => decide (z = 0) && blkC N rs scope vs && (ptSlots p).all (fun i => decide (i ∈ vs)) && okh iter && chkP N (relS scope rs) scope p tg &&
      (match argsOf G rs ik (isTupE tg) iter with
        | some xs => chkL rs ws its xs
        | none => false) && (match ifs with
        | [] => isYesE c
        | [f] => chkE (relS scope rs) scope c f
        | _ => false) && chkE (relS scope rs) scope e elt
    | _ => false
  | .col _ c ik its, x => match x with
    | .Call (.Name f _) [arg] [] _ => bnC G rs f && decide (f = c.nm) && (match ik with
      | .ex => chkL rs ws its [arg]
      | .rng => (decide (c = .list) || decide (c = .tuple)) && okh arg && (match argsOf G rs .rng false arg with
        | some xs => chkL rs ws its xs
        | none => false)
      | _ => false)
    | _ => false
  | .call f es, x => match x with
    | .Call (.Name g _) xs [] _ => glC rs g && decide (G.fns.lookup g = some f) && chkL rs ws es xs
    | _ => false
  | .bi b es, x => match x with
    | .Call (.Name f _) xs [] _ => bnC G rs f && decide (f = b.nm) && !xs.isEmpty && chkL rs ws es xs
    | _ => false
  | .isi e t, x => match x with
    | .Call (.Name f _) [xa, .Name y _] [] _ => bnC G rs f && decide (f = ("isinstance" : Str)) && bnC G rs y && decide (y = t.st) && chkE rs ws e xa
    | _ => false
  | .itms a, x => match x with
    | .Call (.Name f _) [.Call (.Attribute xa nm apos) [] [] cpos] [] _ => bnC G rs f && decide (f = ("list" : Str)) && decide (nm = ("items" : Str)) && okr xa && (apos.endLine == cpos.line) && chkE rs ws a xa
    | _ => false
  | .me _ m a es, x => match x with
    | .Call (.Attribute xa nm apos) xs [] pos => okr xa && (apos.endLine == pos.line) && meC m nm xs.length && chkE rs ws a xa && chkL rs ws es xs
    | _ => false
def chkL (rs ws : Scope) : List E → List Expr → Bool
  | [], xs => xs.isEmpty
  | e :: es, xs => match xs with
    | x :: xs => chkE rs ws e x && chkL rs ws es xs
    | [] => false
end
end R

set_option Elab.async false
set_option linter.all false
set_option maxRecDepth 100000
set_option maxHeartbeats 4000000
/-! R4b: the checker is sound for expressions -/
namespace R
open PySem PySem.Spec PyProof.Rows L2

/-- a def's promise -/
def spU (K : PySem.W.Frag) (fa : Nat → Option Addr) (cal : Nat → List U → Mu → Option (U × Mu)) (i : Nat) : Sp := fun vs H Q _ => ∃ t bs m μ us u μ', Me K fa bs t m H μ ∧ RpA K fa t m m.length H us vs ∧ cal i us μ = some (u, μ') ∧ Kn K fa bs t m H u μ' Q
/-- the context in which the checker is sound -/
structure Ok (G : Gd) (cal : Nat → List U → Mu → Option (U × Mu)) (k : Nat) (N : List Str) (rs ws : Scope) (X : Cx) : Prop where
  calm : X.calm = true
  nm : X.N = N
  nd : N.Nodup
  sc : X.env.scope = rs
  fn : ∀ x, ws.names.lookup x = some .cell → X.fn x = true
  room : Room k X.A
  own : PassesOwn (model X.prog X.w) X.A X.env X.xe
  nums : ∀ x i, G.nums.lookup x = some i → ∃ t, X.mg x = some (.int i t)
  bns : ∀ x, x ∈ G.bns → X.mg x = none
  calls : ∀ x i, G.fns.lookup x = some i → ∃ f fd ps, X.mg x = some (.ref f) ∧ G.fa i = some f ∧ PySem.W.keepIn X.K (.ref f) = true ∧ Binds X.K fd ps [] ∧ FnOk X.prog X.w X.K X.mg X.base C8.CX0 k f fd ps (spU X.K G.fa cal i)

section
variable {G : Gd} {cal : Nat → List U → Mu → Option (U × Mu)} {k n0 : Nat} {N : List Str} {rs ws : Scope} {X : Cx}
theorem Ok.blk (h : Ok G cal k N rs ws X) (s : Shared) (H : Hp) (scope : Scope) (C : Addr) (cl : List (Str × Addr)) (fp : List Addr) : Ok G cal k N (relS scope rs) scope (X.blk s H scope (compEnvC scope cl C X.env) fp) where
  calm := h.calm
  nm := h.nm
  nd := h.nd
  sc := by rw [← h.sc]; rfl
  fn := fun x e => by
    show (scope.names.lookup x == some NameKind.cell) = true
    rw [e]; rfl
  room := h.room
  own := PassesOwn.never
  nums := h.nums
  bns := h.bns
  calls := h.calls
theorem Ok.hu (h : Ok G cal k N rs ws X) : X.A.units + 66 < cLine := room_eq h.room
theorem glC_ok (h : Ok G cal k N rs ws X) {x : Str} (c : glC rs x = true) : Gl X x ∧ (x == ("__debug__" : Str)) = false := by
  unfold glC at c
  simp only [Bool.and_eq_true, decide_eq_true_eq, Bool.not_eq_true'] at c
  refine ⟨?_, c.2⟩
  unfold Gl PySem.Env.kindOf
  rw [h.sc]
  exact c.1
theorem bnC_ok (h : Ok G cal k N rs ws X) {x : Str} (c : bnC G rs x = true) : Gl X x ∧ X.mg x = none := by
  unfold bnC at c
  simp only [Bool.and_eq_true, decide_eq_true_eq] at c
  exact ⟨(glC_ok h c.1).1, h.bns x c.2⟩
theorem varC_ok (h : Ok G cal k N rs ws X) {i : Nat} {x : Str} (c : varC N rs i x = true) : X.N[i]? = some x ∧ Vis X.env.scope x ∧ (x == ("__debug__" : Str)) = false ∧ (x == ("__classdict__" : Str)) = false := by
  unfold varC at c
  simp only [Bool.and_eq_true, decide_eq_true_eq, Bool.not_eq_true'] at c
  obtain ⟨⟨⟨c1, c2⟩, c3⟩, c4⟩ := c
  refine ⟨by rw [h.nm]; exact c1, ?_, c3, c4⟩
  unfold Vis
  rw [h.sc]
  unfold visC at c2
  split at c2
  · rename_i e; exact .inl e
  · rename_i e; exact .inr (.inl e)
  · rename_i e; exact .inr (.inr e)
  · cases c2
theorem asgC_ok (h : Ok G cal k N rs ws X) {i : Nat} {x : Str} (c : asgC N rs ws i x = true) : X.N[i]? = some x ∧ Loc X.env.scope x ∧ (X.fn x = true ∨ X.env.scope.names.lookup x = some .local) := by
  unfold asgC at c
  simp only [Bool.and_eq_true, decide_eq_true_eq, Bool.or_eq_true] at c
  refine ⟨by rw [h.nm]; exact c.1, ?_⟩
  unfold L2.Loc
  rw [h.sc]
  rcases c.2 with e | ⟨e, e2⟩
  · exact ⟨.inl e, .inr e⟩
  · exact ⟨.inr e, .inl (h.fn x e2)⟩
mutual
theorem okP (h : Ok G cal k N rs ws X) : ∀ (p : Pt) (x : Expr), chkP N rs ws p x = true → PG X x (tGp X.K G.fa p) ∧ okt x = true
  | .slot i, x, c => by
    cases x with
    | Name x pos =>
      simp only [chkP] at c
      obtain ⟨c1, c2, c3⟩ := asgC_ok h c
      exact ⟨g_slot (by rw [h.nm]; exact h.nd) c1 c2 c3, rfl⟩
    | _ => simp [chkP] at c
  | .tup ps, x, c => by
    cases x with
    | Tuple xs j pos =>
      simp only [chkP] at c
      obtain ⟨c1, c2, c3⟩ := okPs h ps xs c
      exact ⟨g_tup h.calm c1 c2 c3, rfl⟩
    | _ => simp [chkP] at c
theorem okPs (h : Ok G cal k N rs ws X) : ∀ (ps : List Pt) (xs : List Expr), chkPs N rs ws ps xs = true → PGs X xs (tGs X.K G.fa ps) ∧ xs.all okt = true ∧ xs.length = ps.length
  | [], xs, c => by
    cases xs with
    | nil => exact ⟨gs_nil, rfl, rfl⟩
    | cons => simp [chkPs] at c
  | p :: ps, xs, c => by
    cases xs with
    | nil => simp [chkPs] at c
    | cons x xs =>
      simp only [chkPs, Bool.and_eq_true] at c
      obtain ⟨a1, a2⟩ := okP h p x c.1
      obtain ⟨b1, b2, b3⟩ := okPs h ps xs c.2
      exact ⟨gs_cons a1 b1 a2, by simp [a2, b2], by simp [b3]⟩
end
theorem e_call {f : Nat} {es : List E} {g : Str} {xs : List Expr} {p pos : Pos} (h : Ok G cal k N rs ws X) (hg : Gl X g) (hd : (g == ("__debug__" : Str)) = false) (hf : G.fns.lookup g = some f) (ha : PAv X G.fa cal n0 xs es) (hk : xs.all okh = true) (hl : xs.length = es.length) :
    PEv X G.fa cal n0 (.Call (.Name g p) xs [] pos) (.call f es) := by
  obtain ⟨ad, fd, ps, h1, h2, h3, h4, F⟩ := h.calls g f hf
  have rd : ∀ {σV : L2.St} {H : Hp} {Q : VK}, tE X.K G.fa n0 (evalE cal n0 (.call f es)) σV H Q → tL X.K G.fa n0 (evalL cal n0 es) σV H fun vs H1 => spU X.K G.fa cal f (vs ++ []) H1 Q C8.E0 := by
    intro σV H Q q
    obtain ⟨t, bs, m, σ, μ, u, μ', hb, he, M, ev, kk⟩ := q
    simp only [evalE] at ev
    split at ev
    · rename_i us μ1 e1
      exact ⟨t, bs, m, σ, μ, us, μ1, hb, he, M, e1, fun m1 H1 vs x1 M1 ra => ⟨t, bs, m1, μ1, us, u, μ', M1, by rw [List.append_nil]; exact ra, ev, kk.ex x1⟩⟩
    · cases ev
  cases xs with
  | nil =>
    refine (pe_call0 F h.room hg h1 h3 h4 (dvs := []) .nil (E := C8.E0) C8.pass0 hd).imp fun σV H Q q => ?_
    have := rd q
    obtain ⟨t, bs, m, σ, μ, us, μ1, hb, he, M, e1, kk⟩ := this
    have : es = [] := by
      cases es with
      | nil => rfl
      | cons => simp at hl
    subst this
    simp only [evalL] at e1
    cases e1
    exact kk m H [] (Ex.refl _ _) M .nil
  | cons x xs =>
    simp only [List.all_cons, Bool.and_eq_true] at hk
    exact (pe_call F h.room hg h1 h3 h4 (dvs := []) .nil (E := C8.E0) C8.pass0 ha hd (okh_star hk.1) (okh_back hk.2)).imp fun σV H Q q => rd q

/-! ### the checker -/
def Both (X : Cx) (fa : Nat → Option Addr) (cal : Nat → List U → Mu → Option (U × Mu)) (n0 : Nat) (x : Expr) (e : E) : Prop := PEv X fa cal n0 x e ∧ PTv X fa cal n0 x e ∧ okh x = true
inductive AllE (X : Cx) (fa : Nat → Option Addr) (cal : Nat → List U → Mu → Option (U × Mu)) (n0 : Nat) : List Expr → List E → Prop
  | nil : AllE X fa cal n0 [] []
  | cons {x : Expr} {e : E} {xs : List Expr} {es : List E} : Both X fa cal n0 x e → AllE X fa cal n0 xs es → AllE X fa cal n0 (x :: xs) (e :: es)
variable {fa : Nat → Option Addr}
theorem AllE.pa : ∀ {xs : List Expr} {es : List E}, AllE X fa cal n0 xs es → PAv X fa cal n0 xs es
  | _, _, .nil => a_nil
  | _, _, .cons h r => a_cons h.1 r.pa h.2.2
theorem AllE.okh : ∀ {xs : List Expr} {es : List E}, AllE X fa cal n0 xs es → xs.all R.okh = true
  | _, _, .nil => rfl
  | _, _, .cons h r => by simp [h.2.2, r.okh]
theorem AllE.len : ∀ {xs : List Expr} {es : List E}, AllE X fa cal n0 xs es → xs.length = es.length
  | _, _, .nil => rfl
  | _, _, .cons h r => by simp [r.len]
theorem AllE.at_ : ∀ {xs : List Expr} {es : List E}, AllE X fa cal n0 xs es → ∀ (i : Nat) x e, xs[i]? = some x → es[i]? = some e → PEv X fa cal n0 x e
  | _, _, .nil, i, x, e, h, _ => by simp at h
  | _, _, .cons h r, 0, x, e, h1, h2 => by simp at h1 h2; subst h1 h2; exact h.1
  | _, _, .cons h r, i + 1, x, e, h1, h2 => r.at_ i x e (by simpa using h1) (by simpa using h2)
theorem AllE.bool {and : Bool} {pos : Pos} : ∀ {xs : List Expr} {es : List E}, AllE X fa cal n0 xs es → xs ≠ [] → PBv X fa cal n0 (.BoolOp (bop and) xs pos) and es ∧ PBw X fa cal n0 (.BoolOp (bop and) xs pos) and es
  | _, _, .nil, h => absurd rfl h
  | _, _, .cons h .nil, _ => ⟨b_one h.1, w_one h.2.1⟩
  | _, _, .cons h (.cons h2 r), _ => let ⟨a, b⟩ := AllE.bool (.cons h2 r) (by simp); ⟨b_cons h.1 a, w_cons h.2.1 b⟩
/-- what is walked -/
theorem i_of {ik : Ik} {its : List E} {iter tg : Expr} {xs : List Expr} (h : Ok G cal k N rs ws X) (e : argsOf G rs ik (isTupE tg) iter = some xs) (ha : AllE X G.fa cal n0 xs its) : PIv X G.fa cal n0 tg iter ik its := by
  unfold argsOf at e
  split at e
  · cases e
    match its, ha with
    | [_], .cons h1 .nil => exact i_ex h1.1
  · split at e
    · split at e
      · rename_i c
        simp only [Bool.and_eq_true, decide_eq_true_eq] at c
        obtain ⟨c1, rfl⟩ := c
        cases e
        match its, ha with
        | [_], .cons h1 .nil => exact i_rng1 (bnC_ok h c1).1 (bnC_ok h c1).2 h1.1 h1.2.2
      · cases e
    · split at e
      · rename_i c
        simp only [Bool.and_eq_true, decide_eq_true_eq] at c
        obtain ⟨c1, rfl⟩ := c
        cases e
        match its, ha with
        | [_, _], .cons h1 (.cons h2 .nil) => exact i_rng2 (bnC_ok h c1).1 (bnC_ok h c1).2 h1.1 h2.1 h1.2.2 h2.2.2
      · cases e
    · cases e
  · split at e
    · split at e
      · rename_i c
        simp only [Bool.and_eq_true, decide_eq_true_eq] at c
        obtain ⟨⟨c0, c1⟩, rfl⟩ := c
        cases e
        cases tg with
        | Tuple ts j p =>
          match its, ha with
          | [_], .cons h1 .nil => exact i_enm (bnC_ok h c1).1 (bnC_ok h c1).2 h1.1 h1.2.2
        | _ => simp [isTupE] at c0
      · cases e
    · cases e
  · split at e
    · split at e
      · rename_i c
        simp only [Bool.and_eq_true, decide_eq_true_eq] at c
        obtain ⟨⟨c0, c1⟩, rfl⟩ := c
        cases e
        cases tg with
        | Tuple ts j p =>
          match its, ha with
          | [_, _], .cons h1 (.cons h2 .nil) => exact i_zip (bnC_ok h c1).1 (bnC_ok h c1).2 h1.1 h2.1 h1.2.2 h2.2.2
        | _ => simp [isTupE] at c0
      · cases e
    · cases e
theorem both_plain {x : Expr} {e : E} (h : PEv X fa cal n0 x e) (hk : R.okh x = true) (he : ∀ whole, PySem.isTrue x X.env whole = (do let v ← whole; standAt x.pos; holding [v] (truthy v))) : Both X fa cal n0 x e := ⟨h, t_of_e h he, hk⟩

/-- a list comprehension, seen -/
structure LcOk (G : Gd) (cal : Nat → List U → Mu → Option (U × Mu)) (n0 : Nat) (X : Cx) (elt tg iter : Expr) (ifs : List Expr) (scope : Scope) (p : Pt) (ik : Ik) (its : List E) (c e : E) (vs : List Nat) : Prop where
  hi : PIv X G.fa cal n0 tg iter ik its
  ok : BlkOk X.N X.env.scope scope (ownOf X.N vs)
  hg : ∀ (s : Shared) (H : Hp) (C : Addr) (cl : List (Str × Addr)) (fp : List Addr), PG (X.blk s H scope (compEnvC scope cl C X.env) fp) tg (tGp X.K G.fa p)
  ht : ∀ (s : Shared) (H : Hp) (C : Addr) (cl : List (Str × Addr)) (fp : List Addr), PTs (X.blk s H scope (compEnvC scope cl C X.env) fp) ifs (tT X.K G.fa n0 (evalE cal n0 c))
  he : ∀ (s : Shared) (H : Hp) (C : Addr) (cl : List (Str × Addr)) (fp : List Addr), PE (X.blk s H scope (compEnvC scope cl C X.env) fp) elt (tE X.K G.fa n0 (evalE cal n0 e))
  hk : okh iter = true
  hws : ∀ i ∈ ptSlots p, i ∈ vs
theorem LcOk.pe {elt tg iter : Expr} {ifs : List Expr} {scope : Scope} {p : Pt} {ik : Ik} {its : List E} {c e : E} {vs : List Nat} {al : Bool} {pos : Pos} (h : Ok G cal k N rs ws X) (q : LcOk G cal n0 X elt tg iter ifs scope p ik its c e vs) :
    PEv X G.fa cal n0 (.ListComp elt [⟨tg, iter, ifs, 0⟩] scope pos) (.comp al p ik its c e vs) := by
  have := e_comp (al := al) (pos := pos) h.calm (by rw [h.nm]; exact h.nd) q.hi q.ok q.hg q.ht q.he q.hk (by rw [ownOf_snd]; exact q.hws)
  rw [ownOf_snd] at this
  exact this
theorem isYesE_ok {c : E} (h : isYesE c = true) : c = .bl true := by
  cases c with
  | bl b => cases b <;> first | rfl | cases h
  | _ => cases h
theorem isNonE_ok {c : E} (h : isNonE c = true) : c = .non := by
  cases c <;> first | rfl | cases h
theorem isTrue_plainH {x : Expr} {env : PySem.Env} {whole : Sem Value} (h : match x with
    | .UnaryOp .Not _ _ => False
    | .BoolOp .. => False
    | .IfExp .. => False
    | .Compare .. => False
    | _ => True) : PySem.isTrue x env whole = (do let v ← whole; standAt x.pos; holding [v] (truthy v)) := by
  cases x with
  | UnaryOp op a p => cases op <;> first | rfl | exact h.elim
  | BoolOp => exact h.elim
  | IfExp => exact h.elim
  | Compare => exact h.elim
  | _ => rfl
mutual
theorem okE : ∀ (e : E) {rs ws : Scope} {X : Cx} (x : Expr), Ok G cal k N rs ws X → chkE G N rs ws e x = true → Both X G.fa cal n0 x e
  | .var i, rs, ws, X, x, h, c => by
    cases x with
    | Name y pos =>
      simp only [chkE] at c
      obtain ⟨c1, c2, c3, c4⟩ := varC_ok h c
      exact both_plain (e_var c1 c2 c3 c4) rfl fun _ => rfl
    | _ => simp [chkE] at c
  | .non, rs, ws, X, x, h, c => by
    simp only [chkE] at c
    split at c
    · exact both_plain e_non rfl fun _ => rfl
    · cases c
  | .bl b, rs, ws, X, x, h, c => by
    simp only [chkE] at c
    split at c
    · have := of_decide_eq_true c
      subst this
      exact both_plain e_bl rfl fun _ => rfl
    · cases c
  | .int i, rs, ws, X, x, h, c => by
    simp only [chkE] at c
    split at c
    · have := of_decide_eq_true c
      subst this
      exact both_plain e_int rfl fun _ => rfl
    · cases c
  | .str z, rs, ws, X, x, h, c => by
    simp only [chkE] at c
    split at c
    · have := of_decide_eq_true c
      subst this
      exact both_plain e_str rfl fun _ => rfl
    · cases c
  | .gint i, rs, ws, X, x, h, c => by
    simp only [chkE] at c
    split at c
    · simp only [Bool.and_eq_true, decide_eq_true_eq] at c
      obtain ⟨g, d⟩ := glC_ok h c.1
      exact both_plain (e_gint g (h.nums _ _ c.2) d) rfl fun _ => rfl
    · cases c
  | .fnv f, rs, ws, X, x, h, c => by
    simp only [chkE] at c
    split at c
    · simp only [Bool.and_eq_true, decide_eq_true_eq] at c
      obtain ⟨g, d⟩ := glC_ok h c.1
      obtain ⟨ad, fd, ps, h1, h2, _⟩ := h.calls _ _ c.2
      exact both_plain (e_fnv g h1 h2 d) rfl fun _ => rfl
    · cases c
  | .tup es, rs, ws, X, x, h, c => by
    simp only [chkE] at c
    split at c
    · exact both_plain (e_tup (okL es _ h c).pa) rfl fun _ => rfl
    · cases c
  | .lst al es, rs, ws, X, x, h, c => by
    simp only [chkE] at c
    split at c
    · exact both_plain (e_lst (okL es _ h c).pa) rfl fun _ => rfl
    · cases c
  | .dct al tk es, rs, ws, X, x, h, c => by
    simp only [chkE] at c
    split at c
    · rename_i keys vals pos
      split at c
      · rename_i r e
        simp only [Bool.and_eq_true, decide_eq_true_eq, Bool.or_eq_true, Bool.not_eq_true'] at c
        obtain ⟨⟨c1, c2⟩, c3⟩ := c
        have A := okL es _ h c1
        cases keys with
        | nil =>
          cases vals with
          | nil =>
            cases e
            cases A
            exact both_plain e_dnew rfl fun _ => rfl
          | cons => simp [flatE] at e
        | cons k1 ks =>
          rcases c3 with c3 | c3
          · simp at c3
          · subst c3
            exact both_plain (e_dct e A.at_ A.len (by simp) c2) rfl fun _ => rfl
      · cases c
    · cases c
  | .bin al op a b, rs, ws, X, x, h, c => by
    simp only [chkE] at c
    split at c
    · simp only [Bool.and_eq_true] at c
      have e := opC_ok c.1.1
      subst e
      exact both_plain (e_bin (okE a _ h c.1.2).1 (okE b _ h c.2).1) rfl fun _ => rfl
    · cases c
  | .neg a, rs, ws, X, x, h, c => by
    simp only [chkE] at c
    split at c
    · exact both_plain (e_neg (okE a _ h c).1) rfl fun _ => rfl
    · cases c
  | .cmp op a b, rs, ws, X, x, h, c => by
    simp only [chkE] at c
    split at c
    · simp only [Bool.and_eq_true] at c
      have e := coC_ok c.1.1
      subst e
      have A := okE a _ h c.1.2
      have B := okE b _ h c.2
      exact ⟨e_cmp h.hu A.1 B.1 B.2.2, t_cmp h.hu A.1 B.1 B.2.2, rfl⟩
    · cases c
  | .chain op op' a b c', rs, ws, X, x, h, c => by
    simp only [chkE] at c
    split at c
    · simp only [Bool.and_eq_true] at c
      obtain ⟨⟨⟨⟨c1, c2⟩, c3⟩, c4⟩, c5⟩ := c
      have e := coC_ok c1
      subst e
      have e := coC_ok c2
      subst e
      have A := okE a _ h c3
      have B := okE b _ h c4
      have C := okE c' _ h c5
      exact ⟨e_chain h.hu A.1 B.1 C.1 C.2.2, t_chain h.hu A.1 B.1 C.1 C.2.2, rfl⟩
    · cases c
  | .bool and es, rs, ws, X, x, h, c => by
    simp only [chkE] at c
    split at c
    · rename_i o xs pos
      simp only [Bool.and_eq_true, Bool.not_eq_true'] at c
      have e := boC_ok c.1.1
      subst e
      have A := okL es _ h c.2
      obtain ⟨p, q⟩ := A.bool (pos := pos) (and := and) (by intro z; subst z; simp at c)
      exact ⟨e_bool p, t_bool q, rfl⟩
    · cases c
  | .not a, rs, ws, X, x, h, c => by
    simp only [chkE] at c
    split at c
    · have A := okE a _ h c
      exact ⟨e_not A.1, t_not A.2.1, rfl⟩
    · cases c
  | .ite c' a b, rs, ws, X, x, h, c => by
    simp only [chkE] at c
    split at c
    · simp only [Bool.and_eq_true] at c
      have C := okE c' _ h c.1.1
      have A := okE a _ h c.1.2
      have B := okE b _ h c.2
      exact ⟨e_ite C.2.1 A.1 B.1, t_ite C.2.1 A.2.1 B.2.1, rfl⟩
    · cases c
  | .idx a i, rs, ws, X, x, h, c => by
    simp only [chkE] at c
    split at c
    · simp only [Bool.and_eq_true] at c
      have A := okE a _ h c.1
      have B := okE i _ h c.2
      exact both_plain (e_idx h.hu A.1 B.1 B.2.2) rfl fun _ => rfl
    · cases c
  | .slc al a lo hi, rs, ws, X, x, h, c => by
    simp only [chkE] at c
    split at c
    · simp only [Bool.and_eq_true] at c
      obtain ⟨⟨c1, c2⟩, c3⟩ := c
      have A := okE a _ h c1
      refine both_plain (e_slc A.1 ?_ ?_) rfl fun _ => rfl
      · split at c2
        · exact pov_some (okE lo _ h c2).1
        · rw [isNonE_ok c2]; exact pov_none
      · split at c3
        · exact pov_some (okE hi _ h c3).1
        · rw [isNonE_ok c3]; exact pov_none
    · cases c
  | .rev al a, rs, ws, X, x, h, c => by
    simp only [chkE] at c
    split at c
    · simp only [Bool.and_eq_true, decide_eq_true_eq] at c
      obtain ⟨rfl, c2⟩ := c
      exact both_plain (e_revL (okE a _ h c2).1) rfl fun _ => rfl
    · cases c
  | .comp al p ik its c' e vs, rs, ws, X, x, h, c => by
    simp only [chkE] at c
    split at c
    · rename_i elt tg iter ifs z scope pos
      simp only [Bool.and_eq_true, decide_eq_true_eq, List.all_eq_true] at c
      obtain ⟨⟨⟨⟨⟨⟨⟨rfl, c2⟩, c3⟩, c4⟩, c5⟩, c6⟩, c7⟩, c8⟩ := c
      have q : LcOk G cal n0 X elt tg iter ifs scope p ik its c' e vs := by
        refine ⟨?_, ?_, fun s H C cl fp => ?_, fun s H C cl fp => ?_, fun s H C cl fp => ?_, c4, c3⟩
        · split at c6
          · rename_i xs e1
            exact i_of h e1 (okL its _ h c6)
          · cases c6
        · rw [h.nm, h.sc]; exact blkC_ok c2
        · exact (okP (h.blk s H scope C cl fp) p tg c5).1
        · split at c7
          · rw [isYesE_ok c7]; exact pts_yes
          · exact pts_one (okE c' _ (h.blk s H scope C cl fp) c7).2.1
          · cases c7
        · exact (okE e _ (h.blk s H scope C cl fp) c8).1
      exact both_plain (q.pe h) rfl fun _ => rfl
    · cases c
  | .col al cl ik its, rs, ws, X, x, h, c => by
    simp only [chkE] at c
    split at c
    · rename_i f p1 arg pos
      simp only [Bool.and_eq_true, decide_eq_true_eq] at c
      obtain ⟨⟨c1, rfl⟩, c3⟩ := c
      obtain ⟨g, m⟩ := bnC_ok h c1
      refine both_plain ?_ rfl fun _ => rfl
      split at c3
      · have A := okL its _ h c3
        match its, A with
        | [_], .cons h1 .nil =>
          match cl, g, m, c3 with
          | .list, g, m, _ => exact e_list h.calm g m h1.1 h1.2.2
          | .tuple, g, m, _ => exact e_tuple g m h1.1 h1.2.2
          | .sorted, g, m, _ => exact e_sorted h.calm h.hu g m h1.1 h1.2.2
          | .dict false, g, m, _ => exact e_dict h.calm g m h1.1 h1.2.2
          | .dict true, g, m, _ => exact e_dictT h.calm h.hu g m h1.1 h1.2.2
      · simp only [Bool.and_eq_true, Bool.or_eq_true, decide_eq_true_eq] at c3
        obtain ⟨⟨c4, c5⟩, c6⟩ := c3
        split at c6
        · rename_i xs e1
          have A := okL its _ h c6
          unfold argsOf at e1
          simp only at e1
          split at e1
          · split at e1
            · rename_i cc
              simp only [Bool.and_eq_true, decide_eq_true_eq] at cc
              obtain ⟨cc1, rfl⟩ := cc
              obtain ⟨gr, mr⟩ := bnC_ok h cc1
              cases e1
              match its, A with
              | [_], .cons h1 .nil =>
                rcases c4 with rfl | rfl
                · exact e_list1 h.calm g m gr mr h1.1 h1.2.2
                · exact e_tuple1 h.calm g m gr mr h1.1 h1.2.2
            · cases e1
          · split at e1
            · rename_i cc
              simp only [Bool.and_eq_true, decide_eq_true_eq] at cc
              obtain ⟨cc1, rfl⟩ := cc
              obtain ⟨gr, mr⟩ := bnC_ok h cc1
              cases e1
              match its, A with
              | [_, _], .cons h1 (.cons h2 .nil) =>
                rcases c4 with rfl | rfl
                · exact e_list2 h.calm g m gr mr h1.1 h2.1 h1.2.2 h2.2.2
                · exact e_tuple2 h.calm g m gr mr h1.1 h2.1 h1.2.2 h2.2.2
            · cases e1
          · cases e1
        · cases c6
      · cases c3
    · cases c
  | .call f es, rs, ws, X, x, h, c => by
    simp only [chkE] at c
    split at c
    · simp only [Bool.and_eq_true, decide_eq_true_eq] at c
      obtain ⟨g, d⟩ := glC_ok h c.1.1
      have A := okL es _ h c.2
      exact both_plain (e_call h g d c.1.2 A.pa A.okh A.len) rfl fun _ => rfl
    · cases c
  | .bi b es, rs, ws, X, x, h, c => by
    simp only [chkE] at c
    split at c
    · rename_i f p1 xs pos
      simp only [Bool.and_eq_true, decide_eq_true_eq, Bool.not_eq_true'] at c
      obtain ⟨⟨⟨c1, rfl⟩, c3⟩, c4⟩ := c
      obtain ⟨g, m⟩ := bnC_ok h c1
      have A := okL es _ h c4
      cases xs with
      | nil => simp at c3
      | cons x xs =>
        have hk := A.okh
        simp only [List.all_cons, Bool.and_eq_true] at hk
        exact both_plain (e_bi h.calm h.hu g m A.pa hk.1 hk.2) rfl fun _ => rfl
    · cases c
  | .isi e t, rs, ws, X, x, h, c => by
    simp only [chkE] at c
    split at c
    · simp only [Bool.and_eq_true, decide_eq_true_eq] at c
      obtain ⟨⟨⟨⟨c1, rfl⟩, c3⟩, rfl⟩, c5⟩ := c
      obtain ⟨g, m⟩ := bnC_ok h c1
      obtain ⟨g2, m2⟩ := bnC_ok h c3
      have A := okE e _ h c5
      exact both_plain (e_isi g m g2 m2 A.1 A.2.2) rfl fun _ => rfl
    · cases c
  | .itms a, rs, ws, X, x, h, c => by
    simp only [chkE] at c
    split at c
    · simp only [Bool.and_eq_true, decide_eq_true_eq] at c
      obtain ⟨⟨⟨⟨⟨c1, rfl⟩, rfl⟩, c4⟩, c5⟩, c6⟩ := c
      obtain ⟨g, mm⟩ := bnC_ok h c1
      exact both_plain (e_itms h.calm g mm rfl (okE a _ h c6).1 c4 c5) rfl fun _ => rfl
    · cases c
  | .me al me a es, rs, ws, X, x, h, c => by
    simp only [chkE] at c
    split at c
    · rename_i xa nm apos xs pos
      simp only [Bool.and_eq_true] at c
      obtain ⟨⟨⟨⟨c1, c2⟩, c3⟩, c4⟩, c5⟩ := c
      have A := okE a _ h c4
      have B := okL es _ h c5
      have hk := B.okh
      have hl := B.len
      refine both_plain ?_ rfl fun _ => rfl
      cases xs with
      | nil =>
        cases me <;> simp [meC] at c3
        subst c3
        cases es with
        | nil => exact e_pop0 A.1 c1 c2
        | cons => simp at hl
      | cons x xs =>
        simp only [List.all_cons, Bool.and_eq_true] at hk
        cases me <;> simp [meC] at c3
        · obtain ⟨rfl, c6⟩ := c3
          exact e_append A.1 B.pa c1 hk.1 hk.2 (by omega) c2
        · obtain ⟨rfl, c6⟩ := c3
          exact e_pop1 A.1 B.pa c1 hk.1 hk.2 (by omega) c2
        · obtain ⟨rfl, c6⟩ := c3
          exact e_get2 h.hu A.1 B.pa c1 hk.1 hk.2 (by omega) c2
    · cases c
theorem okL : ∀ (es : List E) {rs ws : Scope} {X : Cx} (xs : List Expr), Ok G cal k N rs ws X → chkL G N rs ws es xs = true → AllE X G.fa cal n0 xs es
  | [], rs, ws, X, xs, h, c => by
    cases xs with
    | nil => exact .nil
    | cons => simp [chkL] at c
  | e :: es, rs, ws, X, xs, h, c => by
    cases xs with
    | nil => simp [chkL] at c
    | cons x xs =>
      simp only [chkL, Bool.and_eq_true] at c
      exact .cons (okE e x h c.1) (okL es xs h c.2)
end
end
end R

set_option Elab.async false
set_option linter.all false
set_option maxRecDepth 100000
set_option maxHeartbeats 4000000
/-! R4c: the checker for statements, sound -/
namespace R
open PySem PySem.Spec PyProof.Rows L2

/-- does a list comprehension change places with the store of its name -/
def swL (rs : Scope) (t : Str) (tl vl : Nat) (sc : Scope) : Bool := (rs.names.lookup t == some .local) && (tl == vl) && !(sc.names.any fun (n, k) => n == t && (k == .local || k == .cell))
def isCompE : E → Bool
  | .comp .. => true
  | _ => false
def nodup2 (i j : Nat) : Bool := decide (i ≠ j)
def locC (N : List Str) (rs : Scope) (i : Nat) (x : Str) : Bool := decide (N[i]? = some x) && decide (rs.names.lookup x = some .local)
variable (G : Gd) (N : List Str) (rs ws : Scope)
def chkPar (is : List Nat) (tg v : Expr) : Bool :=
  match is, tg, v with
    | [i, j], .Tuple [.Name x px, .Name y py] kt pt, .Tuple [xa, xb] k2 pt2 => locC N rs i x && locC N rs j y && decide (i ≠ j) && decide (swF rs [.Name x px, .Name y py] [xa, xb] = some (some [x, y]))
    | [i, j, l], .Tuple [.Name x px, .Name y py, .Name z pz] kt pt, .Tuple [xa, xb, xc] k2 pt2 => locC N rs i x && locC N rs j y && locC N rs l z && decide (i ≠ j) && decide (i ≠ l) && decide (j ≠ l) && decide (swF rs [.Name x px, .Name y py, .Name z pz] [xa, xb, xc] = some (some [x, y, z]))
    | _, _, _ => false
def tupsOf : Expr → List Expr
  | .Tuple xs _ _ => xs
  | _ => []
mutual
def chkS : S → Stmt → Bool
  | .set i e, x => match x with
    | .Assign [.Name y py] xe pos => asgC N rs ws i y && chkE G N rs ws e xe && (noLc xe || (match xe with
      | .ListComp _ _ sc lp => swL rs y py.line lp.line sc || !swL rs y py.line lp.line sc
      | _ => false))
    | _ => false
  | .par is es, x => match x with
    | .Assign [tg] xe _ => chkPar N rs is tg xe && chkL G N rs ws es (tupsOf xe)
    | _ => false
  | .asg p e, x => match x with
    | .Assign [tg] xe _ => chkP N rs ws p tg && chkE G N rs ws e xe && noLc xe && (noSw tg xe || (isTupE tg && isTupE xe && decide (swF rs (tupsOf tg) (tupsOf xe) = some none)))
    | _ => false
  | .sub a i e, x => match x with
    | .Assign [.Subscript xa xi _] xe _ => chkE G N rs ws a xa && chkE G N rs ws i xi && chkE G N rs ws e xe && noLc xe
    | _ => false
  | .asg2 a i a' i' e, x => match x with
    | .Assign [.Subscript xa xi _, .Subscript xa' xi' _] xe _ => chkE G N rs ws a xa && chkE G N rs ws i xi && chkE G N rs ws a' xa' && chkE G N rs ws i' xi' && chkE G N rs ws e xe
    | _ => false
  | .sub2 a i a' i' e e', x => match x with
    | .Assign [.Tuple [.Subscript xa xi p2, .Subscript xa' xi' p3] _ _] (.Tuple [xe, xe'] _ _) _ => chkE G N rs ws a xa && chkE G N rs ws i xi && chkE G N rs ws a' xa' && chkE G N rs ws i' xi' && chkL G N rs ws [e, e'] [xe, xe'] && decide (swF rs [.Subscript xa xi p2, .Subscript xa' xi' p3] [xe, xe'] = some none)
    | _ => false
  | .ex e, x => match x with
    | .Expr xe _ => chkE G N rs ws e xe && noLc xe
    | _ => false
  | .ret e, x => match x with
    | .Return (some xe) _ => chkE G N rs ws e xe
    | .Return none _ => isNonE e
    | _ => false
  | .iff c t f, x => match x with
    | .If xc xt xf _ => chkE G N rs ws c xc && chkB t xt && chkB f xf
    | _ => false
  | .for_ p ik its b, x => match x with
    | .For tg iter xb [] _ => chkP N rs ws p tg && okh iter && (match argsOf G rs ik (isTupE tg) iter with
      | some xs => chkL G N rs ws its xs
      | none => false) && chkB b xb
    | _ => false
  | .wh c b, x => match x with
    | .While xc xb [] _ => chkE G N rs ws c xc && chkB b xb
    | _ => false
  | .pass, x => match x with
    | .Pass _ => true
    | .Expr (.Constant (.str _) _ _) _ => true
    | _ => false
  | .brk, x => match x with
    | .Break _ => true
    | _ => false
  | .cont, x => match x with
    | .Continue _ => true
    | _ => false
  | .stuck, _ => true
def chkB : List S → List Stmt → Bool
  | [], xs => xs.isEmpty
  | s :: ss, xs => match xs with
    | x :: xs => chkS s x && chkB ss xs
    | [] => false
end
end R
namespace R
open PySem PySem.Spec PyProof.Rows L2
section
variable {G : Gd} {cal : Nat → List U → Mu → Option (U × Mu)} {k n0 : Nat} {N : List Str} {rs ws : Scope} {X : Cx}
theorem locC_ok (h : Ok G cal k N rs ws X) {i : Nat} {x : Str} (c : locC N rs i x = true) : X.N[i]? = some x ∧ X.env.scope.names.lookup x = some .local := by
  unfold locC at c
  simp only [Bool.and_eq_true, decide_eq_true_eq] at c
  rw [h.nm, h.sc]
  exact c
theorem okPar {is : List Nat} {es : List E} {tg xe : Expr} {pos : Pos} (h : Ok G cal k N rs ws X) (hk : X.env.scope.kind = .function) (c : chkPar N rs is tg xe = true) (A : AllE X G.fa cal n0 (tupsOf xe) es) : PSv X G.fa cal n0 (.Assign [tg] xe pos) (.par is es) := by
  unfold chkPar at c
  split at c
  · simp only [Bool.and_eq_true, decide_eq_true_eq] at c
    obtain ⟨⟨⟨c1, c2⟩, c3⟩, c4⟩ := c
    obtain ⟨a1, a2⟩ := locC_ok h c1
    obtain ⟨b1, b2⟩ := locC_ok h c2
    exact s_par2 h.calm (by rw [h.nm]; exact h.nd) a1 b1 c3 a2 b2 A.pa (sw_ok hk (by rw [h.sc]; exact c4))
  · simp only [Bool.and_eq_true, decide_eq_true_eq] at c
    obtain ⟨⟨⟨⟨⟨⟨c1, c2⟩, c3⟩, c4⟩, c5⟩, c6⟩, c7⟩ := c
    obtain ⟨a1, a2⟩ := locC_ok h c1
    obtain ⟨b1, b2⟩ := locC_ok h c2
    obtain ⟨d1, d2⟩ := locC_ok h c3
    exact s_par3 h.calm (by rw [h.nm]; exact h.nd) a1 b1 d1 c4 c5 c6 a2 b2 d2 A.pa (sw_ok hk (by rw [h.sc]; exact c7))
  · cases c
/-- the parts of a checked list comprehension -/
theorem lc_of {al : Bool} {p : Pt} {ik : Ik} {its : List E} {c' e : E} {vs : List Nat} {elt : Expr} {gens : List Comprehension} {scope : Scope} {pos : Pos} (h : Ok G cal k N rs ws X) (c : chkE G N rs ws (.comp al p ik its c' e vs) (.ListComp elt gens scope pos) = true) :
    ∃ tg iter ifs, gens = [⟨tg, iter, ifs, 0⟩] ∧ LcOk G cal n0 X elt tg iter ifs scope p ik its c' e vs := by
  match gens, c with
  | [⟨tg, iter, ifs, z⟩], c =>
    simp only [chkE, Bool.and_eq_true, decide_eq_true_eq, List.all_eq_true] at c
    obtain ⟨⟨⟨⟨⟨⟨⟨rfl, c2⟩, c3⟩, c4⟩, c5⟩, c6⟩, c7⟩, c8⟩ := c
    refine ⟨tg, iter, ifs, rfl, ?_, ?_, fun s H C cl fp => ?_, fun s H C cl fp => ?_, fun s H C cl fp => ?_, c4, c3⟩
    · split at c6
      · rename_i xs e1
        exact i_of h e1 (okL its _ h c6)
      · cases c6
    · rw [h.nm, h.sc]; exact blkC_ok c2
    · exact (okP (h.blk s H scope C cl fp) p tg c5).1
    · split at c7
      · rw [isYesE_ok c7]; exact pts_yes
      · exact pts_one (okE c' _ (h.blk s H scope C cl fp) c7).2.1
      · cases c7
    · exact (okE e _ (h.blk s H scope C cl fp) c8).1
  | [], c => simp [chkE] at c
  | _ :: _ :: _, c => simp [chkE] at c
theorem swL_ok {env : PySem.Env} {t : Str} {tp vp : Pos} {l : Nat} {elt : Expr} {gens : List Comprehension} {sc : Scope} (hk : env.scope.kind = .function) : swapsWith (.ListComp elt gens sc vp) (some (.Name t tp)) l env = pure (swL env.scope t tp.line vp.line sc) := by
  have hb : env.blockKind = .function := by unfold PySem.Env.blockKind; rw [hk]; rfl
  unfold swapsWith swL PySem.Env.kindOf
  simp only [hb]
  rfl
theorem okSet {i : Nat} {e : E} {y : Str} {py pos : Pos} {xe : Expr} (h : Ok G cal k N rs ws X) (hk : X.env.scope.kind = .function) (c1 : asgC N rs ws i y = true) (c2 : chkE G N rs ws e xe = true) (c3 : noLc xe = true ∨ ∃ a b c d, xe = .ListComp a b c d) : PSv X G.fa cal n0 (.Assign [.Name y py] xe pos) (.set i e) := by
  obtain ⟨a1, a2, a3⟩ := asgC_ok h c1
  have hN : X.N.Nodup := by rw [h.nm]; exact h.nd
  have B := okE (n0 := n0) e xe h c2
  rcases c3 with c3 | ⟨elt, gens, sc, vp, rfl⟩
  · exact s_set hN a1 a2 a3 B.1 (noLc_sw c3 B.2.2)
  · have hs := swL_ok (env := X.env) (t := y) (tp := py) (vp := vp) (l := pos.line) (elt := elt) (gens := gens) (sc := sc) hk
    cases hb : swL X.env.scope y py.line vp.line sc with
    | false =>
      rw [hb] at hs
      exact s_set hN a1 a2 a3 B.1 hs
    | true =>
      rw [hb] at hs
      have hl : X.env.scope.names.lookup y = some .local := by
        unfold swL at hb
        simp only [Bool.and_eq_true, beq_iff_eq] at hb
        exact hb.1.1
      cases e with
      | comp al p ik its c' e vs =>
        obtain ⟨tg, iter, ifs, rfl, q⟩ := lc_of (n0 := n0) h c2
        have := s_setLc (al := al) (py := py) (spos := pos) (pos := vp) h.calm hN a1 hl hs q.hi q.ok q.hg q.ht q.he q.hk (by rw [ownOf_snd]; exact q.hws)
        rw [ownOf_snd] at this
        exact this
      | _ => simp [chkE] at c2
theorem isTup_eq {x : Expr} (h : isTupE x = true) : ∃ k p, x = .Tuple (tupsOf x) k p := by
  cases x <;> first | exact ⟨_, _, rfl⟩ | cases h
mutual
theorem okS (h : Ok G cal k N rs ws X) (hk : X.env.scope.kind = .function) : ∀ (s : S) (x : Stmt), chkS G N rs ws s x = true → PSv X G.fa cal n0 x s
  | .set i e, x, c => by
    simp only [chkS] at c
    split at c
    · rename_i y py xe pos
      simp only [Bool.and_eq_true, Bool.or_eq_true] at c
      refine okSet h hk c.1.1 c.1.2 ?_
      rcases c.2 with c3 | c3
      · exact .inl c3
      · split at c3
        · exact .inr ⟨_, _, _, _, rfl⟩
        · cases c3
    · cases c
  | .par is es, x, c => by
    simp only [chkS] at c
    split at c
    · simp only [Bool.and_eq_true] at c
      exact okPar h hk c.1 (okL es _ h c.2)
    · cases c
  | .asg p e, x, c => by
    simp only [chkS] at c
    split at c
    · rename_i tg xe pos
      simp only [Bool.and_eq_true, Bool.or_eq_true, decide_eq_true_eq] at c
      obtain ⟨⟨⟨c1, c2⟩, c3⟩, c4⟩ := c
      obtain ⟨p1, p2⟩ := okP h p tg c1
      have B := okE (n0 := n0) e xe h c2
      refine s_asg p1 B.1 B.2.2 p2 c3 ?_
      rcases c4 with c4 | ⟨⟨c4, c5⟩, c6⟩
      · exact noSw_ok c4
      · obtain ⟨k1, q1, e1⟩ := isTup_eq c4
        obtain ⟨k2, q2, e2⟩ := isTup_eq c5
        rw [e1, e2]
        exact sw_ok hk (by rw [h.sc]; exact c6)
    · cases c
  | .sub a i e, x, c => by
    simp only [chkS] at c
    split at c
    · simp only [Bool.and_eq_true] at c
      obtain ⟨⟨⟨c1, c2⟩, c3⟩, c4⟩ := c
      have A := okE (n0 := n0) a _ h c1
      have B := okE (n0 := n0) i _ h c2
      have C := okE (n0 := n0) e _ h c3
      exact s_sub h.hu A.1 B.1 C.1 B.2.2 C.2.2 c4
    · cases c
  | .asg2 a i a' i' e, x, c => by
    simp only [chkS] at c
    split at c
    · simp only [Bool.and_eq_true] at c
      obtain ⟨⟨⟨⟨c1, c2⟩, c3⟩, c4⟩, c5⟩ := c
      have B := okE (n0 := n0) i _ h c2
      have D := okE (n0 := n0) i' _ h c4
      exact s_asg2 h.hu (okE a _ h c1).1 B.1 (okE a' _ h c3).1 D.1 (okE e _ h c5).1 B.2.2 D.2.2
    · cases c
  | .sub2 a i a' i' e e', x, c => by
    simp only [chkS] at c
    split at c
    · simp only [Bool.and_eq_true, decide_eq_true_eq] at c
      obtain ⟨⟨⟨⟨⟨c1, c2⟩, c3⟩, c4⟩, c5⟩, c6⟩ := c
      have B := okE (n0 := n0) i _ h c2
      have D := okE (n0 := n0) i' _ h c4
      exact s_sub2 h.calm h.hu (okE a _ h c1).1 B.1 (okE a' _ h c3).1 D.1 (okL [e, e'] _ h c5).pa B.2.2 D.2.2 (sw_ok hk (by rw [h.sc]; exact c6))
    · cases c
  | .ex e, x, c => by
    simp only [chkS] at c
    split at c
    · simp only [Bool.and_eq_true] at c
      have A := okE (n0 := n0) e _ h c.1
      exact s_ex A.1 A.2.2 c.2
    · cases c
  | .ret e, x, c => by
    simp only [chkS] at c
    split at c
    · exact s_ret (okE e _ h c).1
    · rw [isNonE_ok c]; exact s_retN
    · cases c
  | .iff c' t f, x, c => by
    simp only [chkS] at c
    split at c
    · simp only [Bool.and_eq_true] at c
      exact s_if (okE c' _ h c.1.1).2.1 (okB h hk t _ c.1.2) (okB h hk f _ c.2)
    · cases c
  | .for_ p ik its b, x, c => by
    simp only [chkS] at c
    split at c
    · simp only [Bool.and_eq_true] at c
      obtain ⟨⟨⟨c1, c2⟩, c3⟩, c4⟩ := c
      split at c3
      · rename_i xs e1
        exact s_for h.own h.calm (i_of h e1 (okL its _ h c3)) (okP h p _ c1).1 (okB h hk b _ c4) c2
      · cases c3
    · cases c
  | .wh c' b, x, c => by
    simp only [chkS] at c
    split at c
    · simp only [Bool.and_eq_true] at c
      exact s_wh h.own (okE c' _ h c.1).2.1 (okB h hk b _ c.2)
    · cases c
  | .pass, x, c => by
    simp only [chkS] at c
    split at c
    · exact s_pass
    · exact s_doc
    · cases c
  | .brk, x, c => by
    simp only [chkS] at c
    split at c
    · exact s_brk
    · cases c
  | .cont, x, c => by
    simp only [chkS] at c
    split at c
    · exact s_cont
    · cases c
  | .stuck, x, c => s_never
theorem okB (h : Ok G cal k N rs ws X) (hk : X.env.scope.kind = .function) : ∀ (ss : List S) (xs : List Stmt), chkB G N rs ws ss xs = true → PLv X G.fa cal n0 xs ss
  | [], xs, c => by
    cases xs with
    | nil => exact l_nil
    | cons => simp [chkB] at c
  | s :: ss, xs, c => by
    cases xs with
    | nil => simp [chkB] at c
    | cons x xs =>
      simp only [chkB, Bool.and_eq_true] at c
      exact l_cons (okS h hk s x c.1) (okB h hk ss xs c.2)
end
end
end R

set_option Elab.async false
set_option linter.all false
set_option maxRecDepth 100000
set_option maxHeartbeats 4000000
/-! R5: defs keep their promises at every level; what the law's walk asks -/
namespace R
open PySem PySem.Spec PyProof.Rows L2

section
variable {K : PySem.W.Frag} {fa : Nat → Option Addr} {t m m' : List Addr} {n n' : Nat} {H H' : Hp} {bs : List Nat} {μ μ' : Mu}
/-- the bounds of a callee -/
def bsIn (bs : List Nat) (l : Nat) : List Nat := bs ++ List.replicate (l - bs.length) l
theorem bsIn_len {l : Nat} (h : bs.length ≤ l) : (bsIn bs l).length = l := by simp [bsIn]; omega
theorem bsIn_lt {l i : Nat} (h : i < bs.length) : (bsIn bs l)[i]? = bs[i]? := by
  unfold bsIn
  rw [List.getElem?_append_left h]
theorem bsIn_mid {l i : Nat} (h : bs.length ≤ i) (h2 : i < l) : (bsIn bs l)[i]? = some l := by
  unfold bsIn
  rw [List.getElem?_append_right h, List.getElem?_replicate]
  simp
  omega
theorem bsIn_out {l i : Nat} (h : bs.length ≤ l) (h2 : l ≤ i) : (bsIn bs l)[i]? = none := by
  rw [List.getElem?_eq_none_iff, bsIn_len h]
  exact h2
/-- a call begins -/
theorem Me.enter (M : Me K fa bs t m H μ) : Me K fa (bsIn bs m.length) t m H μ := by
  refine ⟨M.len, by rw [bsIn_len M.low]; exact Nat.le_refl _, M.nd, fun i a o h1 h2 => ?_, fun i b hb => ?_, M.tt⟩
  · have q := M.ct i a o h1 h2
    have hi : i < m.length := (List.getElem?_eq_some_iff.mp h1).1
    by_cases h : i < bs.length
    · rw [bsIn_lt h]; exact q
    · rw [bsIn_mid (by omega) hi]
      rw [List.getElem?_eq_none_iff.mpr (by omega)] at q
      exact q
  · rw [bsIn_len M.low]
    by_cases h : i < bs.length
    · rw [bsIn_lt h] at hb
      exact Nat.le_trans (M.bd i b hb) M.low
    · by_cases h2 : i < m.length
      · rw [bsIn_mid (by omega) h2] at hb; cases hb; exact Nat.le_refl _
      · rw [bsIn_out M.low (by omega)] at hb; cases hb
/-- a call ends, all objects kept -/
theorem Me.leave (hl : bs.length ≤ m.length) (hbd : ∀ (i b : Nat), bs[i]? = some b → b ≤ bs.length) (M : Me K fa (bsIn bs m.length) t m' H' μ') : Me K fa bs t m' H' μ' := by
  have hlow := M.low
  rw [bsIn_len hl] at hlow
  refine ⟨M.len, by omega, M.nd, fun i a o h1 h2 => ?_, hbd, M.tt⟩
  have q := M.ct i a o h1 h2
  refine q.ex (Ex.refl _ _) ?_ rfl
  by_cases h : i < bs.length
  · rw [bsIn_lt h]; exact Nat.le_refl _
  · have hn : bs[i]? = none := List.getElem?_eq_none_iff.mpr (by omega)
    rw [hn]
    by_cases h2 : i < m.length
    · rw [bsIn_mid (by omega) h2]; exact hlow
    · rw [bsIn_out hl (by omega)]; exact Nat.le_refl _
mutual
theorem Rp.shrink {r : List Addr} (hn : n ≤ m.length) : ∀ {u : U} {v : V}, Rp K fa t (m ++ r) n H u v → Rp K fa t m n H u v
  | _, _, .non => .non
  | _, _, .bl b => .bl b
  | _, _, .int i => .int i
  | _, _, .str x => .str x
  | _, _, .tup h q => .tup ⟨h.1, fun z => h.2.1 (List.mem_append_left _ z), h.2.2⟩ (RpA.shrink hn q)
  | _, _, .lst h q => .lst ⟨h.1, fun z => h.2.1 (List.mem_append_left _ z), h.2.2⟩ (RpA.shrink hn q)
  | _, _, .dK h a z q => .dK h (fun y => a (List.mem_append_left _ y)) z (RpA.shrink hn q)
  | _, _, .dT h a z q => .dT h (fun y => a (List.mem_append_left _ y)) z (RpA.shrink hn q)
  | _, _, .ob hi h => .ob hi (by rw [List.getElem?_append_left (by omega)] at h; exact h)
  | _, _, .fn h => .fn h
  | _, _, .scr h => .scr (h.elim (fun q => .inl ⟨q.1, fun z => q.2.1 (List.mem_append_left _ z), q.2.2⟩) .inr)
theorem RpA.shrink {r : List Addr} (hn : n ≤ m.length) : ∀ {us : List U} {vs : List V}, RpA K fa t (m ++ r) n H us vs → RpA K fa t m n H us vs
  | _, _, .nil => .nil
  | _, _, .cons h q => .cons (Rp.shrink hn h) (RpA.shrink hn q)
end
theorem Ct.shrink {r : List Addr} (hn : n ≤ m.length) {a : Addr} {o : U} (h : Ct K fa t (m ++ r) n H a o) : Ct K fa t m n H a o := by
  cases h with
  | lst h q => exact .lst h (q.shrink hn)
  | dK h q => exact .dK h (q.shrink hn)
  | dT h q => exact .dT h (q.shrink hn)
/-- a call ends, its own objects dropped -/
theorem Me.drop {r : List Addr} (hl : bs.length ≤ m.length) (hbd : ∀ (i b : Nat), bs[i]? = some b → b ≤ bs.length) (M : Me K fa (bsIn bs m.length) t (m ++ r) H' μ') : Me K fa bs t m H' (μ'.take m.length) := by
  have hlen := M.len
  rw [List.length_append] at hlen
  refine ⟨by simp; omega, hl, ?_, fun i a o h1 h2 => ?_, hbd, fun a ha => ?_⟩
  · have := M.nd
    rw [List.nodup_append] at this
    exact this.1
  · have hi : i < m.length := (List.getElem?_eq_some_iff.mp h1).1
    rw [List.getElem?_take_of_lt hi] at h2
    have q := M.ct i a o (by rw [List.getElem?_append_left hi]; exact h1) h2
    by_cases h : i < bs.length
    · rw [bsIn_lt h] at q
      cases hb : bs[i]? with
      | none => rw [List.getElem?_eq_none_iff] at hb; omega
      | some b =>
        rw [hb] at q
        exact q.shrink (Nat.le_trans (hbd i b hb) hl)
    · rw [bsIn_mid (by omega) hi] at q
      rw [List.getElem?_eq_none_iff.mpr (by omega)]
      exact q.shrink (Nat.le_refl _)
  · obtain ⟨h1, h2⟩ := M.tt a ha
    exact ⟨fun z => h1 (List.mem_append_left _ z), h2⟩
theorem Ex.drop {r : List Addr} (e : Ex m H (m ++ r) H') : Ex m H m H' := ⟨⟨[], by simp⟩, e.keep, fun a h n => absurd h n⟩
/-- frozen -/
theorem frz_ok {r : List Addr} {cs : List Nat} (M : Me K fa cs t (m ++ r) H' μ') : ∀ (k : Nat),
    (∀ (u w : U) (v : V), frz m.length μ' k u = some w → Rp K fa t (m ++ r) (m ++ r).length H' u v → Rp K fa t m m.length H' w v) ∧
    (∀ (us ws : List U) (vs : List V), mapO (frz m.length μ' k) us = some ws → RpA K fa t (m ++ r) (m ++ r).length H' us vs → RpA K fa t m m.length H' ws vs) := by
  intro k
  induction k with
  | zero =>
    have one : ∀ (u w : U) (v : V), frz m.length μ' 0 u = some w → Rp K fa t (m ++ r) (m ++ r).length H' u v → Rp K fa t m m.length H' w v := by
      intro u w v e q
      cases q with
      | non => simp [frz] at e; subst e; exact .non
      | bl b => simp [frz] at e; subst e; exact .bl b
      | int b => simp [frz] at e; subst e; exact .int b
      | str b => simp [frz] at e; subst e; exact .str b
      | fn h => simp [frz] at e; subst e; exact .fn h
      | scr h => simp [frz] at e; subst e; exact .scr (h.elim (fun q => .inl ⟨q.1, fun z => q.2.1 (List.mem_append_left _ z), q.2.2⟩) .inr)
      | tup => simp [frz] at e
      | lst => simp [frz] at e
      | dK => simp [frz] at e
      | dT => simp [frz] at e
      | ob => simp [frz] at e
    refine ⟨one, fun us => ?_⟩
    induction us with
    | nil => intro ws vs e q; cases e; cases q; exact .nil
    | cons u us ih =>
      intro ws vs e q
      obtain ⟨z, zs, e1, e2, rfl⟩ := mapO_cons e
      cases q with
      | cons a b => exact .cons (one _ _ _ e1 a) (ih _ _ e2 b)
  | succ k ih0 =>
    obtain ⟨ih1, ih2⟩ := ih0
    have one : ∀ (u w : U) (v : V), frz m.length μ' (k + 1) u = some w → Rp K fa t (m ++ r) (m ++ r).length H' u v → Rp K fa t m m.length H' w v := by
      intro u w v e q
      cases q with
      | non => simp [frz] at e; subst e; exact .non
      | bl b => simp [frz] at e; subst e; exact .bl b
      | int b => simp [frz] at e; subst e; exact .int b
      | str b => simp [frz] at e; subst e; exact .str b
      | fn h => simp [frz] at e; subst e; exact .fn h
      | scr h => simp [frz] at e; subst e; exact .scr (h.elim (fun q => .inl ⟨q.1, fun z => q.2.1 (List.mem_append_left _ z), q.2.2⟩) .inr)
      | tup f ra =>
        simp only [frz] at e
        split at e
        · rename_i ys e2
          cases e
          exact .tup ⟨f.1, fun z => f.2.1 (List.mem_append_left _ z), f.2.2⟩ (ih2 _ _ _ e2 ra)
        · cases e
      | lst f ra =>
        simp only [frz] at e
        split at e
        · rename_i ys e2
          cases e
          exact .lst ⟨f.1, fun z => f.2.1 (List.mem_append_left _ z), f.2.2⟩ (ih2 _ _ _ e2 ra)
        · cases e
      | dK f g h ra =>
        simp only [frz] at e
        split at e
        · rename_i ys e2
          cases e
          exact .dK f (fun z => g (List.mem_append_left _ z)) h (ih2 _ _ _ e2 ra)
        · cases e
      | dT f g h ra =>
        simp only [frz] at e
        split at e
        · rename_i ys e2
          cases e
          exact .dT f (fun z => g (List.mem_append_left _ z)) h (ih2 _ _ _ e2 ra)
        · cases e
      | @ob i a hi ha =>
        simp only [frz] at e
        split at e
        · rename_i hlt
          cases e
          exact .ob hlt (by rw [List.getElem?_append_left hlt] at ha; exact ha)
        · rename_i hge
          have key : ∀ o, μ'[i]? = some o → a ∉ m ∧ a ∉ t ∧ Ct K fa t (m ++ r) (m ++ r).length H' a o := by
            intro o e2
            obtain ⟨a', ea, hm2, c⟩ := M.objF (.ob hi ha) e2
            cases ea
            refine ⟨fun z => ?_, fun z => (M.tt a z).1 (List.mem_of_getElem? hm2), c⟩
            have nd := M.nd
            rw [List.nodup_append] at nd
            rw [List.getElem?_append_right (by omega)] at ha
            exact nd.2.2 a z a (List.mem_of_getElem? ha) rfl
          split at e
          · rename_i xs e2
            obtain ⟨nm, nt, c⟩ := key _ e2
            split at e
            · rename_i ys e3
              cases e
              cases c with
              | lst hH ra => exact .lst ⟨hH, nm, nt⟩ (ih2 _ _ _ e3 ra)
            · cases e
          · rename_i ks xs e2
            obtain ⟨nm, nt, c⟩ := key _ e2
            split at e
            · rename_i ys e3
              cases e
              cases c with
              | dK hH ra => exact .dK hH nm nt (ih2 _ _ _ e3 ra)
            · cases e
          · rename_i ks xs e2
            obtain ⟨nm, nt, c⟩ := key _ e2
            split at e
            · rename_i ys e3
              cases e
              cases c with
              | dT hH ra => exact .dT hH nm nt (ih2 _ _ _ e3 ra)
            · cases e
          · cases e
    refine ⟨one, fun us => ?_⟩
    induction us with
    | nil => intro ws vs e q; cases e; cases q; exact .nil
    | cons u us ih =>
      intro ws vs e q
      obtain ⟨z, zs, e1, e2, rfl⟩ := mapO_cons e
      cases q with
      | cons a b => exact .cons (one _ _ _ e1 a) (ih _ _ e2 b)

theorem fin_ok {keep : Bool} {w u : U} {μ1 : Mu} {Q : VK} (M : Me K fa bs t m H μ) (kk : Kn K fa bs t m H u μ' Q) (ev : finish keep μ.length w μ1 = some (u, μ')) {m1 : List Addr} {H1 : Hp} {v : V} (x : Ex m H m1 H1) (M1 : Me K fa (bsIn bs m.length) t m1 H1 μ1) (r : Rp K fa t m1 m1.length H1 w v) : Q v H1 := by
  unfold finish at ev
  split at ev
  · cases ev
    exact kk m1 H1 v x (Me.leave M.low M.bd M1) r
  · split at ev
    · rename_i z e
      cases ev
      obtain ⟨rr, rfl⟩ := x.pre
      rw [← M.len] at e
      exact kk m H1 v x.drop (by rw [← M.len]; exact M1.drop M.low M.bd) ((frz_ok M1 D0).1 w _ v e r)
    · cases ev
end

/-! ### the defs -/
/-- a def of the program, its names (the parameters first), its form in our language -/
structure Pd where
  glob : Str
  name : Str
  st : Stmt
  names : List Str
  params : List Str
  df : Df
/-- what is seen of a def's text alone -/
def pdC (G : Gd) (d : Pd) : Bool :=
  C8.scC d.names d.params (defScope d.st) && chkB G d.names (defScope d.st) (defScope d.st) d.df.body (defBody d.st) && decide (d.names.length = d.df.ns) && decide (d.params.length = d.df.ps)
/-- what is seen of the written part -/
structure PdOk (K : PySem.W.Frag) (G : Gd) (i : Nat) (d : Pd) : Prop where
  ex : ∃ f fd, FunD K d.name d.name (defArgs d.st) (defBody d.st) (defScope d.st) [] [] f fd ∧ G.fa i = some f ∧ PySem.W.keepIn K (.ref f) = true ∧ Binds K fd d.params []
structure GdOk (K : PySem.W.Frag) (mg : Str → Option Value) (G : Gd) (pd : List Pd) : Prop where
  defs : ∀ i d, pd[i]? = some d → PdOk K G i d
  fns : ∀ x i, G.fns.lookup x = some i → i < pd.length ∧ ∃ f, mg x = some (.ref f) ∧ G.fa i = some f
  nums : ∀ x i, G.nums.lookup x = some i → ∃ t, mg x = some (.int i t)
  bns : ∀ x, x ∈ G.bns → mg x = none
section
variable {P : Program} {w : World} {K : PySem.W.Frag} {mg : Str → Option Value} {base : Heap} {G : Gd} {pd : List Pd}
theorem start_ok {fa : Nat → Option Addr} {t m : List Addr} {H : Hp} {N : List Str} {us : List U} {vs : List V} {ns ps : Nat} (ra : RpA K fa t m m.length H us vs) (hn : N.length = ns) (hp : us.length = ps) (hle : ps ≤ ns) : EnvR K fa t m H (us.map some ++ List.replicate (ns - ps) none) (L2.start N vs) := by
  have hl := ra.length
  refine ⟨by simp [L2.start]; omega, fun i u h => ?_⟩
  by_cases hi : i < us.length
  · rw [List.getElem?_append_left (by simpa using hi), List.getElem?_map] at h
    cases e : us[i]? with
    | none => rw [e] at h; cases h
    | some u' =>
      rw [e] at h
      cases h
      obtain ⟨v, hv, r⟩ := ra.get e
      refine ⟨v, ?_, r⟩
      unfold L2.start
      rw [List.getElem?_append_left (by rw [List.length_map, ← hl]; exact hi), List.getElem?_map, hv]
      rfl
  · rw [List.getElem?_append_right (by simpa using Nat.le_of_not_lt hi), List.getElem?_replicate] at h
    split at h <;> cases h
theorem lev (GO : GdOk K mg G pd) (hC : ∀ d ∈ pd, pdC G d = true) : ∀ (k i : Nat) (d : Pd), pd[i]? = some d →
    ∃ f fd, G.fa i = some f ∧ PySem.W.keepIn K (.ref f) = true ∧ Binds K fd d.params [] ∧ FnOk P w K mg base C8.CX0 k f fd d.params (spU K G.fa (runF (pd.map (·.df)) k) i) ∧ FunD K d.name d.name (defArgs d.st) (defBody d.st) (defScope d.st) [] [] f fd := by
  intro k
  induction k with
  | zero =>
    intro i d hd
    obtain ⟨f, fd, F, hf, kp, hb⟩ := (GO.defs i d hd).ex
    refine ⟨f, fd, hf, kp, hb, ⟨fun vs H Q E h => ?_, fun A outer s H args us vs Q E hr he hb hv h => ?_⟩, F⟩
    · obtain ⟨t, bs, m, μ, us, u, μ', M, ra, ev, kk⟩ := h
      simp [runF] at ev
    · obtain ⟨t, bs, m, μ, us, u, μ', M, ra, ev, kk⟩ := h
      simp [runF] at ev
  | succ k ih =>
    intro i d hd
    obtain ⟨f, fd, F, hf, kp, hb⟩ := (GO.defs i d hd).ex
    have hc := hC d (List.mem_of_getElem? hd)
    unfold pdC at hc
    simp only [Bool.and_eq_true, decide_eq_true_eq] at hc
    obtain ⟨⟨⟨c1, c2⟩, c3⟩, c4⟩ := hc
    have S := C8.fnScope_by c1
    have hdf : (pd.map (·.df))[i]? = some d.df := by rw [List.getElem?_map, hd]; rfl
    have hle : d.df.ps ≤ d.df.ns := by
      have := congrArg List.length S.pre
      rw [List.length_take] at this
      omega
    have step : ∀ {us : List U} {μ μ' : Mu} {u : U}, runF (pd.map (·.df)) (k + 1) i us μ = some (u, μ') → us.length = d.df.ps ∧ ∃ o, exL (runF (pd.map (·.df)) k) μ.length d.df.body (us.map some ++ List.replicate (d.df.ns - d.df.ps) none) μ = some o ∧
        ((∃ z μ1, o = .rt z μ1 ∧ finish d.df.keep μ.length z μ1 = some (u, μ')) ∨ ∃ σ μ1, o = .nx σ μ1 ∧ finish d.df.keep μ.length .non μ1 = some (u, μ')) := by
      intro us μ μ' u ev
      simp only [runF, hdf] at ev
      split at ev
      · rename_i hl
        refine ⟨hl, ?_⟩
        split at ev
        · rename_i z μ1 e; exact ⟨_, e, .inl ⟨z, μ1, rfl, ev⟩⟩
        · rename_i σ μ1 e; exact ⟨_, e, .inr ⟨σ, μ1, rfl, ev⟩⟩
        · cases ev
      · cases ev
    refine ⟨f, fd, hf, kp, hb, FunD.ok F S (fun vs H Q E h => ?_) (fun cdv A outer s H vs Q E hr h => ?_), F⟩
    · obtain ⟨t, bs, m, μ, us, u, μ', M, ra, ev, kk⟩ := h
      rw [← ra.length, (step ev).1, c4]
    · obtain ⟨t, bs, m, μ, us, u, μ', M, ra, ev, kk⟩ := h
      obtain ⟨hl, o, eo, ho⟩ := step ev
      have ok : Ok G (runF (pd.map (·.df)) k) k d.names (defScope d.st) (defScope d.st) (cxOf C8.CX0 P w K mg base d.names d.name (defScope d.st) f cdv A outer s H E).nox :=
        { calm := rfl, nm := rfl, nd := S.nd, sc := rfl, fn := fun _ _ => rfl, room := hr, own := PassesOwn.never, nums := GO.nums, bns := GO.bns,
          calls := fun x j e => by
            obtain ⟨hj, g, hg, hgf⟩ := GO.fns x j e
            obtain ⟨g', fd', h1, h2, h3, h4, _⟩ := ih j pd[j] (List.getElem?_eq_getElem hj)
            rw [hgf] at h1
            cases h1
            exact ⟨g, fd', _, hg, hgf, h2, h3, h4⟩ }
      refine ⟨_, PSs.nox (okB (n0 := μ.length) ok S.kind d.df.body _ c2), ?_⟩
      refine ⟨t, bsIn bs m.length, m, _, μ, o, by rw [bsIn_len M.low, M.len], start_ok ra c3 hl hle, M.enter, eo, ?_⟩
      rcases ho with ⟨z, μ1, rfl, ef⟩ | ⟨σ, μ1, rfl, ef⟩
      · exact fun m1 H1 v x M1 r => fin_ok M kk ef x M1 r
      · exact fun m1 H1 σV x M1 _ => fin_ok M kk ef x M1 .non

/-! ### the end -/
/-- the arguments of a call are bound in their order -/
def BdOk (d : Pd) : Prop := ∀ (kV doc pm : Value) (an : Option Addr) (cdv ct : Value) (us : List Value), us.length = d.params.length → bindArgs (PySem.W.fnOf d.name d.name (defArgs d.st) (defBody d.st) (defScope d.st) .none kV doc pm an cdv ct) ⟨us, []⟩ = pure (d.params.zip us)
def BdAll : List Pd → Prop
  | [] => True
  | d :: ds => BdOk d ∧ BdAll ds
theorem BdAll.at_ : ∀ {ds : List Pd} {i : Nat} {d : Pd}, BdAll ds → ds[i]? = some d → BdOk d
  | [], _, _, _, h => by simp at h
  | d :: ds, 0, _, h, e => by simp at e; subst e; exact h.1
  | d :: ds, i + 1, _, h, e => h.2.at_ (by simpa using e)
def fnD (pd : List Pd) : List He.DefD := pd.map fun d => ⟨(d.glob, none), d.name, d.name, defArgs d.st, defBody d.st, defScope d.st, [], []⟩
def factsOf (fns : List (Str × Nat)) (nums : List (Str × Int)) (bns : List Str) : List He.Fa := fns.map (fun p => .glo p.1) ++ (nums.map (fun p => .int p.1 p.2) ++ bns.map .free)
def gdOf (K : PySem.W.Frag) (pd : List Pd) (fns : List (Str × Nat)) (nums : List (Str × Int)) (bns : List Str) : Gd := ⟨fun i => (pd[i]?).map fun d => He.ga K d.glob, fns, nums, bns⟩
theorem lookup_mem {α : Type} : ∀ {l : List (Str × α)} {x : Str} {a : α}, l.lookup x = some a → (x, a) ∈ l
  | [], _, _, h => by simp at h
  | (y, b) :: l, x, a, h => by
    rw [List.lookup_cons] at h
    cases e : x == y with
    | true =>
      rw [e] at h
      cases h
      rw [beq_iff_eq.mp e]
      exact List.mem_cons_self
    | false =>
      rw [e] at h
      exact List.mem_cons_of_mem _ (lookup_mem h)
theorem gd_ok {h : Heap} {fns : List (Str × Nat)} {nums : List (Str × Int)} {bns : List Str} (X : K.In h) (Gm : h.Ns mainGlobals mg) (c : He.SaysD (factsOf fns nums bns) (fnD pd) K) (hb : BdAll pd) (hf : fns.all (fun p => decide ((pd[p.2]?).map (·.glob) = some p.1)) = true) :
    GdOk K mg (gdOf K pd fns nums bns) pd := by
  have fact : ∀ f ∈ factsOf fns nums bns, f.ok K = true := fun f hf => by
    obtain ⟨i, hi⟩ := List.mem_iff_getElem?.mp hf
    exact c.fact i hi
  refine ⟨fun i d hd => ?_, fun x i e => ?_, fun x i e => ?_, fun x e => ?_⟩
  · have hi : (fnD pd)[i]? = some ⟨(d.glob, none), d.name, d.name, defArgs d.st, defBody d.st, defScope d.st, [], []⟩ := by
      unfold fnD
      rw [List.getElem?_map, hd]
      rfl
    obtain ⟨fd, F⟩ := c.def_ i hi
    exact ⟨_, fd, F, by show (pd[i]?).map _ = _; rw [hd]; rfl, F.kp, F.bindsN (hb.at_ hd)⟩
  · have hm := lookup_mem e
    have h1 := List.all_eq_true.mp hf (x, i) hm
    have h2 : (pd[i]?).map (·.glob) = some x := of_decide_eq_true h1
    cases hd : pd[i]? with
    | none => rw [hd] at h2; cases h2
    | some d =>
      rw [hd] at h2
      have h3 : d.glob = x := Option.some.inj h2
      refine ⟨(List.getElem?_eq_some_iff.mp hd).1, He.ga K x, He.glo_ok X Gm (fact (.glo x) ?_), ?_⟩
      · unfold factsOf
        exact List.mem_append_left _ (List.mem_map.mpr ⟨(x, i), hm, rfl⟩)
      · show (pd[i]?).map _ = _
        rw [hd, ← h3]
        rfl
  · refine He.int_ok X Gm (fact (.int x i) ?_)
    unfold factsOf
    exact List.mem_append_right _ (List.mem_append_left _ (List.mem_map.mpr ⟨(x, i), lookup_mem e, rfl⟩))
  · refine He.free_ok X Gm (fact (.free x) ?_)
    unfold factsOf
    exact List.mem_append_right _ (List.mem_append_right _ (List.mem_map.mpr ⟨x, e, rfl⟩))
def spLaw (K : PySem.W.Frag) : Sp := fun vs H Q _ => ∃ (a : Addr) (ns : List Int), vs = [.ref a] ∧ SqL K H a (ns.map V.int) ∧ ns.length ≤ 63 ∧ ∀ H', Q (.bl true) H'
/-- the law, from what our evaluator says -/
theorem law_ok {fns : List (Str × Nat)} {nums : List (Str × Int)} {bns : List Str} {L k : Nat} {h : Heap} {f : Addr} (X : K.In h) (Gm : h.Ns mainGlobals mg) (c : He.SaysD (factsOf fns nums bns) (fnD pd) K) (hb : BdAll pd) (hf : fns.all (fun p => decide ((pd[p.2]?).map (·.glob) = some p.1)) = true)
    (hC : ∀ fa : Nat → Option Addr, pd.all (pdC ⟨fa, fns, nums, bns⟩) = true) {d : Pd} (hd : pd[L]? = some d) (hp : d.params = [("script" : Str)]) (hg : d.glob = "law") (hl : fns.lookup ("law" : Str) = some L) (hfa : mg ("law" : Str) = some (.ref f))
    (law : ∀ ns : List Int, ns.length ≤ 63 → ∃ μ, runF (pd.map (·.df)) k L [.scr ns] [] = some (.bl true, μ)) :
    ∃ fd : FuncData, (∀ (s : Shared) (v : Value), BindsTo s fd ⟨[v], []⟩ [("script", v)]) ∧ ∀ base : Heap, K.In base → base.Ns mainGlobals mg → FnOk P w K mg base C8.CX0 k f fd ["script"] (spLaw K) := by
  have GO := gd_ok X Gm c hb hf
  obtain ⟨f0, fd, F, hfa0, kp, hbi⟩ := (GO.defs L d hd).ex
  obtain ⟨_, f1, e1, e2⟩ := GO.fns _ _ hl
  rw [hfa] at e1
  cases e1
  rw [hfa0] at e2
  cases e2
  refine ⟨fd, fun s v => ?_, fun base _ _ => ?_⟩
  · have := FunD.bindsA (ps := d.params) F (hb.at_ hd) s [v] (by rw [hp]; rfl)
    rw [hp] at this
    exact this
  · obtain ⟨f2, fd2, h1, h2, h3, h4, F2⟩ := lev (P := P) (w := w) (base := base) GO (fun d hd => List.all_eq_true.mp (hC _) d hd) k L d hd
    rw [hfa0] at h1
    cases h1
    have efd : fd2 = fd := by
      obtain ⟨oc, od, dV, kV, doc, pm, an, cdv, ct, osl, e1, lk, _⟩ := F.ex
      obtain ⟨oc', od', dV', kV', doc', pm', an', cdv', ct', osl', e1', lk', _⟩ := F2.ex
      rw [lk] at lk'
      cases lk'
      rfl
    subst efd
    rw [hp] at h4
    refine h4.imp fun vs H Q E q => ?_
    obtain ⟨a, ns, rfl, hS, hn, hQ⟩ := q
    obtain ⟨μ', e⟩ := law ns hn
    refine ⟨[], [], [], [], [.scr ns], .bl true, μ', ⟨rfl, Nat.le_refl _, List.nodup_nil, fun i a o h => by simp at h, fun i b h => by simp at h, fun a h => by simp at h⟩, .one (.scr ?_), e, fun m' H' v x M r => ?_⟩
    · rcases hS with hS | hS
      · exact .inl ⟨hS, by simp, by simp⟩
      · exact .inr hS
    · cases r
      exact hQ H'
end
end R

set_option Elab.async false
set_option linter.all false
set_option maxRecDepth 100000
set_option maxHeartbeats 4000000
/-! M0: the evaluator's loops and parts, for the mathematics of the laws -/
namespace R
open PySem L2

abbrev I (n : Nat) : U := .int (n : Int)
/-! ### turns -/
theorem compL_all {α : Type} {step : U → Mu → Option (Option U × Mu)} {enc g : α → U} {μ : Mu} : ∀ {xs : List α} {acc : List U}, (∀ x ∈ xs, step (enc x) μ = some (some (g x), μ)) → acc.length + xs.length ≤ SZ → compL step (xs.map enc) acc μ = some (acc ++ xs.map g, μ)
  | [], acc, _, _ => by simp [compL]
  | x :: xs, acc, h, hl => by
    simp only [List.map_cons, compL]
    rw [h x (by simp)]
    simp only
    rw [if_pos (by simp at hl; omega), compL_all (fun y hy => h y (by simp [hy])) (by simp at hl ⊢; omega)]
    simp
theorem compL_filter {α : Type} {step : U → Mu → Option (Option U × Mu)} {enc g : α → U} {p : α → Bool} {μ : Mu} : ∀ {xs : List α} {acc : List U}, (∀ x ∈ xs, step (enc x) μ = some (if p x then some (g x) else none, μ)) → acc.length + xs.length ≤ SZ → compL step (xs.map enc) acc μ = some (acc ++ (xs.filter p).map g, μ)
  | [], acc, _, _ => by simp [compL]
  | x :: xs, acc, h, hl => by
    simp only [List.map_cons, compL]
    rw [h x (by simp)]
    cases hp : p x with
    | true =>
      simp only [if_true]
      rw [if_pos (by simp at hl; omega), compL_filter (fun y hy => h y (by simp [hy])) (by simp at hl ⊢; omega)]
      simp [hp]
    | false =>
      simp only [Bool.false_eq_true, if_false]
      rw [compL_filter (fun y hy => h y (by simp [hy])) (by simp at hl ⊢; omega)]
      simp [hp]
theorem compL_ex {step : U → Mu → Option (Option U × Mu)} {Inv : Mu → Prop} {P : U → U → Prop} : ∀ {xs : List U} {acc : List U} {μ : Mu}, Inv μ → (∀ x ∈ xs, ∀ μ, Inv μ → ∃ y μ', step x μ = some (some y, μ') ∧ Inv μ' ∧ P x y) → acc.length + xs.length ≤ SZ →
    ∃ ys μ', compL step xs acc μ = some (acc ++ ys, μ') ∧ Inv μ' ∧ ys.length = xs.length ∧ ∀ y ∈ ys, ∃ x ∈ xs, P x y
  | [], acc, μ, h, _, _ => ⟨[], μ, by simp [compL], h, rfl, by simp⟩
  | x :: xs, acc, μ, h, hs, hl => by
    obtain ⟨y, μ1, e, h1, p⟩ := hs x (by simp) μ h
    obtain ⟨ys, μ2, e2, h2, l2, p2⟩ := compL_ex (xs := xs) (acc := acc ++ [y]) h1 (fun z hz => hs z (by simp [hz])) (by simp at hl ⊢; omega)
    refine ⟨y :: ys, μ2, ?_, h2, by simp [l2], fun z hz => ?_⟩
    · simp only [compL]
      rw [e]
      simp only
      rw [if_pos (by simp at hl; omega), e2]
      simp
    · rcases List.mem_cons.mp hz with e | e
      · subst e; exact ⟨x, by simp, p⟩
      · obtain ⟨w, hw, q⟩ := p2 z e
        exact ⟨w, by simp [hw], q⟩
theorem forL_inv {step : U → Env → Mu → Option Out} (P : Nat → Env → Mu → Prop) : ∀ {xs : List U} {k : Nat} {σ : Env} {μ : Mu}, P k σ μ → (∀ i x σ μ, xs[i]? = some x → P (k + i) σ μ → ∃ σ' μ', (step x σ μ = some (.nx σ' μ') ∨ step x σ μ = some (.ct σ' μ')) ∧ P (k + i + 1) σ' μ') →
    ∃ σ' μ', forL step xs σ μ = some (.nx σ' μ') ∧ P (k + xs.length) σ' μ'
  | [], k, σ, μ, h, _ => ⟨σ, μ, by simp [forL], h⟩
  | x :: xs, k, σ, μ, h, hs => by
    obtain ⟨σ1, μ1, e, h1⟩ := hs 0 x σ μ rfl h
    obtain ⟨σ2, μ2, e2, h2⟩ := forL_inv (P := P) (k := k + 1) h1 fun i y σ μ hy hp => by
      have := hs (i + 1) y σ μ (by simpa using hy) (by have e : k + (i + 1) = k + 1 + i := by omega
                                                       rw [e]; exact hp)
      have e : k + (i + 1) + 1 = k + 1 + i + 1 := by omega
      rw [e] at this
      exact this
    refine ⟨σ2, μ2, ?_, ?_⟩
    · simp only [forL]
      rcases e with e | e <;> rw [e] <;> exact e2
    · have e : k + (x :: xs).length = k + 1 + xs.length := by simp; omega
      rw [e]; exact h2
theorem forL_inv0 {step : U → Env → Mu → Option Out} (P : Nat → Env → Mu → Prop) {xs : List U} {σ : Env} {μ : Mu} (h : P 0 σ μ) (hs : ∀ i x σ μ, xs[i]? = some x → P i σ μ → ∃ σ' μ', (step x σ μ = some (.nx σ' μ') ∨ step x σ μ = some (.ct σ' μ')) ∧ P (i + 1) σ' μ') :
    ∃ σ' μ', forL step xs σ μ = some (.nx σ' μ') ∧ P xs.length σ' μ' := by
  have := forL_inv P (xs := xs) (k := 0) (σ := σ) (μ := μ) h fun i x σ μ hx hp => by
    have e : 0 + i = i := Nat.zero_add i
    rw [e] at hp ⊢
    exact hs i x σ μ hx hp
  rw [Nat.zero_add] at this
  exact this
/-- a walk over a mutable list that stays as it is -/
theorem forV_inv {step : U → Env → Mu → Option Out} {i : Nat} {xs : List U} (P : Nat → Env → Mu → Prop) (hP : ∀ k σ μ, P k σ μ → μ[i]? = some (.lst xs)) : ∀ {f k : Nat} {σ : Env} {μ : Mu}, P k σ μ → k ≤ xs.length → xs.length - k < f → (∀ k x σ μ, xs[k]? = some x → P k σ μ → ∃ σ' μ', (step x σ μ = some (.nx σ' μ') ∨ step x σ μ = some (.ct σ' μ')) ∧ P (k + 1) σ' μ') →
    ∃ σ' μ', forV step i f k σ μ = some (.nx σ' μ') ∧ P xs.length σ' μ'
  | 0, k, σ, μ, h, hk, hf, _ => by omega
  | f + 1, k, σ, μ, h, hk, hf, hs => by
    simp only [forV]
    rw [hP k σ μ h]
    simp only
    by_cases hlt : k < xs.length
    · rw [List.getElem?_eq_getElem hlt]
      simp only
      obtain ⟨σ1, μ1, e, h1⟩ := hs k xs[k] σ μ (List.getElem?_eq_getElem hlt) h
      obtain ⟨σ2, μ2, e2, h2⟩ := forV_inv P hP (f := f) (k := k + 1) h1 hlt (by omega) hs
      refine ⟨σ2, μ2, ?_, h2⟩
      rcases e with e | e <;> rw [e] <;> exact e2
    · have e : k = xs.length := by omega
      subst e
      rw [List.getElem?_eq_none_iff.mpr (Nat.le_refl _)]
      exact ⟨σ, μ, rfl, h⟩
theorem whL_inv {cond : Env → Mu → Option (Bool × Mu)} {body : Env → Mu → Option Out} (P : Nat → Env → Mu → Prop) (D : Env → Mu → Prop)
    (hs : ∀ m σ μ, P m σ μ → (∃ μ', cond σ μ = some (false, μ') ∧ D σ μ') ∨ ∃ μ1 σ' μ', cond σ μ = some (true, μ1) ∧ (body σ μ1 = some (.nx σ' μ') ∨ body σ μ1 = some (.ct σ' μ')) ∧ ∃ m', m' < m ∧ P m' σ' μ') :
    ∀ {f m : Nat} {σ : Env} {μ : Mu}, P m σ μ → m < f → ∃ σ' μ', whL cond body f σ μ = some (.nx σ' μ') ∧ D σ' μ'
  | 0, m, σ, μ, h, hf => by omega
  | f + 1, m, σ, μ, h, hf => by
    simp only [whL]
    rcases hs m σ μ h with ⟨μ', e, d⟩ | ⟨μ1, σ', μ', e, b, m', hm, h'⟩
    · rw [e]
      exact ⟨σ, μ', rfl, d⟩
    · rw [e]
      simp only
      obtain ⟨σ2, μ2, e2, d⟩ := whL_inv P D hs (f := f) h' (by omega)
      refine ⟨σ2, μ2, ?_, d⟩
      rcases b with b | b <;> rw [b] <;> exact e2
/-! ### lists of ints -/
theorem dat_int (μ : Mu) (k : Nat) (i : Int) : dat μ k (.int i) = some (.int i) := by cases k <;> rfl
theorem mapO_map {α β γ : Type} {f : β → Option γ} {g : α → β} {h : α → γ} : ∀ {xs : List α}, (∀ x ∈ xs, f (g x) = some (h x)) → mapO f (xs.map g) = some (xs.map h)
  | [], _ => rfl
  | x :: xs, hh => by
    simp only [List.map_cons, mapO]
    rw [hh x (by simp), mapO_map fun y hy => hh y (by simp [hy])]
theorem mapO_ints (μ : Mu) (k : Nat) (ns : List Int) : mapO (dat μ k) (ns.map U.int) = some (ns.map PyData.int) := mapO_map fun x _ => dat_int μ k x
theorem mapO_asInt (ns : List Int) : mapO asInt (ns.map U.int) = some ns := by
  have := mapO_map (f := asInt) (g := U.int) (h := id) (xs := ns) fun x _ => rfl
  simpa using this
theorem srtd_ints (μ : Mu) (ns : List Int) (h : ns.length ≤ SZ) : srtd μ (ns.map U.int) = some ((ns.mergeSort fun a b => decide (a ≤ b)).map U.int) := by
  unfold srtd
  rw [mapO_ints]
  simp only
  rw [if_pos]
  · congr 1
    have e : (ns.map U.int).zip (ns.map PyData.int) = ns.map fun i => (U.int i, PyData.int i) := List.zip_map'
    rw [e, ← List.map_mergeSort (r := fun a b => decide (a ≤ b)) (s := PySem.W.dataLe false Prod.snd) (f := fun i => (U.int i, PyData.int i))]
    · rw [List.map_map]; rfl
    · intro a _ b _
      show _ = !PySem.W.dataLt (.int b) (.int a)
      rw [PySem.W.dataLt_int]
      by_cases hab : a ≤ b
      · simp [hab]
      · simp [hab]; omega
  · simp only [Bool.and_eq_true, decide_eq_true_eq, Bool.or_eq_true, List.all_eq_true]
    refine ⟨⟨fun d hd e he => ?_, .inr fun d hd => ?_⟩, by simpa using h⟩
    · obtain ⟨i, _, rfl⟩ := List.mem_map.mp hd
      obtain ⟨j, _, rfl⟩ := List.mem_map.mp he
      rfl
    · obtain ⟨i, _, rfl⟩ := List.mem_map.mp hd
      rfl
theorem atI_of {α : Type} {xs : List α} {j : Nat} {v : α} (h : xs[j]? = some v) : atI xs (j : Int) = some v := atI_nat h
theorem nodup_lt {n : Nat} : ∀ {l : List Nat}, l.Nodup → (∀ x ∈ l, x < n) → l.length ≤ n := by
  induction n with
  | zero =>
    intro l _ h
    cases l with
    | nil => simp
    | cons x l => exact absurd (h x (by simp)) (by omega)
  | succ n ih =>
    intro l nd h
    by_cases hm : n ∈ l
    · have h1 := List.length_erase_of_mem hm
      have h2 := ih (nd.erase n) fun x hx => by
        have h3 := h x (List.mem_of_mem_erase hx)
        have h4 : x ≠ n := fun e => by
          subst e
          exact (List.Nodup.not_mem_erase nd) hx
        omega
      have : 0 < l.length := List.length_pos_of_mem hm
      omega
    · have h2 := ih nd fun x hx => by
        have h3 := h x hx
        have h4 : x ≠ n := fun e => hm (e ▸ hx)
        omega
      omega
/-! ### dicts whose keys are numbers -/
abbrev kI (n : Nat) : Key := .inl (n : Int)
theorem lk_map {f : Nat → U} {h : Nat} : ∀ {ks : List Nat}, h ∈ ks → lk (ks.map kI) (ks.map f) (kI h) = some (f h)
  | [], hm => by simp at hm
  | k :: ks, hm => by
    simp only [List.map_cons, lk]
    by_cases e : k = h
    · subst e; simp
    · rw [if_neg (by intro z; injection z with z; exact e (by omega))]
      exact lk_map (by rcases List.mem_cons.mp hm with z | z; exact absurd z.symm e; exact z)
theorem lk_none {f : Nat → U} {h : Nat} : ∀ {ks : List Nat}, h ∉ ks → lk (ks.map kI) (ks.map f) (kI h) = none
  | [], _ => rfl
  | k :: ks, hm => by
    simp only [List.map_cons, lk]
    rw [if_neg (by intro z; injection z with z; exact hm (by simp; left; omega))]
    exact lk_none fun z => hm (by simp [z])
theorem kI_mem {h : Nat} {ks : List Nat} : kI h ∈ ks.map kI ↔ h ∈ ks := by
  constructor
  · intro z
    obtain ⟨x, hx, e⟩ := List.mem_map.mp z
    injection e with e
    have : x = h := by omega
    exact this ▸ hx
  · exact fun z => List.mem_map.mpr ⟨h, z, rfl⟩
/-! ### rules for comprehensions and loops -/
section
variable (cal : Nat → List U → Mu → Option (U × Mu)) (n0 : Nat)
def cstep (p : Pt) (c e : E) (ws : List Nat) (σ : Env) : U → Mu → Option (Option U × Mu) := fun x μ => match bindP μ p x (wipeE σ ws) with
  | some σ' => match evalE cal n0 c σ' μ with
    | some (t, μ) => match truth μ t with
      | some true => match evalE cal n0 e σ' μ with
        | some (y, μ) => some (some y, μ)
        | none => none
      | some false => some (none, μ)
      | none => none
    | none => none
  | none => none
def fstep (p : Pt) (b : List S) : U → Env → Mu → Option Out := fun x σ μ => match bindP μ p x σ with
  | some σ => exL cal n0 b σ μ
  | none => none
def wcond (c : E) : Env → Mu → Option (Bool × Mu) := fun σ μ => match evalE cal n0 c σ μ with
  | some (u, μ) => match truth μ u with
    | some t => some (t, μ)
    | none => none
  | none => none
variable {cal n0}
theorem ev_comp {al : Bool} {p : Pt} {ik : Ik} {its : List E} {c e : E} {ws : List Nat} {σ : Env} {μ μ1 μ2 : Mu} {us xs ys : List U} (h1 : evalL cal n0 its σ μ = some (us, μ1)) (h2 : walk μ1 ik us = some (.inl xs)) (h3 : compL (cstep cal n0 p c e ws σ) xs [] μ1 = some (ys, μ2)) :
    evalE cal n0 (.comp al p ik its c e ws) σ μ = some (fresh al (.lst ys) μ2) := by
  simp only [evalE, h1, h2]
  have e0 : (match compL (cstep cal n0 p c e ws σ) xs [] μ1 with
    | some (ys, μ) => some (fresh al (.lst ys) μ)
    | none => none) = some (fresh al (.lst ys) μ2) := by rw [h3]
  exact e0
theorem ex_for {p : Pt} {ik : Ik} {its : List E} {b : List S} {σ : Env} {μ μ1 : Mu} {us xs : List U} (h1 : evalL cal n0 its σ μ = some (us, μ1)) (h2 : walk μ1 ik us = some (.inl xs)) :
    exS cal n0 (.for_ p ik its b) σ μ = forL (fstep cal n0 p b) xs σ μ1 := by
  simp only [exS, h1, h2]
  rfl
theorem ex_forV {p : Pt} {ik : Ik} {its : List E} {b : List S} {σ : Env} {μ μ1 : Mu} {us : List U} {i : Nat} (h1 : evalL cal n0 its σ μ = some (us, μ1)) (h2 : walk μ1 ik us = some (.inr i)) :
    exS cal n0 (.for_ p ik its b) σ μ = forV (fstep cal n0 p b) i FU 0 σ μ1 := by
  simp only [exS, h1, h2]
  rfl
theorem ex_wh {c : E} {b : List S} {σ : Env} {μ : Mu} : exS cal n0 (.wh c b) σ μ = whL (wcond cal n0 c) (fun σ μ => exL cal n0 b σ μ) FU σ μ := by
  simp only [exS]
  rfl
end
theorem cutU_nil (lo : Option Int) (hi : Option Int) : cutU [] lo hi = [] := by simp [cutU]
theorem cutU_from (xs : List U) (a : Nat) : cutU xs (some a) none = xs.drop a := by
  unfold cutU
  rw [show HT.sIx xs.length 0 (some (a : Int)) = min a xs.length from HT.sIx_nat xs.length 0 a, HT.sIx_none]
  by_cases h : a ≤ xs.length
  · rw [Nat.min_eq_left h, List.take_of_length_le (by simp)]
  · rw [Nat.min_eq_right (show xs.length ≤ a by omega)]
    simp
    omega
theorem cutU_to (xs : List U) (b : Nat) : cutU xs none (some b) = xs.take b := by
  unfold cutU
  rw [show HT.sIx xs.length xs.length (some (b : Int)) = min b xs.length from HT.sIx_nat xs.length xs.length b, HT.sIx_none]
  simp
theorem cutU_fromto (xs : List U) (a b : Nat) : cutU xs (some a) (some b) = (xs.take b).drop a := by
  unfold cutU
  rw [show HT.sIx xs.length xs.length (some (b : Int)) = min b xs.length from HT.sIx_nat xs.length xs.length b, show HT.sIx xs.length 0 (some (a : Int)) = min a xs.length from HT.sIx_nat xs.length 0 a]
  rw [List.drop_take]
  by_cases h : a ≤ xs.length
  · rw [Nat.min_eq_left h]
    by_cases h2 : b ≤ xs.length
    · rw [Nat.min_eq_left h2]
    · rw [Nat.min_eq_right (show xs.length ≤ b by omega), List.take_of_length_le (by simp), List.take_of_length_le (by simp; omega)]
  · rw [Nat.min_eq_right (show xs.length ≤ a by omega)]
    have : xs.drop a = [] := List.drop_eq_nil_of_le (by omega)
    simp [this]
theorem all_bl (n : Nat) : mapO asBl (List.replicate n (U.bl true)) = some (List.replicate n true) := by
  induction n with
  | zero => rfl
  | succ n ih => simp [List.replicate_succ, mapO, ih, asBl]
theorem all_bls {α : Type} (l : List α) : mapO asBl (l.map fun _ => U.bl true) = some (l.map fun _ => true) := mapO_map fun _ _ => rfl
theorem rgn_nat (n : Nat) : rgn 0 (n : Int) = (List.range n).map I := by
  unfold rgn
  simp
theorem rgn_nats (a n : Nat) : rgn (a : Int) (n : Int) = (List.range (n - a)).map fun i => I (a + i) := by
  unfold rgn
  have : ((n : Int) - a).toNat = n - a := by omega
  rw [this]
  simp
theorem zip_enc {α β : Type} (f : α → U) (g : β → U) (xs : List α) (ys : List β) : zips (xs.map f) (ys.map g) = (xs.zip ys).map fun q => .tup [f q.1, g q.2] := by
  unfold zips
  rw [List.zip_map, List.map_map]
  rfl
/-! ### rules for stores -/
section
variable {cal : Nat → List U → Mu → Option (U × Mu)} {n0 : Nat} {σ : Env} {μ : Mu}
theorem ex_append {al : Bool} {a e : E} {i : Nat} {u : U} {xs : List U} (ha : evalE cal n0 a σ μ = some (.ob i, μ)) (he : evalE cal n0 e σ μ = some (u, μ)) (h : μ[i]? = some (.lst xs)) (hl : xs.length < SZ) (ho : n0 ≤ i) :
    exS cal n0 (.ex (.me al .append a [e])) σ μ = some (.nx σ (μ.set i (.lst (xs ++ [u])))) := by
  have o : okw n0 i u = true := by simp [okw, ho]
  simp only [exS, evalE, evalL, ha, he, okm, asL, h, Option.isSome, evMe]
  rw [if_pos ⟨hl, o⟩]
theorem ex_subK {a e j : E} {i : Nat} {u : U} {ks : List Key} {vs : List U} {v : U} {q : Key} (he : evalE cal n0 e σ μ = some (u, μ)) (ha : evalE cal n0 a σ μ = some (.ob i, μ)) (hj : evalE cal n0 j σ μ = some (v, μ)) (hq : sky v = some q) (h : μ[i]? = some (.dk ks vs)) (hl : ks.length < SZ) (ho : n0 ≤ i) :
    exS cal n0 (.sub a j e) σ μ = some (.nx σ (μ.set i (.dk (ptk ks q) (pt ks vs q u)))) := by
  have o : okw n0 i u = true := by simp [okw, ho]
  simp only [exS, ha, he, hj, storeSub, h, dput, hq]
  rw [if_pos hl]
  simp only
  rw [if_pos o]
theorem ex_subT {a e j : E} {i : Nat} {u : U} {ks : List (List Key)} {vs : List U} {v : U} {q : List Key} (he : evalE cal n0 e σ μ = some (u, μ)) (ha : evalE cal n0 a σ μ = some (.ob i, μ)) (hj : evalE cal n0 j σ μ = some (v, μ)) (hq : tky v = some q) (h : μ[i]? = some (.dt ks vs)) (hl : ks.length < SZ) (ho : n0 ≤ i) :
    exS cal n0 (.sub a j e) σ μ = some (.nx σ (μ.set i (.dt (ptk ks q) (pt ks vs q u)))) := by
  have o : okw n0 i u = true := by simp [okw, ho]
  simp only [exS, ha, he, hj, storeSub, h, dput, hq]
  rw [if_pos hl]
  simp only
  rw [if_pos o]
theorem ex_seq {s : S} {ss : List S} {σ' : Env} {μ' : Mu} (h : exS cal n0 s σ μ = some (.nx σ' μ')) : exL cal n0 (s :: ss) σ μ = exL cal n0 ss σ' μ' := by simp only [exL, h]
theorem ex_nil : exL cal n0 [] σ μ = some (.nx σ μ) := by simp only [exL]
theorem ev_var {i : Nat} {u : U} (h : σ[i]? = some (some u)) : evalE cal n0 (.var i) σ μ = some (u, μ) := by simp only [evalE, h]
theorem ev_idxL {a i : E} {u w : U} {j : Int} {xs : List U} (ha : evalE cal n0 a σ μ = some (u, μ)) (hi : evalE cal n0 i σ μ = some (.int j, μ)) (hc : cont μ u = some (.lst xs)) (h : atI xs j = some w) : evalE cal n0 (.idx a i) σ μ = some (w, μ) := by
  simp only [evalE, ha, hi, evIdx, hc, h]
theorem ev_idxT {a i : E} {w : U} {j : Int} {xs : List U} (ha : evalE cal n0 a σ μ = some (.tup xs, μ)) (hi : evalE cal n0 i σ μ = some (.int j, μ)) (h : atI xs j = some w) : evalE cal n0 (.idx a i) σ μ = some (w, μ) := by
  simp only [evalE, ha, hi, evIdx, cont, h]
theorem ev_idxK {a i : E} {u v w : U} {ks : List Key} {vs : List U} {q : Key} (ha : evalE cal n0 a σ μ = some (u, μ)) (hi : evalE cal n0 i σ μ = some (v, μ)) (hc : cont μ u = some (.dk ks vs)) (hq : sky v = some q) (h : lk ks vs q = some w) : evalE cal n0 (.idx a i) σ μ = some (w, μ) := by
  simp only [evalE, ha, hi, evIdx, hc, dget, hq, h]
  rfl
variable {μ' μ1 μ2 : Mu} {e a b c : E} {u v w : U} {us : List U} {es : List E}
theorem ex_set {i : Nat} (h : evalE cal n0 e σ μ = some (u, μ')) : exS cal n0 (.set i e) σ μ = some (.nx (σ.set i (some u)) μ') := by simp only [exS, h]
theorem ex_ret {ss : List S} (h : evalE cal n0 e σ μ = some (u, μ')) : exL cal n0 (.ret e :: ss) σ μ = some (.rt u μ') := by simp only [exL, exS, h]
theorem ex_par {is : List Nat} {σ' : Env} (h : evalL cal n0 es σ μ = some (us, μ')) (hb : bindI is us σ = some σ') : exS cal n0 (.par is es) σ μ = some (.nx σ' μ') := by simp only [exS, h, hb]
theorem ex_asg {p : Pt} {σ' : Env} (h : evalE cal n0 e σ μ = some (u, μ')) (hb : bindP μ' p u σ = some σ') : exS cal n0 (.asg p e) σ μ = some (.nx σ' μ') := by simp only [exS, h, hb]
theorem ex_ifT {t f : List S} (hc : evalE cal n0 c σ μ = some (u, μ1)) (ht : truth μ1 u = some true) : exS cal n0 (.iff c t f) σ μ = exL cal n0 t σ μ1 := by simp only [exS, hc, ht]
theorem ex_ifF {t f : List S} (hc : evalE cal n0 c σ μ = some (u, μ1)) (ht : truth μ1 u = some false) : exS cal n0 (.iff c t f) σ μ = exL cal n0 f σ μ1 := by simp only [exS, hc, ht]
theorem ex_ex (h : evalE cal n0 e σ μ = some (u, μ')) : exS cal n0 (.ex e) σ μ = some (.nx σ μ') := by simp only [exS, h]
theorem ev_lnil : evalL cal n0 [] σ μ = some ([], μ) := by simp only [evalL]
theorem ev_lcons (h : evalE cal n0 e σ μ = some (u, μ1)) (hs : evalL cal n0 es σ μ1 = some (us, μ2)) : evalL cal n0 (e :: es) σ μ = some (u :: us, μ2) := by simp only [evalL, h, hs]
theorem ev_l1 (h : evalE cal n0 e σ μ = some (u, μ1)) : evalL cal n0 [e] σ μ = some ([u], μ1) := ev_lcons h ev_lnil
theorem ev_l2 (h : evalE cal n0 a σ μ = some (u, μ1)) (h2 : evalE cal n0 b σ μ1 = some (v, μ2)) : evalL cal n0 [a, b] σ μ = some ([u, v], μ2) := ev_lcons h (ev_l1 h2)
theorem ev_call {f : Nat} {r : U × Mu} (h : evalL cal n0 es σ μ = some (us, μ1)) (hc : cal f us μ1 = some r) : evalE cal n0 (.call f es) σ μ = some r := by simp only [evalE, h, hc]
theorem ev_bin {al : Bool} {op : Bo} {r : U × Mu} (ha : evalE cal n0 a σ μ = some (u, μ1)) (hb : evalE cal n0 b σ μ1 = some (v, μ2)) (h : evBin al μ2 op u v = some r) : evalE cal n0 (.bin al op a b) σ μ = some r := by simp only [evalE, ha, hb, h]
theorem ev_cmp {op : Co} {d : Bool} (ha : evalE cal n0 a σ μ = some (u, μ1)) (hb : evalE cal n0 b σ μ1 = some (v, μ2)) (h : evCmp μ2 op u v = some d) : evalE cal n0 (.cmp op a b) σ μ = some (.bl d, μ2) := by simp only [evalE, ha, hb, h]
theorem ev_col {al : Bool} {cl : Cl} {ik : Ik} {xs : List U} {r : U × Mu} (h : evalL cal n0 es σ μ = some (us, μ1)) (hi : items μ1 cl ik us = some xs) (he : evCol al μ1 cl xs = some r) : evalE cal n0 (.col al cl ik es) σ μ = some r := by simp only [evalE, h, hi, he]
theorem ev_bi {bb : Bi} (h : evalL cal n0 es σ μ = some (us, μ1)) (hb : evBi μ1 bb us = some u) : evalE cal n0 (.bi bb es) σ μ = some (u, μ1) := by simp only [evalE, h, hb]
theorem ev_not {d : Bool} (ha : evalE cal n0 a σ μ = some (u, μ1)) (ht : truth μ1 u = some d) : evalE cal n0 (.not a) σ μ = some (.bl !d, μ1) := by simp only [evalE, ha, ht]
theorem ev_tup (h : evalL cal n0 es σ μ = some (us, μ1)) (hl : us.length ≤ SZ) : evalE cal n0 (.tup es) σ μ = some (.tup us, μ1) := by
  simp only [evalE, h]
  rw [if_pos hl]
theorem fin_cut {n : Nat} (hf : frz n μ1 D0 u = some v) (ht : μ1.take n = μ) : R.finish false n u μ1 = some (v, μ) := by simp [R.finish, hf, ht]
/-- a comprehension's turn -/
theorem cs_yes {p : Pt} {ws : List Nat} {x : U} {σ' : Env} (hb : bindP μ p x (wipeE σ ws) = some σ') (h : evalE cal n0 e σ' μ = some (u, μ1)) : cstep cal n0 p (.bl true) e ws σ x μ = some (some u, μ1) := by simp only [cstep, hb, evalE, truth, h]
theorem cs_if {p : Pt} {ws : List Nat} {x : U} {σ' : Env} (hb : bindP μ p x (wipeE σ ws) = some σ') (hc : evalE cal n0 c σ' μ = some (v, μ1)) (ht : truth μ1 v = some true) (h : evalE cal n0 e σ' μ1 = some (u, μ2)) : cstep cal n0 p c e ws σ x μ = some (some u, μ2) := by simp only [cstep, hb, hc, ht, h]
theorem cs_no {p : Pt} {ws : List Nat} {x : U} {σ' : Env} (hb : bindP μ p x (wipeE σ ws) = some σ') (hc : evalE cal n0 c σ' μ = some (v, μ1)) (ht : truth μ1 v = some false) : cstep cal n0 p c e ws σ x μ = some (none, μ1) := by simp only [cstep, hb, hc, ht]
end
def endO (keep : Bool) (n : Nat) : Option Out → Option (U × Mu)
  | some (.rt u μ1) => R.finish keep n u μ1
  | some (.nx _ μ1) => R.finish keep n .non μ1
  | _ => none
theorem run_rt {o : Option Out} {u : U} {μ1 : Mu} {r : U × Mu} {keep : Bool} {n : Nat} (h : o = some (.rt u μ1)) (hf : R.finish keep n u μ1 = some r) : endO keep n o = some r := by subst h; exact hf
theorem run_nx {o : Option Out} {σ : Env} {μ1 : Mu} {r : U × Mu} {keep : Bool} {n : Nat} (h : o = some (.nx σ μ1)) (hf : R.finish keep n .non μ1 = some r) : endO keep n o = some r := by subst h; exact hf
end R

set_option Elab.async false
set_option linter.all false
set_option maxRecDepth 100000
set_option maxHeartbeats 4000000
/-! M1: more rules; plain values; numbers, pairs and lists of them in order -/
namespace R
open PySem L2
section
variable {cal : Nat → List U → Mu → Option (U × Mu)} {n0 : Nat} {σ : R.Env} {μ μ1 μ2 μ3 : Mu} {a b c d e lo hi : E} {xs ys : List U} {l h u v w : U} {l' h' : Option Int} {es : List E} {us : List U}
theorem ev_int {i : Int} : evalE cal n0 (.int i) σ μ = some (.int i, μ) := by simp only [evalE]
theorem ev_gint {i : Int} : evalE cal n0 (.gint i) σ μ = some (.int i, μ) := by simp only [evalE]
theorem ev_bl {b : Bool} : evalE cal n0 (.bl b) σ μ = some (.bl b, μ) := by simp only [evalE]
theorem ev_non : evalE cal n0 .non σ μ = some (.non, μ) := by simp only [evalE]
theorem ev_str {x : Str} : evalE cal n0 (.str x) σ μ = some (.str x, μ) := by simp only [evalE]
theorem ev_neg {i : Int} (h : evalE cal n0 a σ μ = some (.int i, μ1)) : evalE cal n0 (.neg a) σ μ = some (.int (-i), μ1) := by simp only [evalE, h]
theorem ev_slc {r : U × Mu} (ha : evalE cal n0 a σ μ = some (u, μ1)) (hl : evalE cal n0 lo σ μ1 = some (l, μ2)) (hh : evalE cal n0 hi σ μ2 = some (h, μ3)) (hs : evSlc al μ3 u l h = some r) : evalE cal n0 (.slc al a lo hi) σ μ = some r := by
  simp only [evalE, ha, hl, hh, hs]
theorem ev_rev {r : U × Mu} (ha : evalE cal n0 a σ μ = some (u, μ1)) (hs : evRev al μ1 u = some r) : evalE cal n0 (.rev al a) σ μ = some r := by simp only [evalE, ha, hs]
theorem ev_revT (ha : evalE cal n0 a σ μ = some (.tup xs, μ1)) : evalE cal n0 (.rev false a) σ μ = some (.tup xs.reverse, μ1) := ev_rev ha rfl
theorem ev_slcT (ha : evalE cal n0 a σ μ = some (.tup xs, μ1)) (hl : evalE cal n0 lo σ μ1 = some (l, μ1)) (hh : evalE cal n0 hi σ μ1 = some (h, μ1)) (bl : bnd l = some l') (bh : bnd h = some h') : evalE cal n0 (.slc false a lo hi) σ μ = some (.tup (cutU xs l' h'), μ1) := by
  simp only [evalE, ha, hl, hh, evSlc, bl, bh]
theorem ev_addT (ha : evalE cal n0 a σ μ = some (.tup xs, μ1)) (hb : evalE cal n0 b σ μ1 = some (.tup ys, μ2)) (hz : xs.length + ys.length ≤ SZ) : evalE cal n0 (.bin false .add a b) σ μ = some (.tup (xs ++ ys), μ2) := by
  refine ev_bin ha hb ?_
  simp only [evBin]
  rw [if_pos hz]
theorem ev_addL (ha : evalE cal n0 a σ μ = some (.lst xs, μ1)) (hb : evalE cal n0 b σ μ1 = some (.lst ys, μ2)) (hz : xs.length + ys.length ≤ SZ) : evalE cal n0 (.bin false .add a b) σ μ = some (.lst (xs ++ ys), μ2) := by
  refine ev_bin ha hb ?_
  simp only [evBin, asL]
  rw [if_pos hz]
  rfl
theorem ev_lst (h : evalL cal n0 es σ μ = some (us, μ1)) (hl : us.length ≤ SZ) : evalE cal n0 (.lst false es) σ μ = some (.lst us, μ1) := by
  simp only [evalE, h]
  rw [if_pos hl]
  rfl
theorem ev_lstA (h : evalL cal n0 es σ μ = some (us, μ1)) (hl : us.length ≤ SZ) : evalE cal n0 (.lst true es) σ μ = some (.ob μ1.length, μ1 ++ [.lst us]) := by
  simp only [evalE, h]
  rw [if_pos hl]
  rfl
theorem ev_idx (ha : evalE cal n0 a σ μ = some (u, μ1)) (hi : evalE cal n0 b σ μ1 = some (v, μ2)) (h : evIdx μ2 u v = some w) : evalE cal n0 (.idx a b) σ μ = some (w, μ2) := by
  simp only [evalE, ha, hi, h]
theorem ev_idxT1 {j : Int} (ha : evalE cal n0 a σ μ = some (.tup xs, μ1)) (hi : evalE cal n0 b σ μ1 = some (.int j, μ2)) (h : atI xs j = some w) : evalE cal n0 (.idx a b) σ μ = some (w, μ2) := ev_idx ha hi (by simp only [evIdx, cont, h])
theorem ev_idxL1 {j : Int} (ha : evalE cal n0 a σ μ = some (u, μ1)) (hi : evalE cal n0 b σ μ1 = some (.int j, μ2)) (hc : cont μ2 u = some (.lst xs)) (h : atI xs j = some w) : evalE cal n0 (.idx a b) σ μ = some (w, μ2) := by
  simp only [evalE, ha, hi, evIdx, hc, h]
theorem ev_isi {t : Ty} {r : Bool} (ha : evalE cal n0 a σ μ = some (u, μ1)) (h : evIsi μ1 u t = some r) : evalE cal n0 (.isi a t) σ μ = some (.bl r, μ1) := by simp only [evalE, ha, h]
theorem ev_iteT {r : Option (U × Mu)} (hc : evalE cal n0 c σ μ = some (u, μ1)) (ht : truth μ1 u = some true) (h : evalE cal n0 a σ μ1 = r) : evalE cal n0 (.ite c a b) σ μ = r := by simp only [evalE, hc, ht, h]
theorem ev_iteF {r : Option (U × Mu)} (hc : evalE cal n0 c σ μ = some (u, μ1)) (ht : truth μ1 u = some false) (h : evalE cal n0 b σ μ1 = r) : evalE cal n0 (.ite c a b) σ μ = r := by simp only [evalE, hc, ht, h]
theorem ev_andF (ha : evalE cal n0 a σ μ = some (.bl false, μ1)) : evalE cal n0 (.bool true (a :: b :: es)) σ μ = some (.bl false, μ1) := by
  simp only [evalE, evalB, ha, truth]
  rfl
theorem ev_andT {r : Option (U × Mu)} (ha : evalE cal n0 a σ μ = some (.bl true, μ1)) (hb : evalE cal n0 (.bool true (b :: es)) σ μ1 = r) : evalE cal n0 (.bool true (a :: b :: es)) σ μ = r := by
  simp only [evalE] at hb
  simp only [evalE, evalB, ha, truth]
  exact hb
theorem ev_orT (ha : evalE cal n0 a σ μ = some (.bl true, μ1)) : evalE cal n0 (.bool false (a :: b :: es)) σ μ = some (.bl true, μ1) := by
  simp only [evalE, evalB, ha, truth]
  rfl
theorem ev_orF {r : Option (U × Mu)} (ha : evalE cal n0 a σ μ = some (.bl false, μ1)) (hb : evalE cal n0 (.bool false (b :: es)) σ μ1 = r) : evalE cal n0 (.bool false (a :: b :: es)) σ μ = r := by
  simp only [evalE] at hb
  simp only [evalE, evalB, ha, truth]
  exact hb
theorem ev_b1 {t : Bool} {r : Option (U × Mu)} (ha : evalE cal n0 a σ μ = r) : evalE cal n0 (.bool t [a]) σ μ = r := by
  simp only [evalE, evalB]
  exact ha
/-- and, or of two known truths -/
theorem ev_and2 {p q : Bool} (ha : evalE cal n0 a σ μ = some (.bl p, μ)) (hb : evalE cal n0 b σ μ = some (.bl q, μ)) : evalE cal n0 (.bool true [a, b]) σ μ = some (.bl (p && q), μ) := by
  cases p
  · exact ev_andF ha
  · exact ev_andT ha (ev_b1 hb)
theorem ev_or2 {p q : Bool} (ha : evalE cal n0 a σ μ = some (.bl p, μ)) (hb : evalE cal n0 b σ μ = some (.bl q, μ)) : evalE cal n0 (.bool false [a, b]) σ μ = some (.bl (p || q), μ) := by
  cases p
  · exact ev_orF ha (ev_b1 hb)
  · exact ev_orT ha
theorem ev_itms (ha : evalE cal n0 a σ μ = some (u, μ1)) (h : itmU μ1 u = some xs) : evalE cal n0 (.itms a) σ μ = some (.lst xs, μ1) := by simp only [evalE, ha, h]
theorem ex_subL {j : E} {i : Nat} {jj : Int} {q : Nat} (he : evalE cal n0 e σ μ = some (u, μ1)) (ha : evalE cal n0 a σ μ1 = some (.ob i, μ1)) (hj : evalE cal n0 j σ μ1 = some (.int jj, μ1)) (h : μ1[i]? = some (.lst xs)) (hq : ixN xs.length jj = some q) (ho : okw n0 i u = true) :
    exS cal n0 (.sub a j e) σ μ = some (.nx σ (μ1.set i (.lst (xs.set q u)))) := by
  simp only [exS, he, ha, hj, storeSub, h, hq, ho]
  rfl
theorem ex_subT1 {j : E} {i : Nat} {ks : List (List Key)} {vs : List U} {q : List Key} (he : evalE cal n0 e σ μ = some (u, μ)) (ha : evalE cal n0 a σ μ = some (.ob i, μ)) (hj : evalE cal n0 j σ μ = some (v, μ1)) (hq : tky v = some q) (h : μ1[i]? = some (.dt ks vs)) (hl : ks.length < SZ) (ho : n0 ≤ i) :
    exS cal n0 (.sub a j e) σ μ = some (.nx σ (μ1.set i (.dt (ptk ks q) (pt ks vs q u)))) := by
  have o : okw n0 i u = true := by simp [okw, ho]
  simp only [exS, ha, he, hj, storeSub, h, dput, hq]
  rw [if_pos hl]
  simp only
  rw [if_pos o]
theorem sto {j : E} {i : Nat} {jj : Int} {q : Nat} (ha : evalE cal n0 a σ μ = some (.ob i, μ)) (hj : evalE cal n0 j σ μ = some (.int jj, μ)) (h : μ[i]? = some (.lst xs)) (hq : ixN xs.length jj = some q) (ho : okw n0 i u = true) :
    storeTo cal n0 a j u σ μ = some (μ.set i (.lst (xs.set q u))) := by
  simp only [storeTo, ha, hj, storeSub, h, hq, ho]
  rfl
theorem ex_asg2 {j a' j' : E} (he : evalE cal n0 e σ μ = some (u, μ1)) (h1 : storeTo cal n0 a j u σ μ1 = some μ2) (h2 : storeTo cal n0 a' j' u σ μ2 = some μ3) : exS cal n0 (.asg2 a j a' j' e) σ μ = some (.nx σ μ3) := by
  simp only [exS, he, h1, h2]
theorem ex_sub2 {j a' j' e' : E} {μ4 : Mu} (he : evalE cal n0 e σ μ = some (u, μ1)) (he' : evalE cal n0 e' σ μ1 = some (v, μ2)) (h1 : storeTo cal n0 a j u σ μ2 = some μ3) (h2 : storeTo cal n0 a' j' v σ μ3 = some μ4) : exS cal n0 (.sub2 a j a' j' e e') σ μ = some (.nx σ μ4) := by
  simp only [exS, he, he', h1, h2]
theorem ex_appendA {al : Bool} {i : Nat} (ha : evalE cal n0 a σ μ = some (.ob i, μ)) (hs : (asL μ (.ob i)).isSome = true) (he : evalE cal n0 e σ μ = some (u, μ1)) (h : μ1[i]? = some (.lst xs)) (hl : xs.length < SZ) (ho : okw n0 i u = true) :
    exS cal n0 (.ex (.me al .append a [e])) σ μ = some (.nx σ (μ1.set i (.lst (xs ++ [u])))) := by
  simp only [exS, evalE, evalL, ha, he, okm, hs, evMe, h]
  rw [if_pos ⟨hl, ho⟩]
end
theorem ixN_nat {n j : Nat} (h : j < n) : ixN n (j : Int) = some j := by
  unfold ixN
  rw [if_pos (by omega)]
  simp [h]
theorem walk_rng {μ : Mu} {n : Nat} (h : n < 2 ^ 60) : walk μ .rng [I n] = some (.inl ((List.range n).map I)) := by
  simp only [walk]
  rw [if_pos (by omega), rgn_nat]
theorem walk_1 {μ : Mu} {n : Nat} (hn : n < 2 ^ 60) : walk μ .rng [.int 1, I n] = some (.inl ((List.range (n - 1)).map fun i => I (1 + i))) := by
  simp only [walk]
  rw [if_pos (by omega), show (1 : Int) = ((1 : Nat) : Int) from rfl, rgn_nats]
theorem map_at {α : Type} {f : α → U} {l : List α} {i : Nat} {x : U} (hx : (l.map f)[i]? = some x) : ∃ a, l[i]? = some a ∧ a ∈ l ∧ x = f a := by
  rw [List.getElem?_map] at hx
  cases h : l[i]? with
  | none => rw [h] at hx; cases hx
  | some a => rw [h] at hx; exact ⟨a, rfl, List.mem_of_getElem? h, (Option.some.inj hx).symm⟩
theorem rng_at {n i : Nat} {x : U} (hx : ((List.range n).map I)[i]? = some x) : i < n ∧ x = I i := by
  obtain ⟨a, h1, _, h2⟩ := map_at hx
  have := List.getElem?_eq_some_iff.mp h1
  obtain ⟨h3, h4⟩ := this
  simp at h3 h4
  subst h4
  exact ⟨h3, h2⟩
theorem eq_int (μ : Mu) (i j : Int) : evEq μ (.int i) (.int j) = some (decide (i = j)) := by
  simp only [evEq, dat_int, PyData.eqv]
  congr 1
theorem eq_yes {μ : Mu} {a b : Nat} (h : a = b) : evCmp μ .eq (I a) (I b) = some true := by
  subst h
  simp only [evCmp, eq_int, decide_true]
theorem eq_no {μ : Mu} {a b : Nat} (h : a ≠ b) : evCmp μ .eq (I a) (I b) = some false := by
  simp only [evCmp, eq_int]
  rw [decide_eq_false (by omega)]
theorem eq_I {μ : Mu} {a b : Nat} : evCmp μ .eq (I a) (I b) = some (decide (a = b)) := by
  by_cases h : a = b
  · rw [eq_yes h, decide_eq_true h]
  · rw [eq_no h, decide_eq_false h]
theorem ne_no {μ : Mu} {a b : Nat} (h : a = b) : evCmp μ .ne (I a) (I b) = some false := by
  simp only [evCmp]
  subst h
  simp only [eq_int, decide_true]
  rfl
theorem ne_I {μ : Mu} {a b : Nat} : evCmp μ .ne (I a) (I b) = some (decide (a ≠ b)) := by
  simp only [evCmp, eq_int, neg?]
  congr 1
  by_cases h : a = b
  · subst h; simp
  · rw [decide_eq_true h, decide_eq_false (by omega)]; rfl
theorem lt_I {μ : Mu} {a b : Nat} : evCmp μ .lt (I a) (I b) = some (decide (a < b)) := by
  simp only [evCmp, evLt]
  congr 1
  exact decide_eq_decide.mpr (by omega)
theorem gt_I {μ : Mu} {a b : Nat} : evCmp μ .gt (I a) (I b) = some (decide (b < a)) := by
  simp only [evCmp, evLt]
  congr 1
  exact decide_eq_decide.mpr (by omega)
theorem sub_len {α : Type} [DecidableEq α] : ∀ {l q : List α}, l.Nodup → (∀ x ∈ l, x ∈ q) → l.length ≤ q.length
  | [], q, _, _ => by simp
  | a :: l, q, nd, h => by
    have ha := h a (by simp)
    have h1 := List.length_erase_of_mem ha
    have h2 := sub_len (l := l) (q := q.erase a) (List.nodup_cons.mp nd).2 fun x hx => by
      have hne : x ≠ a := fun z => (List.nodup_cons.mp nd).1 (z ▸ hx)
      exact (List.mem_erase_of_ne hne).mpr (h x (by simp [hx]))
    have : 0 < q.length := List.length_pos_of_mem ha
    simp
    omega
/-! ### plain values -/
inductive Pl (B : Nat) : Nat → U → Prop
  | non (d : Nat) : Pl B d .non
  | bl (d : Nat) (b : Bool) : Pl B d (.bl b)
  | int (d : Nat) (i : Int) : Pl B d (.int i)
  | str (d : Nat) (x : Str) : Pl B d (.str x)
  | tup {d : Nat} {xs : List U} (hz : xs.length ≤ B) (h : ∀ u ∈ xs, Pl B d u) : Pl B (d + 1) (.tup xs)
  | lst {d : Nat} {xs : List U} (hz : xs.length ≤ B) (h : ∀ u ∈ xs, Pl B d u) : Pl B (d + 1) (.lst xs)
theorem Pl.up {B B' d d' : Nat} (hB : B ≤ B') (hd : d ≤ d') {u : U} (h : Pl B d u) : Pl B' d' u := by
  induction h generalizing d' with
  | non => exact .non _
  | bl => exact .bl _ _
  | int => exact .int _ _
  | str => exact .str _ _
  | tup hz h ih =>
    obtain ⟨e, rfl⟩ : ∃ e, d' = e + 1 := ⟨d' - 1, by omega⟩
    exact .tup (by omega) fun u hu => ih u hu (by omega)
  | lst hz h ih =>
    obtain ⟨e, rfl⟩ : ∃ e, d' = e + 1 := ⟨d' - 1, by omega⟩
    exact .lst (by omega) fun u hu => ih u hu (by omega)
mutual
def tp : U → PyData
  | .non => .none
  | .bl b => .bool b
  | .int i => .int i
  | .str x => .str x
  | .tup xs => .tuple (tps xs)
  | .lst xs => .list (tps xs)
  | _ => .none
def tps : List U → List PyData
  | [] => []
  | x :: xs => tp x :: tps xs
end
theorem tps_map : ∀ xs : List U, tps xs = xs.map tp
  | [] => rfl
  | x :: xs => by simp [tps, tps_map xs]
theorem dat_tp (μ : Mu) {B d : Nat} {u : U} (h : Pl B d u) : ∀ {k : Nat}, d ≤ k → dat μ k u = some (tp u) := by
  induction h with
  | non => intro k _; cases k <;> rfl
  | bl => intro k _; cases k <;> rfl
  | int => intro k _; cases k <;> rfl
  | str => intro k _; cases k <;> rfl
  | @tup d xs hz h ih =>
    intro k hk
    obtain ⟨e, rfl⟩ : ∃ e, k = e + 1 := ⟨k - 1, by omega⟩
    have m := mapO_map (f := dat μ e) (g := id) (h := tp) (xs := xs) fun x hx => ih x hx (by omega)
    rw [List.map_id] at m
    simp only [dat, m, tp, tps_map]
  | @lst d xs hz h ih =>
    intro k hk
    obtain ⟨e, rfl⟩ : ∃ e, k = e + 1 := ⟨k - 1, by omega⟩
    have m := mapO_map (f := dat μ e) (g := id) (h := tp) (xs := xs) fun x hx => ih x hx (by omega)
    rw [List.map_id] at m
    simp only [dat, m, tp, tps_map]
theorem eqvAll_refl : ∀ {xs : List PyData}, (∀ x ∈ xs, PyData.eqv x x = true) → PyData.eqvAll xs xs = true
  | [], _ => by simp [PyData.eqvAll]
  | x :: xs, h => by
    simp only [PyData.eqvAll, Bool.and_eq_true]
    exact ⟨h x (by simp), eqvAll_refl fun y hy => h y (by simp [hy])⟩
theorem eqv_refl {B d : Nat} {u : U} (h : Pl B d u) : PyData.eqv (tp u) (tp u) = true := by
  induction h with
  | non => rfl
  | bl d b => cases b <;> rfl
  | int d i => simp [tp, PyData.eqv]
  | str d x => simp [tp, PyData.eqv]
  | tup hz h ih =>
    simp only [tp, PyData.eqv, tps_map]
    exact eqvAll_refl fun x hx => by
      obtain ⟨u, hu, rfl⟩ := List.mem_map.mp hx
      exact ih u hu
  | lst hz h ih =>
    simp only [tp, PyData.eqv, tps_map]
    exact eqvAll_refl fun x hx => by
      obtain ⟨u, hu, rfl⟩ := List.mem_map.mp hx
      exact ih u hu
theorem eq_self (μ : Mu) {B d : Nat} {u : U} (h : Pl B d u) (hd : d ≤ D0) : evEq μ u u = some true := by
  simp only [evEq, dat_tp μ h hd, eqv_refl h]
/-- numbers, nested -/
inductive Ni : Nat → U → Prop
  | int (d : Nat) (i : Int) : Ni d (.int i)
  | tup {d : Nat} {xs : List U} (h : ∀ u ∈ xs, Ni d u) : Ni (d + 1) (.tup xs)
  | lst {d : Nat} {xs : List U} (h : ∀ u ∈ xs, Ni d u) : Ni (d + 1) (.lst xs)
theorem dat_ni (μ : Mu) {d : Nat} {u : U} (h : Ni d u) : ∀ {k : Nat}, d ≤ k → dat μ k u = some (tp u) := by
  induction h with
  | int => intro k _; cases k <;> rfl
  | @tup d xs h ih =>
    intro k hk
    obtain ⟨e, rfl⟩ : ∃ e, k = e + 1 := ⟨k - 1, by omega⟩
    have m := mapO_map (f := dat μ e) (g := id) (h := tp) (xs := xs) fun x hx => ih x hx (by omega)
    rw [List.map_id] at m
    simp only [dat, m, tp, tps_map]
  | @lst d xs h ih =>
    intro k hk
    obtain ⟨e, rfl⟩ : ∃ e, k = e + 1 := ⟨k - 1, by omega⟩
    have m := mapO_map (f := dat μ e) (g := id) (h := tp) (xs := xs) fun x hx => ih x hx (by omega)
    rw [List.map_id] at m
    simp only [dat, m, tp, tps_map]
theorem eqvAll_ni : ∀ {xs ys : List U}, (∀ x ∈ xs, ∀ y ∈ ys, (PyData.eqv (tp x) (tp y) = true ↔ x = y)) → (PyData.eqvAll (xs.map tp) (ys.map tp) = true ↔ xs = ys)
  | [], [], _ => by simp [PyData.eqvAll]
  | [], y :: ys, _ => by simp [PyData.eqvAll]
  | x :: xs, [], _ => by simp [PyData.eqvAll]
  | x :: xs, y :: ys, h => by
    simp only [List.map_cons, PyData.eqvAll, Bool.and_eq_true]
    rw [h x (by simp) y (by simp), eqvAll_ni fun a ha b hb => h a (by simp [ha]) b (by simp [hb]), List.cons.injEq]
theorem eqv_ni {d : Nat} {u : U} (h : Ni d u) : ∀ {d' : Nat} {v : U}, Ni d' v → (PyData.eqv (tp u) (tp v) = true ↔ u = v) := by
  induction h with
  | int d i =>
    intro d' v hv
    cases hv with
    | int d' j => simp [tp, PyData.eqv]
    | tup _ => simp [tp, PyData.eqv]
    | lst _ => simp [tp, PyData.eqv]
  | @tup d xs h ih =>
    intro d' v hv
    cases hv with
    | int d' j => simp [tp, PyData.eqv]
    | tup h' =>
      simp only [tp, PyData.eqv, tps_map, U.tup.injEq]
      exact eqvAll_ni fun x hx y hy => ih x hx (h' y hy)
    | lst _ => simp [tp, PyData.eqv]
  | @lst d xs h ih =>
    intro d' v hv
    cases hv with
    | int d' j => simp [tp, PyData.eqv]
    | tup _ => simp [tp, PyData.eqv]
    | lst h' =>
      simp only [tp, PyData.eqv, tps_map, U.lst.injEq]
      exact eqvAll_ni fun x hx y hy => ih x hx (h' y hy)
/-- == of nested numbers -/
theorem eq_ni (μ : Mu) {d d' : Nat} {u v : U} (h : Ni d u) (h' : Ni d' v) (hd : d ≤ D0) (hd' : d' ≤ D0) : ∃ b, evEq μ u v = some b ∧ (b = true ↔ u = v) :=
  ⟨_, by simp only [evEq, dat_ni μ h hd, dat_ni μ h' hd'], eqv_ni h h'⟩
/-! ### pairs -/
abbrev pU (p : Nat × Nat) : U := .tup [I p.1, I p.2]
abbrev tU (n : Nat) (es : List (Nat × Nat)) : U := .tup [I n, .tup (es.map pU)]
def lex (p q : Nat × Nat) : Prop := p.1 < q.1 ∨ p.1 = q.1 ∧ p.2 < q.2
instance (p q : Nat × Nat) : Decidable (lex p q) := inferInstanceAs (Decidable (_ ∨ _))
theorem pU_inj {p q : Nat × Nat} (h : pU p = pU q) : p = q := by
  simp only [pU, I, U.tup.injEq, List.cons.injEq, U.int.injEq, and_true] at h
  exact Prod.ext (by omega) (by omega)
theorem chain_zip {α : Type} {R : α → α → Prop} : ∀ {l : List α}, l.Pairwise R → ∀ q ∈ l.zip (l.drop 1), R q.1 q.2
  | [], _, q, h => by simp at h
  | [a], _, q, h => by simp at h
  | a :: b :: l, hp, q, h => by
    simp only [List.drop_succ_cons, List.drop_zero, List.zip_cons_cons, List.mem_cons] at h
    rcases h with h | h
    · subst h
      exact (List.pairwise_cons.mp hp).1 b (by simp)
    · exact chain_zip (l := b :: l) (List.pairwise_cons.mp hp).2 q (by simpa using h)
theorem lex_lt {p q : Nat × Nat} (h : lex p q) (μ : Mu) : evLt μ (pU p) (pU q) = some true := by
  have e : PySem.W.dataLt (.tuple [.int p.1, .int p.2]) (.tuple [.int q.1, .int q.2]) = true := by
    rw [PySem.W.dataLt_ii]
    unfold lex at h
    simp
    omega
  simp [evLt, dat, mapO, D0, e, PySem.W.alike, PySem.W.alikeAll]
def lexLe (p q : Nat × Nat) : Bool := !decide (q.1 < p.1 ∨ q.1 = p.1 ∧ q.2 < p.2)
def srtP (K : List (Nat × Nat)) : List (Nat × Nat) := K.mergeSort lexLe
theorem srtP_mem (K : List (Nat × Nat)) (p : Nat × Nat) : p ∈ srtP K ↔ p ∈ K := (List.mergeSort_perm _ _).mem_iff
theorem srtP_len (K : List (Nat × Nat)) : (srtP K).length = K.length := List.length_mergeSort K
theorem lexLe_tr (a b c : Nat × Nat) (h1 : lexLe a b = true) (h2 : lexLe b c = true) : lexLe a c = true := by
  simp only [lexLe, Bool.not_eq_true', decide_eq_false_iff_not] at *
  omega
theorem lexLe_tot (a b : Nat × Nat) : (lexLe a b || lexLe b a) = true := by
  simp only [lexLe, Bool.or_eq_true, Bool.not_eq_true', decide_eq_false_iff_not]
  omega
theorem lexLe_as (a b : Nat × Nat) (h1 : lexLe a b = true) (h2 : lexLe b a = true) : a = b := by
  simp only [lexLe, Bool.not_eq_true', decide_eq_false_iff_not] at *
  exact Prod.ext (by omega) (by omega)
theorem srtP_le (K : List (Nat × Nat)) : (srtP K).Pairwise fun a b => lexLe a b = true := List.pairwise_mergeSort lexLe_tr lexLe_tot K
theorem srtP_asc {K : List (Nat × Nat)} (nd : K.Nodup) : (srtP K).Pairwise lex := by
  have h2 : (srtP K).Nodup := (List.mergeSort_perm K lexLe).nodup_iff.mpr nd
  refine (List.Pairwise.and (srtP_le K) h2).imp fun {a b} h => ?_
  obtain ⟨h, ne⟩ := h
  simp only [lexLe, Bool.not_eq_true', decide_eq_false_iff_not] at h
  unfold lex
  by_cases e : a.1 = b.1
  · by_cases e2 : a.2 = b.2
    · exact absurd (Prod.ext e e2) ne
    · omega
  · omega
/-- two orders of the same -/
theorem srtP_eq {K L : List (Nat × Nat)} (h : K.Perm L) : srtP K = srtP L := by
  have p : (srtP K).Perm (srtP L) := (List.mergeSort_perm K lexLe).trans (h.trans (List.mergeSort_perm L lexLe).symm)
  exact p.eq_of_pairwise (fun a b _ _ h1 h2 => lexLe_as a b h1 h2) (srtP_le K) (srtP_le L)
theorem srtP_self {K : List (Nat × Nat)} (h : K.Pairwise lex) : srtP K = K := by
  refine (List.mergeSort_perm K lexLe).eq_of_pairwise (fun a b _ _ h1 h2 => lexLe_as a b h1 h2) (srtP_le K) (h.imp fun {a b} z => ?_)
  simp only [lexLe, Bool.not_eq_true', decide_eq_false_iff_not]
  unfold lex at z
  omega
theorem srtd_pU (μ : Mu) (K : List (Nat × Nat)) (hl : K.length ≤ SZ) : srtd μ (K.map pU) = some ((srtP K).map pU) := by
  unfold srtd
  rw [mapO_map (f := dat μ D0) (h := fun p : Nat × Nat => PyData.tuple [.int p.1, .int p.2]) fun x _ => by simp [D0, dat, mapO]]
  simp only
  rw [if_pos]
  · congr 1
    have e : (K.map pU).zip (K.map fun p : Nat × Nat => PyData.tuple [.int p.1, .int p.2]) = K.map fun p => (pU p, PyData.tuple [.int p.1, .int p.2]) := List.zip_map'
    rw [e, ← List.map_mergeSort (r := lexLe) (s := PySem.W.dataLe false Prod.snd) (f := fun p : Nat × Nat => (pU p, PyData.tuple [.int p.1, .int p.2]))]
    · rw [List.map_map]; rfl
    · intro a _ b _
      show _ = !PySem.W.dataLt (.tuple [.int b.1, .int b.2]) (.tuple [.int a.1, .int a.2])
      rw [PySem.W.dataLt_ii]
      unfold lexLe
      congr 1
      rw [Bool.eq_iff_iff]
      simp
      omega
  · simp only [Bool.and_eq_true, decide_eq_true_eq, Bool.or_eq_true, List.all_eq_true]
    refine ⟨⟨fun d hd e he => ?_, .inl fun d hd => ?_⟩, by simpa using hl⟩
    · obtain ⟨i, _, rfl⟩ := List.mem_map.mp hd
      obtain ⟨j, _, rfl⟩ := List.mem_map.mp he
      simp [PySem.W.alike, PySem.W.alikeAll]
    · obtain ⟨i, _, rfl⟩ := List.mem_map.mp hd
      rfl
/-! ### numbers in order -/
def srt (r : List Nat) : List Nat := r.mergeSort fun a b => decide (a ≤ b)
theorem srt_mem (r : List Nat) (h : Nat) : h ∈ srt r ↔ h ∈ r := (List.mergeSort_perm _ _).mem_iff
theorem srt_U (r : List Nat) : ((r.map fun (x : Nat) => (x : Int)).mergeSort fun a b => decide (a ≤ b)).map U.int = (srt r).map I := by
  unfold srt
  rw [← List.map_mergeSort (r := fun a b => decide (a ≤ b)) (s := fun a b => decide (a ≤ b)) (f := fun (x : Nat) => (x : Int))]
  · rw [List.map_map]; rfl
  · intro a _ b _; simp
theorem srtd_I (μ : Mu) (r : List Nat) (h : r.length ≤ SZ) : srtd μ (r.map I) = some ((srt r).map I) := by
  have := srtd_ints μ (r.map fun (x : Nat) => (x : Int)) (by simpa using h)
  rw [srt_U, List.map_map] at this
  exact this
theorem srt_le (r : List Nat) : (srt r).Pairwise fun a b => a ≤ b := by
  have := List.pairwise_mergeSort (le := fun a b : Nat => decide (a ≤ b)) (fun a b c h1 h2 => by simp at *; omega) (fun a b => by simp; omega) r
  exact this.imp fun h => by simpa using h
/-- the ascending list of a set of numbers below n -/
theorem srt_filter {n : Nat} {r : List Nat} {p : Nat → Bool} (nd : r.Nodup) (h : ∀ x, x ∈ r ↔ x < n ∧ p x = true) : srt r = (List.range n).filter p := by
  have pm : r.Perm ((List.range n).filter p) := (List.perm_ext_iff_of_nodup nd (List.nodup_range.filter _)).mpr fun x => by simp [h]
  refine ((List.mergeSort_perm r _).trans pm).eq_of_pairwise (fun a b _ _ h1 h2 => Nat.le_antisymm h1 h2) (srt_le r) ?_
  exact (List.Pairwise.filter _ (List.pairwise_lt_range (n := n))).imp fun h => Nat.le_of_lt h
/-! ### dicts of numbers -/
theorem dkI_lk (ks : List Nat) : True := trivial
abbrev kP (p : Nat × Nat) : List Key := [kI p.1, kI p.2]
abbrev dtK (K : List (Nat × Nat)) : U := .dt (K.map kP) (K.map fun _ => .bl true)
def ins (K : List (Nat × Nat)) (q : Nat × Nat) : List (Nat × Nat) := if q ∈ K then K else K ++ [q]
theorem kP_inj {p q : Nat × Nat} (h : kP p = kP q) : p = q := by
  simp only [kP, kI, List.cons.injEq, Sum.inl.injEq, and_true] at h
  exact Prod.ext (by omega) (by omega)
theorem kP_mem {K : List (Nat × Nat)} {q : Nat × Nat} : kP q ∈ K.map kP ↔ q ∈ K := by
  constructor
  · intro h
    obtain ⟨p, hp, e⟩ := List.mem_map.mp h
    exact kP_inj e ▸ hp
  · exact fun h => List.mem_map.mpr ⟨q, h, rfl⟩
theorem rpl_true {κ : Type} [DecidableEq κ] {α : Type} (f : α → κ) (q : κ) : ∀ K : List α, rpl (K.map f) (K.map fun _ => U.bl true) q (.bl true) = K.map fun _ => U.bl true
  | [] => rfl
  | p :: K => by
    simp only [List.map_cons, rpl, rpl_true f q K, ite_self]
theorem dtK_put (K : List (Nat × Nat)) (q : Nat × Nat) : U.dt (ptk (K.map kP) (kP q)) (pt (K.map kP) (K.map fun _ => U.bl true) (kP q) (.bl true)) = dtK (ins K q) := by
  unfold ptk pt ins
  by_cases h : q ∈ K
  · rw [if_pos (kP_mem.mpr h), if_pos (kP_mem.mpr h), if_pos h, rpl_true]
  · rw [if_neg (fun z => h (kP_mem.mp z)), if_neg (fun z => h (kP_mem.mp z)), if_neg h]
    simp
theorem ins_mem {K : List (Nat × Nat)} {p q : Nat × Nat} : p ∈ ins K q ↔ p ∈ K ∨ p = q := by
  unfold ins
  by_cases h : q ∈ K
  · rw [if_pos h]
    constructor
    · exact .inl
    · rintro (z | z)
      · exact z
      · exact z ▸ h
  · rw [if_neg h]; simp
theorem ins_nd {K : List (Nat × Nat)} {q : Nat × Nat} (nd : K.Nodup) : (ins K q).Nodup := by
  unfold ins
  by_cases h : q ∈ K
  · rw [if_pos h]; exact nd
  · rw [if_neg h, List.nodup_append]
    exact ⟨nd, by simp, fun a ha b hb z => by simp at hb; subst hb; exact h (z ▸ ha)⟩
theorem ins_len {K : List (Nat × Nat)} {q : Nat × Nat} : (ins K q).length ≤ K.length + 1 := by
  unfold ins
  by_cases h : q ∈ K
  · rw [if_pos h]; omega
  · rw [if_neg h]; simp
/-- a set of numbers as a dict -/
abbrev dkI (K : List Nat) : U := .dk (K.map kI) (K.map fun _ => .bl true)
def insN (K : List Nat) (q : Nat) : List Nat := if q ∈ K then K else K ++ [q]
theorem dkI_put (K : List Nat) (q : Nat) : U.dk (ptk (K.map kI) (kI q)) (pt (K.map kI) (K.map fun _ => U.bl true) (kI q) (.bl true)) = dkI (insN K q) := by
  unfold ptk pt insN
  by_cases h : q ∈ K
  · rw [if_pos (kI_mem.mpr h), if_pos (kI_mem.mpr h), if_pos h, rpl_true]
  · rw [if_neg (fun z => h (kI_mem.mp z)), if_neg (fun z => h (kI_mem.mp z)), if_neg h]
    simp
theorem insN_mem {K : List Nat} {p q : Nat} : p ∈ insN K q ↔ p ∈ K ∨ p = q := by
  unfold insN
  by_cases h : q ∈ K
  · rw [if_pos h]
    constructor
    · exact .inl
    · rintro (z | z)
      · exact z
      · exact z ▸ h
  · rw [if_neg h]; simp
theorem insN_nd {K : List Nat} {q : Nat} (nd : K.Nodup) : (insN K q).Nodup := by
  unfold insN
  by_cases h : q ∈ K
  · rw [if_pos h]; exact nd
  · rw [if_neg h, List.nodup_append]
    exact ⟨nd, by simp, fun a ha b hb z => by simp at hb; subst hb; exact h (z ▸ ha)⟩
/-- dict(pairs), all true -/
abbrev kvU (h : Nat) : U := .tup [I h, .bl true]
theorem merge_dkI : ∀ (l K : List Nat), K.length + l.length ≤ SZ → mergeU false (l.map fun h => (I h, U.bl true)) (dkI K) = some (dkI (l.foldl insN K))
  | [], K, _ => rfl
  | h :: l, K, hz => by
    simp only [List.map_cons, mergeU, dput, sky]
    rw [if_pos (by simp at hz ⊢; omega)]
    simp only
    rw [show (Sum.inl ((h : Nat) : Int) : Key) = kI h from rfl, dkI_put]
    refine merge_dkI l (insN K h) ?_
    have : (insN K h).length ≤ K.length + 1 := by unfold insN; split <;> simp
    simp at hz
    omega
theorem col_dkI (μ : Mu) (l : List Nat) (hz : l.length ≤ SZ) : evCol false μ (.dict false) (l.map kvU) = some (dkI (l.foldl insN []), μ) := by
  simp only [evCol]
  rw [mapO_map (f := pairKV) (h := fun h => (I h, U.bl true)) fun x _ => rfl]
  simp only
  have := merge_dkI l [] (by simpa using hz)
  simp only [dkI, List.map_nil] at this
  rw [this]
  rfl
theorem merge_dtK : ∀ (l K : List (Nat × Nat)), K.length + l.length ≤ SZ → mergeU true (l.map fun p => (pU p, U.bl true)) (dtK K) = some (dtK (l.foldl ins K))
  | [], K, _ => rfl
  | p :: l, K, hz => by
    simp only [List.map_cons, mergeU, dput]
    rw [show tky (pU p) = some (kP p) from rfl]
    simp only
    rw [if_pos (by simp at hz ⊢; omega)]
    simp only
    rw [dtK_put]
    refine merge_dtK l (ins K p) ?_
    have := @ins_len K p
    simp at hz
    omega
theorem foldl_insN_mem (l : List Nat) : ∀ (K : List Nat) (x : Nat), x ∈ l.foldl insN K ↔ x ∈ K ∨ x ∈ l := by
  induction l with
  | nil => intro K x; simp
  | cons h l ih => intro K x; rw [List.foldl_cons, ih, insN_mem, List.mem_cons, or_assoc]
theorem foldl_insN_nd (l : List Nat) : ∀ (K : List Nat), K.Nodup → (l.foldl insN K).Nodup := by
  induction l with
  | nil => intro K h; exact h
  | cons h l ih => intro K nd; exact ih _ (insN_nd nd)
theorem foldl_ins_nd (l : List (Nat × Nat)) : ∀ (K : List (Nat × Nat)), K.Nodup → (l.foldl ins K).Nodup := by
  induction l with
  | nil => intro K h; exact h
  | cons h l ih => intro K nd; exact ih _ (ins_nd nd)
theorem foldl_ins_mem (l : List (Nat × Nat)) : ∀ (K : List (Nat × Nat)) (x : Nat × Nat), x ∈ l.foldl ins K ↔ x ∈ K ∨ x ∈ l := by
  induction l with
  | nil => intro K x; simp
  | cons h l ih => intro K x; rw [List.foldl_cons, ih, ins_mem, List.mem_cons, or_assoc]
end R

set_option Elab.async false
set_option linter.all false
set_option maxRecDepth 1000000
set_option maxHeartbeats 4000000
/-! the defs of the law, printed by gen.py -/
namespace K04
open PySem PySem.Spec PyProof.Rows L2 R
def b_is_whole : List S := [.ret (.bool true [(.isi (.var 0) .int), (.not (.isi (.var 0) .bool)), (.chain .le .le (.var 1) (.var 0) (.var 2))])]
def d_is_whole : Df := ⟨3, 3, b_is_whole, false⟩
def b_is_tuple_of : List S := [.ret (.bool true [(.isi (.var 0) .tuple), (.chain .le .le (.var 1) (.bi .len [(.var 0)]) (.var 2))])]
def d_is_tuple_of : Df := ⟨3, 3, b_is_tuple_of, false⟩
def c_is_ascending_0 : E := .comp false (.tup [(.slot 1), (.slot 2)]) .zip [(.var 0), (.slc false (.var 0) (.int 1) .non)] (.bl true) (.cmp .lt (.var 1) (.var 2)) [1, 2]
def b_is_ascending : List S := [.ret (.bi .all [c_is_ascending_0])]
def d_is_ascending : Df := ⟨1, 3, b_is_ascending, false⟩
def c_are_wholes_0 : E := .comp false (.slot 4) .ex [(.var 0)] (.bl true) (.call 0 [(.var 4), (.var 2), (.var 3)]) [4]
def b_are_wholes : List S := [.ret (.bool true [(.call 1 [(.var 0), (.var 1), (.var 1)]), (.bi .all [c_are_wholes_0])])]
def d_are_wholes : Df := ⟨4, 5, b_are_wholes, false⟩
def b_is_pair_of : List S := [.iff (.bool false [(.not (.call 1 [(.var 0), (.int 2), (.int 2)])), (.not (.call 0 [(.idx (.var 0) (.int 0)), (.int 0), (.bin false .sub (.var 1) (.int 1))])), (.not (.call 0 [(.idx (.var 0) (.int 1)), (.int 0), (.bin false .sub (.var 1) (.int 1))]))]) [.ret (.bl false)] [], .ret (.cmp .lt (.idx (.var 0) (.int 0)) (.idx (.var 0) (.int 1)))]
def d_is_pair_of : Df := ⟨2, 2, b_is_pair_of, false⟩
def c_are_friends_0 : E := .comp false (.slot 1) .ex [(.idx (.var 0) (.int 1))] (.bl true) (.call 4 [(.var 1), (.idx (.var 0) (.int 0))]) [1]
def b_are_friends : List S := [.iff (.bool false [(.not (.call 1 [(.var 0), (.int 2), (.int 2)])), (.not (.call 0 [(.idx (.var 0) (.int 0)), (.int 1), (.gint 60)])), (.not (.call 1 [(.idx (.var 0) (.int 1)), (.int 0), (.gint 400)]))]) [.ret (.bl false)] [], .ret (.bool true [(.bi .all [c_are_friends_0]), (.call 2 [(.idx (.var 0) (.int 1))])])]
def d_are_friends : Df := ⟨1, 2, b_are_friends, false⟩
def b_need_few : List S := [.iff (.bool false [(.not (.call 5 [(.var 0)])), (.cmp .gt (.idx (.var 0) (.int 0)) (.gint 12))]) [.stuck] []]
def d_need_few : Df := ⟨1, 1, b_need_few, false⟩
def b_is_pair_in : List S := [.ret (.bool true [(.call 3 [(.var 1), (.int 2), (.int 0), (.bin false .sub (.idx (.var 0) (.int 0)) (.int 1))]), (.cmp .isin (.var 1) (.idx (.var 0) (.int 1)))])]
def d_is_pair_in : Df := ⟨2, 2, b_is_pair_in, false⟩
def c_fits_row_0 : E := .comp false (.slot 2) .ex [(.var 1)] (.bl true) (.call 7 [(.var 0), (.var 2)]) [2]
def b_fits_row : List S := [.ret (.bool true [(.call 1 [(.var 1), (.int 0), (.gint 200)]), (.bi .all [c_fits_row_0])])]
def d_fits_row : Df := ⟨2, 3, b_fits_row, false⟩
def b_need_row : List S := [.iff (.not (.call 8 [(.var 0), (.var 1)])) [.stuck] []]
def d_need_row : Df := ⟨2, 2, b_need_row, false⟩
def b_need_both : List S := [.ex (.call 6 [(.var 0)]), .ex (.call 9 [(.var 0), (.var 1)])]
def d_need_both : Df := ⟨2, 2, b_need_both, false⟩
def c_steps_of_0 : E := .comp false (.slot 6) .rng [(.var 0)] (.bl true) (.bin false .shl (.int 1) (.var 6)) [6]
def lb_steps_of_1 : List S := [.set 5 (.col true .list .ex [(.idx (.var 2) (.neg (.int 1)))]), .asg2 (.var 5) (.var 3) (.var 5) (.var 4) (.bin false .bor (.idx (.var 5) (.var 3)) (.idx (.var 5) (.var 4))), .ex (.me false .append (.var 2) [(.var 5)])]
def l_steps_of_1 : S := .for_ (.tup [(.slot 3), (.slot 4)]) .ex [(.var 1)] lb_steps_of_1
def b_steps_of : List S := [.set 2 (.lst true [c_steps_of_0]), l_steps_of_1, .ret (.var 2)]
def d_steps_of : Df := ⟨2, 7, b_steps_of, false⟩
def b_all_of : List S := [.ret (.bin false .sub (.bin false .shl (.int 1) (.var 0)) (.int 1))]
def d_all_of : Df := ⟨1, 1, b_all_of, false⟩
def c_is_full_in_0 : E := .comp false (.slot 2) .ex [(.idx (.call 11 [(.var 0), (.var 1)]) (.neg (.int 1)))] (.bl true) (.cmp .eq (.var 2) (.call 12 [(.var 0)])) [2]
def b_is_full_in : List S := [.ret (.bi .all [c_is_full_in_0])]
def d_is_full_in : Df := ⟨2, 3, b_is_full_in, false⟩
def c_houses_of_0 : E := .comp false (.slot 1) .rng [(.gint 12)] (.cmp .eq (.bin false .band (.bin false .shr (.var 0) (.var 1)) (.int 1)) (.int 1)) (.var 1) [1]
def b_houses_of : List S := [.ret (.col false .tuple .ex [c_houses_of_0])]
def d_houses_of : Df := ⟨1, 2, b_houses_of, false⟩
def c_idle_in_0 : E := .comp false (.slot 3) .rng [(.bi .len [(.var 1)])] (.cmp .eq (.idx (.var 2) (.var 3)) (.idx (.var 2) (.bin false .add (.var 3) (.int 1)))) (.var 3) [3]
def b_idle_in : List S := [.set 2 (.call 11 [(.idx (.var 0) (.int 0)), (.var 1)]), .ret c_idle_in_0]
def d_idle_in : Df := ⟨2, 4, b_idle_in, false⟩
def b_is_row : List S := [.ex (.call 6 [(.var 0)]), .ret (.call 8 [(.var 0), (.var 1)])]
def d_is_row : Df := ⟨2, 2, b_is_row, false⟩
def c_known_behind_0 : E := .comp false (.slot 2) .ex [(.idx (.call 11 [(.idx (.var 0) (.int 0)), (.var 1)]) (.neg (.int 1)))] (.bl true) (.call 14 [(.var 2)]) [2]
def b_known_behind : List S := [.ex (.call 10 [(.var 0), (.var 1)]), .ret (.col false .tuple .ex [c_known_behind_0])]
def d_known_behind : Df := ⟨2, 3, b_known_behind, false⟩
def b_is_full : List S := [.ex (.call 10 [(.var 0), (.var 1)]), .ret (.call 13 [(.idx (.var 0) (.int 0)), (.var 1)])]
def d_is_full : Df := ⟨2, 2, b_is_full, false⟩
def c_first_full_0 : E := .comp false (.tup [(.slot 3), (.slot 4)]) .enm [(.call 11 [(.idx (.var 0) (.int 0)), (.var 1)])] (.cmp .isin (.call 12 [(.idx (.var 0) (.int 0))]) (.var 4)) (.var 3) [3, 4]
def b_first_full : List S := [.ex (.call 10 [(.var 0), (.var 1)]), .set 2 c_first_full_0, .ret (.ite (.cmp .ne (.var 2) (.lst false [])) (.idx (.var 2) (.int 0)) .non)]
def d_first_full : Df := ⟨2, 5, b_first_full, false⟩
def b_turned_row : List S := [.ex (.call 10 [(.var 0), (.var 1)]), .ret (.rev false (.var 1))]
def d_turned_row : Df := ⟨2, 2, b_turned_row, false⟩
def b_idle_calls : List S := [.ex (.call 10 [(.var 0), (.var 1)]), .ret (.col false .tuple .ex [(.call 15 [(.var 0), (.var 1)])])]
def d_idle_calls : Df := ⟨2, 2, b_idle_calls, false⟩
def c_taught_row_0 : E := .comp false (.tup [(.slot 3), (.slot 4)]) .enm [(.var 1)] (.cmp .notin (.var 3) (.var 2)) (.var 4) [3, 4]
def b_taught_row : List S := [.ex (.call 10 [(.var 0), (.var 1)]), .set 2 (.call 15 [(.var 0), (.var 1)]), .ret (.col false .tuple .ex [c_taught_row_0])]
def d_taught_row : Df := ⟨2, 5, b_taught_row, false⟩
def b__law_cup : List S := [.set 1 (.bi .abs [(.idx (.bin false .add (.col false .list .ex [(.var 0)]) (.lst false [(.int 0)])) (.int 0))]), .ret (.lst true [(.ite (.cmp .ge (.var 1) (.bin false .pow (.int 10) (.int 18))) (.bin false .fdiv (.var 1) (.int 131)) (.int 0)), (.bin false .add (.bin false .mod (.bi .int [(.bin false .add (.bin false .mul (.var 1) (.int 379)) (.int 5503))]) (.int 1964129453)) (.int 233))])]
def d__law_cup : Df := ⟨1, 2, b__law_cup, true⟩
def b__law_roll : List S := [.iff (.cmp .gt (.idx (.var 0) (.int 0)) (.int 0)) [.set 3 (.bin false .mod (.bi .int [(.idx (.var 0) (.int 0))]) (.var 1)), .sub (.var 0) (.int 0) (.bin false .fdiv (.idx (.var 0) (.int 0)) (.var 1)), .ret (.var 3)] [], .sub (.var 0) (.int 1) (.bin false .mod (.bi .int [(.bin false .add (.bin false .mul (.idx (.var 0) (.int 1)) (.int 29819)) (.int 9203))]) (.int 2147483543)), .set 2 (.bin false .mod (.bi .int [(.bin false .mul (.idx (.var 0) (.int 1)) (.bin false .add (.idx (.var 0) (.int 1)) (.int 311)))]) (.int 2147483587)), .ret (.bin false .mod (.bi .int [(.bin false .fdiv (.var 2) (.int 907))]) (.var 1))]
def d__law_roll : Df := ⟨2, 4, b__law_roll, false⟩
def b__law_some : List S := [.ret (.idx (.var 1) (.call 24 [(.var 0), (.bi .len [(.var 1)])]))]
def d__law_some : Df := ⟨2, 2, b__law_some, false⟩
def b__law_sort : List S := [.iff (.bool false [(.cmp .is_ (.var 0) .non), (.isi (.var 0) .bool)]) [.ret (.ite (.cmp .is_ (.var 0) .non) (.int 0) (.int 1))] [], .iff (.bool false [(.isi (.var 0) .int), (.isi (.var 0) .str)]) [.ret (.ite (.isi (.var 0) .int) (.int 2) (.int 3))] [], .ret (.ite (.isi (.var 0) .tuple) (.int 4) (.ite (.isi (.var 0) .list) (.int 5) (.int 6)))]
def d__law_sort : Df := ⟨1, 1, b__law_sort, false⟩
def c__law_like_0 : E := .comp false (.tup [(.slot 3), (.slot 4)]) .zip [(.var 0), (.var 1)] (.not (.call 27 [(.var 3), (.var 4)])) (.int 1) [3, 4]
def b__law_like : List S := [.set 2 (.call 26 [(.var 1)]), .iff (.bool false [(.cmp .ne (.call 26 [(.var 0)]) (.var 2)), (.cmp .eq (.var 2) (.int 6))]) [.ret (.bl false)] [], .iff (.cmp .isin (.var 2) (.tup [(.int 4), (.int 5)])) [.ret (.bool true [(.cmp .eq (.bi .len [(.var 0)]) (.bi .len [(.var 1)])), (.cmp .eq c__law_like_0 (.lst false []))])] [], .ret (.cmp .eq (.var 0) (.var 1))]
def d__law_like : Df := ⟨2, 5, b__law_like, false⟩
def lb__law_tree_0 : List S := [.ex (.me false .append (.var 6) [(.me false .pop1 (.var 5) [(.call 24 [(.var 0), (.bi .len [(.var 5)])])])])]
def l__law_tree_0 : S := .for_ (.slot 2) .rng [(.var 1)] lb__law_tree_0
def lb__law_tree_2 : List S := [.par [7, 8] [(.idx (.var 6) (.var 4)), (.idx (.var 6) (.call 25 [(.var 0), (.lst false [(.call 24 [(.var 0), (.var 4)]), (.bin false .sub (.var 4) (.int 1))])]))], .ex (.me false .append (.var 3) [(.tup [(.bi .min2 [(.var 7), (.var 8)]), (.bi .max2 [(.var 7), (.var 8)])])])]
def l__law_tree_2 : S := .for_ (.slot 4) .rng [(.int 1), (.var 1)] lb__law_tree_2
def b__law_tree : List S := [.par [5, 6] [(.col true .list .rng [(.var 1)]), (.lst true [])], l__law_tree_0, .set 3 (.lst true []), l__law_tree_2, .ret (.tup [(.var 1), (.col false .tuple .ex [(.col false .sorted .ex [(.var 3)])])])]
def d__law_tree : Df := ⟨2, 9, b__law_tree, false⟩
def c__law_friends_0 : E := .comp false (.slot 7) .ex [(.idx (.call 28 [(.var 0), (.var 1)]) (.int 1))] (.bl true) (.tup [(.var 7), (.bl true)]) [7]
def lb__law_friends_1 : List S := [.set 5 (.call 24 [(.var 0), (.var 1)]), .set 6 (.bin false .mod (.bi .int [(.bin false .add (.bin false .add (.var 5) (.int 1)) (.call 24 [(.var 0), (.bin false .sub (.var 1) (.int 1))]))]) (.var 1)), .sub (.var 3) (.tup [(.bi .min2 [(.var 5), (.var 6)]), (.bi .max2 [(.var 5), (.var 6)])]) (.bl true)]
def l__law_friends_1 : S := .for_ (.slot 4) .rng [(.ite (.cmp .gt (.var 1) (.int 1)) (.call 24 [(.var 0), (.bin false .add (.var 2) (.int 1))]) (.int 0))] lb__law_friends_1
def b__law_friends : List S := [.set 3 (.col true (.dict true) .ex [c__law_friends_0]), l__law_friends_1, .ret (.tup [(.var 1), (.col false .tuple .ex [(.col false .sorted .ex [(.var 3)])])])]
def d__law_friends : Df := ⟨3, 8, b__law_friends, false⟩
def c__law_apart_0 : E := .comp false (.slot 2) .ex [(.idx (.var 1) (.int 1))] (.cmp .gt (.call 24 [(.var 0), (.int 4)]) (.int 0)) (.var 2) [2]
def b__law_apart : List S := [.ret (.tup [(.idx (.var 1) (.int 0)), (.col false .tuple .ex [c__law_apart_0])])]
def d__law_apart : Df := ⟨2, 3, b__law_apart, false⟩
def c__law_row_0 : E := .comp false (.slot 3) .rng [(.ite (.cmp .ne (.idx (.var 1) (.int 1)) (.tup [])) (.call 24 [(.var 0), (.bin false .add (.var 2) (.int 1))]) (.int 0))] (.bl true) (.call 25 [(.var 0), (.idx (.var 1) (.int 1))]) [3]
def b__law_row : List S := [.ret (.col false .tuple .ex [c__law_row_0])]
def d__law_row : Df := ⟨3, 4, b__law_row, false⟩
def c__law_known_0 : E := .comp true (.slot 6) .rng [(.var 0)] (.bl true) (.col false (.dict false) .ex [(.lst false [(.tup [(.var 6), (.bl true)])])]) [6]
def lb__law_known_1 : List S := [.set 5 (.col false (.dict false) .ex [(.bin false .add (.itms (.idx (.var 2) (.var 3))) (.itms (.idx (.var 2) (.var 4))))]), .sub2 (.var 2) (.var 3) (.var 2) (.var 4) (.var 5) (.col false (.dict false) .ex [(.itms (.var 5))])]
def l__law_known_1 : S := .for_ (.tup [(.slot 3), (.slot 4)]) .ex [(.var 1)] lb__law_known_1
def c__law_known_3 : E := .comp false (.slot 7) .ex [(.var 2)] (.bl true) (.col false .tuple .ex [(.col false .sorted .ex [(.var 7)])]) [7]
def b__law_known : List S := [.set 2 c__law_known_0, l__law_known_1, .ret c__law_known_3]
def d__law_known : Df := ⟨2, 8, b__law_known, false⟩
def c__law_is_full_0 : E := .comp false (.slot 2) .ex [(.call 32 [(.var 0), (.var 1)])] (.cmp .lt (.bi .len [(.var 2)]) (.var 0)) (.var 2) [2]
def b__law_is_full : List S := [.ret (.cmp .eq c__law_is_full_0 (.lst false []))]
def d__law_is_full : Df := ⟨2, 3, b__law_is_full, false⟩
def c__law_is_row_0 : E := .comp false (.slot 3) .ex [(.var 2)] (.cmp .ne (.call 26 [(.var 3)]) (.int 2)) (.var 3) [3]
def lb__law_is_row_1 : List S := [.iff (.bool false [(.cmp .ne (.call 26 [(.var 2)]) (.int 4)), (.cmp .ne (.bi .len [(.var 2)]) (.int 2)), (.cmp .ne c__law_is_row_0 (.lst false [])), (.cmp .notin (.var 2) (.idx (.var 0) (.int 1)))]) [.ret (.bl false)] []]
def l__law_is_row_1 : S := .for_ (.slot 2) .ex [(.var 1)] lb__law_is_row_1
def b__law_is_row : List S := [.iff (.bool false [(.cmp .ne (.call 26 [(.var 1)]) (.int 4)), (.cmp .gt (.bi .len [(.var 1)]) (.int 200))]) [.ret (.bl false)] [], l__law_is_row_1, .ret (.bl true)]
def d__law_is_row : Df := ⟨2, 4, b__law_is_row, false⟩
def b__law_bent : List S := [.iff (.bool false [(.not (.isi (.var 1) .tuple)), (.cmp .eq (.var 1) (.tup [])), (.cmp .eq (.call 24 [(.var 0), (.int 7)]) (.int 0))]) [.set 2 (.lst false [.non, (.bl true), (.bl false), (.int 0), (.int 1), (.int 2), (.int 3), (.neg (.int 1)), (.int 12), (.int 60), (.str ""), (.tup []), (.lst false []), (.tup [(.int 0)]), (.tup [(.int 0), (.int 1)]), (.tup [(.int 1), (.int 0)]), (.tup [(.int 0), (.int 0)]), (.tup [(.tup [(.int 0), (.int 1)])])]), .ret (.call 25 [(.var 0), (.bin false .add (.var 2) (.ite (.cmp .eq (.call 26 [(.var 1)]) (.int 2)) (.bin false .mul (.lst false [(.bin false .add (.var 1) (.int 1)), (.bin false .sub (.var 1) (.int 1))]) (.int 5)) (.lst false [])))])] [], .par [3, 4] [(.call 24 [(.var 0), (.bi .len [(.var 1)])]), (.call 24 [(.var 0), (.int 12)])], .iff (.cmp .eq (.var 4) (.int 0)) [.ret (.bin false .add (.slc false (.var 1) .non (.var 3)) (.slc false (.var 1) (.bin false .add (.var 3) (.int 1)) .non))] [], .iff (.cmp .eq (.var 4) (.int 1)) [.ret (.bin false .add (.slc false (.var 1) .non (.bin false .add (.var 3) (.int 1))) (.slc false (.var 1) (.var 3) .non))] [], .iff (.cmp .eq (.var 4) (.int 2)) [.ret (.col false .list .ex [(.var 1)])] [], .iff (.cmp .eq (.var 4) (.int 3)) [.ret (.rev false (.var 1))] [], .ret (.bin false .add (.bin false .add (.slc false (.var 1) .non (.var 3)) (.tup [(.call 35 [(.var 0), (.idx (.var 1) (.var 3))])])) (.slc false (.var 1) (.bin false .add (.var 3) (.int 1)) .non))]
def d__law_bent : Df := ⟨2, 5, b__law_bent, false⟩
def c__law_line_0 : E := .comp false (.slot 1) .rng [(.bin false .sub (.var 0) (.int 1))] (.bl true) (.tup [(.var 1), (.bin false .add (.var 1) (.int 1))]) [1]
def b__law_line : List S := [.ret (.tup [(.var 0), (.col false .tuple .ex [c__law_line_0])])]
def d__law_line : Df := ⟨1, 2, b__law_line, false⟩
def c__law_ring_0 : E := .comp false (.slot 1) .rng [(.bin false .sub (.var 0) (.int 1))] (.bl true) (.tup [(.var 1), (.bin false .add (.var 1) (.int 1))]) [1]
def b__law_ring : List S := [.ret (.tup [(.var 0), (.col false .tuple .ex [(.col false .sorted .ex [(.bin false .add c__law_ring_0 (.lst false [(.tup [(.int 0), (.bin false .sub (.var 0) (.int 1))])]))])])])]
def d__law_ring : Df := ⟨1, 2, b__law_ring, false⟩
def c__law_star_0 : E := .comp false (.slot 1) .rng [(.int 1), (.var 0)] (.bl true) (.tup [(.int 0), (.var 1)]) [1]
def b__law_star : List S := [.ret (.tup [(.var 0), (.col false .tuple .ex [c__law_star_0])])]
def d__law_star : Df := ⟨1, 2, b__law_star, false⟩
def c__law_right_0 : E := .comp false (.tup [(.slot 16), (.slot 17)]) .ex [(.call 40 [(.var 5)])] (.bl true) (.tup [(.var 17), (.var 16)]) [16, 17]
def c__law_right_1 : E := .comp false (.slot 18) .ex [(.var 14)] (.bl true) (.bi .len [(.var 18)]) [18]
def lb__law_right_2 : List S := [.set 14 (.call 32 [(.var 3), (.slc false (.var 2) .non (.var 6))]), .iff (.bool true [(.cmp .is_ (.var 13) .non), (.cmp .eq (.bi .max1 [c__law_right_1]) (.var 3))]) [.set 13 (.var 6)] [], .iff (.bool true [(.cmp .lt (.var 6) (.bi .len [(.var 2)])), (.cmp .eq (.var 14) (.call 32 [(.var 3), (.slc false (.var 2) .non (.bin false .add (.var 6) (.int 1)))]))]) [.ex (.me false .append (.var 12) [(.var 6)])] []]
def l__law_right_2 : S := .for_ (.slot 6) .rng [(.bin false .add (.bi .len [(.var 2)]) (.int 1))] lb__law_right_2
def c__law_right_4 : E := .comp false (.tup [(.slot 6), (.slot 15)]) .enm [(.var 2)] (.cmp .notin (.var 6) (.var 12)) (.var 15) [6, 15]
def lb__law_right_5 : List S := [.iff (.not (.call 27 [(.call 16 [(.var 1), (.var 9)]), (.call 34 [(.var 1), (.var 9)])])) [.ret (.bl false)] []]
def l__law_right_5 : S := .for_ (.slot 9) .ex [(.bin false .add (.var 8) (.lst false [(.call 35 [(.var 0), (.var 2)]), (.call 35 [(.var 0), (.var 2)])]))] lb__law_right_5
def b__law_right : List S := [.set 3 (.idx (.var 1) (.int 0)), .par [10, 11] [(.call 32 [(.var 3), (.var 2)]), (.rev false (.var 2))], .set 4 (.lst false [(.call 16 [(.var 1), (.var 2)]), (.call 17 [(.var 1), (.var 2)]), (.call 18 [(.var 1), (.var 2)]), (.call 20 [(.var 1), (.var 2)]), (.call 18 [(.var 1), (.var 11)])]), .iff (.bool false [(.not (.call 27 [(.var 4), (.lst false [(.bl true), (.col false .tuple .ex [(.var 10)]), (.call 33 [(.var 3), (.var 2)]), (.var 11), (.call 33 [(.var 3), (.var 11)])])])), (.cmp .ne (.idx (.var 4) (.int 2)) (.idx (.var 4) (.int 4)))]) [.ret (.bl false)] [], .set 5 (.call 32 [(.var 3), (.var 11)]), .iff (.cmp .ne (.col false .sorted .ex [(.call 40 [(.var 10)])]) (.col false .sorted .ex [c__law_right_0])) [.ret (.bl false)] [], .asg (.tup [(.slot 12), (.slot 13)]) (.tup [(.lst true []), .non]), l__law_right_2, .set 7 (.col false .tuple .ex [c__law_right_4]), .set 4 (.lst false [(.call 19 [(.var 1), (.var 2)]), (.call 21 [(.var 1), (.var 2)]), (.call 22 [(.var 1), (.var 2)]), (.call 17 [(.var 1), (.var 7)]), (.call 21 [(.var 1), (.var 7)])]), .iff (.not (.call 27 [(.var 4), (.lst false [(.var 13), (.col false .tuple .ex [(.var 12)]), (.var 7), (.col false .tuple .ex [(.var 10)]), (.tup [])])])) [.ret (.bl false)] [], .set 8 (.lst false [(.slc false (.var 2) (.int 1) .non), (.col false .list .ex [(.var 2)]), (.bin false .add (.var 2) (.slc false (.var 2) .non (.int 1))), (.bin false .add (.var 2) (.tup [(.tup [(.int 0), (.int 0)])])), (.bin false .add (.var 2) (.tup [(.tup [(.int 1), (.int 0)])])), (.bin false .add (.var 2) (.tup [(.tup [(.int 0), (.bl true)])])), (.bin false .add (.var 2) (.tup [(.lst false [(.int 0), (.int 1)])])), .non, (.tup [(.int 0), (.int 1)])]), l__law_right_5, .ret (.bl true)]
def d__law_right : Df := ⟨3, 19, b__law_right, false⟩
def c__law_pairs_0 : E := .comp false (.slot 4) .ex [(.var 3)] (.bl true) (.tup [(.var 2), (.var 4)]) [4]
def lb__law_pairs_1 : List S := [.set 1 (.bin false .add (.var 1) c__law_pairs_0)]
def l__law_pairs_1 : S := .for_ (.tup [(.slot 2), (.slot 3)]) .enm [(.var 0)] lb__law_pairs_1
def b__law_pairs : List S := [.set 1 (.lst false []), l__law_pairs_1, .ret (.var 1)]
def d__law_pairs : Df := ⟨1, 5, b__law_pairs, false⟩
def c__law_great_right_0 : E := .comp false (.slot 8) .rng [(.var 1)] (.bl true) (.col false .tuple .rng [(.bi .min2 [(.bin false .add (.var 8) (.int 2)), (.var 1)])]) [8]
def b__law_great_right : List S := [.set 1 (.bin false .add (.int 2) (.call 24 [(.var 0), (.int 11)])), .par [6, 7] [(.call 36 [(.var 1)]), (.call 38 [(.var 1)])], .set 2 (.idx (.var 6) (.int 1)), .set 3 (.col false .tuple .ex [c__law_great_right_0]), .set 4 (.lst false [(.call 17 [(.var 6), (.var 2)]), (.call 18 [(.var 6), (.bin false .add (.var 2) (.rev false (.var 2)))]), (.call 19 [(.var 6), (.var 2)]), (.call 21 [(.var 6), (.bin false .add (.var 2) (.bin false .mul (.slc false (.var 2) (.neg (.int 1)) .non) (.int 3)))]), (.call 19 [(.var 6), (.slc false (.var 2) .non (.neg (.int 1)))])]), .iff (.not (.call 27 [(.var 4), (.lst false [(.var 3), (.bl true), (.bin false .sub (.var 1) (.int 1)), (.tup [(.bin false .sub (.var 1) (.int 1)), (.var 1), (.bin false .add (.var 1) (.int 1))]), .non])])) [.ret (.bl false)] [], .set 4 (.lst false [(.call 18 [(.var 7), (.bin false .add (.idx (.var 7) (.int 1)) (.slc false (.idx (.var 7) (.int 1)) .non (.neg (.int 1))))]), (.call 18 [(.var 7), (.idx (.var 7) (.int 1))]), (.idx (.call 17 [(.var 7), (.idx (.var 7) (.int 1))]) (.int 0)), (.call 19 [(.var 7), (.rev false (.idx (.var 7) (.int 1)))])]), .iff (.not (.call 27 [(.var 4), (.lst false [(.bl true), (.cmp .eq (.var 1) (.int 2)), (.col false .tuple .rng [(.var 1)]), (.bin false .sub (.var 1) (.int 1))])])) [.ret (.bl false)] [], .set 5 (.slc false (.bin false .mul (.var 2) (.int 200)) .non (.int 200)), .ret (.call 27 [(.lst false [(.call 16 [(.var 6), (.var 5)]), (.call 16 [(.var 6), (.bin false .add (.var 5) (.slc false (.var 2) .non (.int 1)))]), (.cmp .eq (.bi .len [(.call 21 [(.var 6), (.var 5)])]) (.bin false .sub (.int 200) (.bi .len [(.call 22 [(.var 6), (.var 5)])])))]), (.lst false [(.bl true), (.bl false), (.bl true)])])]
def d__law_great_right : Df := ⟨1, 9, b__law_great_right, false⟩
def lb_law_0 : List S := [.set 5 (.call 29 [(.var 1), (.bin false .add (.int 1) (.call 24 [(.var 1), (.int 6)])), (.int 4)]), .set 5 (.call 25 [(.var 1), (.lst false [(.var 5), (.var 5), (.call 30 [(.var 1), (.var 5)])])]), .iff (.not (.call 39 [(.var 1), (.var 5), (.call 31 [(.var 1), (.var 5), (.call 25 [(.var 1), (.lst false [(.int 3), (.int 9), (.int 20)])])])])) [.ret (.bl false)] []]
def l_law_0 : S := .for_ (.slot 2) .rng [(.int 6)] lb_law_0
def b_law : List S := [.set 1 (.call 23 [(.var 0)]), l_law_0, .par [6, 7] [(.call 37 [(.int 4)]), (.call 36 [(.int 4)])], .set 3 (.lst false [(.call 17 [(.var 7), (.tup [(.tup [(.int 0), (.int 1)]), (.tup [(.int 1), (.int 2)])])]), (.call 18 [(.var 6), (.tup [(.tup [(.int 0), (.int 1)]), (.tup [(.int 2), (.int 3)]), (.tup [(.int 1), (.int 2)]), (.tup [(.int 0), (.int 3)])])]), (.call 19 [(.var 6), (.tup [(.tup [(.int 0), (.int 1)]), (.tup [(.int 2), (.int 3)]), (.tup [(.int 1), (.int 2)]), (.tup [(.int 0), (.int 3)])])])]), .set 3 (.bin false .add (.var 3) (.lst false [(.call 19 [(.var 7), (.tup [(.tup [(.int 1), (.int 2)]), (.tup [(.int 0), (.int 1)])])]), (.call 20 [(.var 7), (.tup [(.tup [(.int 1), (.int 2)]), (.tup [(.int 0), (.int 1)])])]), (.call 21 [(.var 7), (.tup [(.tup [(.int 0), (.int 1)]), (.tup [(.int 0), (.int 1)]), (.tup [(.int 1), (.int 2)])])]), (.call 22 [(.var 7), (.tup [(.tup [(.int 0), (.int 1)]), (.tup [(.int 0), (.int 1)])])])])), .set 3 (.bin false .add (.var 3) (.lst false [(.call 16 [(.var 7), (.tup [(.tup [(.int 1), (.int 0)])])]), (.call 18 [(.tup [(.int 1), (.tup [])]), (.tup [])]), (.call 19 [(.tup [(.int 1), (.tup [])]), (.tup [])]), (.call 18 [(.tup [(.int 2), (.tup [])]), (.tup [])]), (.call 17 [(.tup [(.int 2), (.tup [])]), (.tup [])]), (.call 22 [(.var 7), (.tup [])])])), .set 4 (.lst false [(.tup [(.tup [(.int 0), (.int 1)]), (.tup [(.int 0), (.int 1), (.int 2)]), (.tup [(.int 0), (.int 1), (.int 2)]), (.tup [(.int 3)])]), (.bl true), (.int 3), .non, (.tup [(.tup [(.int 0), (.int 1)]), (.tup [(.int 1), (.int 2)])]), (.tup [(.int 1)]), (.tup [(.tup [(.int 0), (.int 1)])]), (.bl false), (.bl true), (.int 0), (.bl false), (.tup [(.tup [(.int 0)]), (.tup [(.int 1)])]), (.tup [])]), .ret (.bool true [(.call 27 [(.var 3), (.var 4)]), (.call 41 [(.var 1)])])]
def d_law : Df := ⟨1, 8, b_law, false⟩
def defs : List Df := d_is_whole :: d_is_tuple_of :: d_is_ascending :: d_are_wholes :: d_is_pair_of :: d_are_friends :: d_need_few :: d_is_pair_in :: d_fits_row :: d_need_row :: d_need_both :: d_steps_of :: d_all_of :: d_is_full_in :: d_houses_of :: d_idle_in :: d_is_row :: d_known_behind :: d_is_full :: d_first_full :: d_turned_row :: d_idle_calls :: d_taught_row :: d__law_cup :: d__law_roll :: d__law_some :: d__law_sort :: d__law_like :: d__law_tree :: d__law_friends :: d__law_apart :: d__law_row :: d__law_known :: d__law_is_full :: d__law_is_row :: d__law_bent :: d__law_line :: d__law_ring :: d__law_star :: d__law_right :: d__law_pairs :: d__law_great_right :: d_law :: []
theorem run_is_whole (k : Nat) (us : List U) (μ : Mu) : runF defs (k + 1) 0 us μ = (if us.length = 3 then endO false μ.length (exL (runF defs k) μ.length b_is_whole (us.map some ++ List.replicate 0 none) μ) else none) := rfl
theorem run_is_tuple_of (k : Nat) (us : List U) (μ : Mu) : runF defs (k + 1) 1 us μ = (if us.length = 3 then endO false μ.length (exL (runF defs k) μ.length b_is_tuple_of (us.map some ++ List.replicate 0 none) μ) else none) := rfl
theorem run_is_ascending (k : Nat) (us : List U) (μ : Mu) : runF defs (k + 1) 2 us μ = (if us.length = 1 then endO false μ.length (exL (runF defs k) μ.length b_is_ascending (us.map some ++ List.replicate 2 none) μ) else none) := rfl
theorem run_are_wholes (k : Nat) (us : List U) (μ : Mu) : runF defs (k + 1) 3 us μ = (if us.length = 4 then endO false μ.length (exL (runF defs k) μ.length b_are_wholes (us.map some ++ List.replicate 1 none) μ) else none) := rfl
theorem run_is_pair_of (k : Nat) (us : List U) (μ : Mu) : runF defs (k + 1) 4 us μ = (if us.length = 2 then endO false μ.length (exL (runF defs k) μ.length b_is_pair_of (us.map some ++ List.replicate 0 none) μ) else none) := rfl
theorem run_are_friends (k : Nat) (us : List U) (μ : Mu) : runF defs (k + 1) 5 us μ = (if us.length = 1 then endO false μ.length (exL (runF defs k) μ.length b_are_friends (us.map some ++ List.replicate 1 none) μ) else none) := rfl
theorem run_need_few (k : Nat) (us : List U) (μ : Mu) : runF defs (k + 1) 6 us μ = (if us.length = 1 then endO false μ.length (exL (runF defs k) μ.length b_need_few (us.map some ++ List.replicate 0 none) μ) else none) := rfl
theorem run_is_pair_in (k : Nat) (us : List U) (μ : Mu) : runF defs (k + 1) 7 us μ = (if us.length = 2 then endO false μ.length (exL (runF defs k) μ.length b_is_pair_in (us.map some ++ List.replicate 0 none) μ) else none) := rfl
theorem run_fits_row (k : Nat) (us : List U) (μ : Mu) : runF defs (k + 1) 8 us μ = (if us.length = 2 then endO false μ.length (exL (runF defs k) μ.length b_fits_row (us.map some ++ List.replicate 1 none) μ) else none) := rfl
theorem run_need_row (k : Nat) (us : List U) (μ : Mu) : runF defs (k + 1) 9 us μ = (if us.length = 2 then endO false μ.length (exL (runF defs k) μ.length b_need_row (us.map some ++ List.replicate 0 none) μ) else none) := rfl
theorem run_need_both (k : Nat) (us : List U) (μ : Mu) : runF defs (k + 1) 10 us μ = (if us.length = 2 then endO false μ.length (exL (runF defs k) μ.length b_need_both (us.map some ++ List.replicate 0 none) μ) else none) := rfl
theorem run_steps_of (k : Nat) (us : List U) (μ : Mu) : runF defs (k + 1) 11 us μ = (if us.length = 2 then endO false μ.length (exL (runF defs k) μ.length b_steps_of (us.map some ++ List.replicate 5 none) μ) else none) := rfl
theorem run_all_of (k : Nat) (us : List U) (μ : Mu) : runF defs (k + 1) 12 us μ = (if us.length = 1 then endO false μ.length (exL (runF defs k) μ.length b_all_of (us.map some ++ List.replicate 0 none) μ) else none) := rfl
theorem run_is_full_in (k : Nat) (us : List U) (μ : Mu) : runF defs (k + 1) 13 us μ = (if us.length = 2 then endO false μ.length (exL (runF defs k) μ.length b_is_full_in (us.map some ++ List.replicate 1 none) μ) else none) := rfl
theorem run_houses_of (k : Nat) (us : List U) (μ : Mu) : runF defs (k + 1) 14 us μ = (if us.length = 1 then endO false μ.length (exL (runF defs k) μ.length b_houses_of (us.map some ++ List.replicate 1 none) μ) else none) := rfl
theorem run_idle_in (k : Nat) (us : List U) (μ : Mu) : runF defs (k + 1) 15 us μ = (if us.length = 2 then endO false μ.length (exL (runF defs k) μ.length b_idle_in (us.map some ++ List.replicate 2 none) μ) else none) := rfl
theorem run_is_row (k : Nat) (us : List U) (μ : Mu) : runF defs (k + 1) 16 us μ = (if us.length = 2 then endO false μ.length (exL (runF defs k) μ.length b_is_row (us.map some ++ List.replicate 0 none) μ) else none) := rfl
theorem run_known_behind (k : Nat) (us : List U) (μ : Mu) : runF defs (k + 1) 17 us μ = (if us.length = 2 then endO false μ.length (exL (runF defs k) μ.length b_known_behind (us.map some ++ List.replicate 1 none) μ) else none) := rfl
theorem run_is_full (k : Nat) (us : List U) (μ : Mu) : runF defs (k + 1) 18 us μ = (if us.length = 2 then endO false μ.length (exL (runF defs k) μ.length b_is_full (us.map some ++ List.replicate 0 none) μ) else none) := rfl
theorem run_first_full (k : Nat) (us : List U) (μ : Mu) : runF defs (k + 1) 19 us μ = (if us.length = 2 then endO false μ.length (exL (runF defs k) μ.length b_first_full (us.map some ++ List.replicate 3 none) μ) else none) := rfl
theorem run_turned_row (k : Nat) (us : List U) (μ : Mu) : runF defs (k + 1) 20 us μ = (if us.length = 2 then endO false μ.length (exL (runF defs k) μ.length b_turned_row (us.map some ++ List.replicate 0 none) μ) else none) := rfl
theorem run_idle_calls (k : Nat) (us : List U) (μ : Mu) : runF defs (k + 1) 21 us μ = (if us.length = 2 then endO false μ.length (exL (runF defs k) μ.length b_idle_calls (us.map some ++ List.replicate 0 none) μ) else none) := rfl
theorem run_taught_row (k : Nat) (us : List U) (μ : Mu) : runF defs (k + 1) 22 us μ = (if us.length = 2 then endO false μ.length (exL (runF defs k) μ.length b_taught_row (us.map some ++ List.replicate 3 none) μ) else none) := rfl
theorem run__law_cup (k : Nat) (us : List U) (μ : Mu) : runF defs (k + 1) 23 us μ = (if us.length = 1 then endO true μ.length (exL (runF defs k) μ.length b__law_cup (us.map some ++ List.replicate 1 none) μ) else none) := rfl
theorem run__law_roll (k : Nat) (us : List U) (μ : Mu) : runF defs (k + 1) 24 us μ = (if us.length = 2 then endO false μ.length (exL (runF defs k) μ.length b__law_roll (us.map some ++ List.replicate 2 none) μ) else none) := rfl
theorem run__law_some (k : Nat) (us : List U) (μ : Mu) : runF defs (k + 1) 25 us μ = (if us.length = 2 then endO false μ.length (exL (runF defs k) μ.length b__law_some (us.map some ++ List.replicate 0 none) μ) else none) := rfl
theorem run__law_sort (k : Nat) (us : List U) (μ : Mu) : runF defs (k + 1) 26 us μ = (if us.length = 1 then endO false μ.length (exL (runF defs k) μ.length b__law_sort (us.map some ++ List.replicate 0 none) μ) else none) := rfl
theorem run__law_like (k : Nat) (us : List U) (μ : Mu) : runF defs (k + 1) 27 us μ = (if us.length = 2 then endO false μ.length (exL (runF defs k) μ.length b__law_like (us.map some ++ List.replicate 3 none) μ) else none) := rfl
theorem run__law_tree (k : Nat) (us : List U) (μ : Mu) : runF defs (k + 1) 28 us μ = (if us.length = 2 then endO false μ.length (exL (runF defs k) μ.length b__law_tree (us.map some ++ List.replicate 7 none) μ) else none) := rfl
theorem run__law_friends (k : Nat) (us : List U) (μ : Mu) : runF defs (k + 1) 29 us μ = (if us.length = 3 then endO false μ.length (exL (runF defs k) μ.length b__law_friends (us.map some ++ List.replicate 5 none) μ) else none) := rfl
theorem run__law_apart (k : Nat) (us : List U) (μ : Mu) : runF defs (k + 1) 30 us μ = (if us.length = 2 then endO false μ.length (exL (runF defs k) μ.length b__law_apart (us.map some ++ List.replicate 1 none) μ) else none) := rfl
theorem run__law_row (k : Nat) (us : List U) (μ : Mu) : runF defs (k + 1) 31 us μ = (if us.length = 3 then endO false μ.length (exL (runF defs k) μ.length b__law_row (us.map some ++ List.replicate 1 none) μ) else none) := rfl
theorem run__law_known (k : Nat) (us : List U) (μ : Mu) : runF defs (k + 1) 32 us μ = (if us.length = 2 then endO false μ.length (exL (runF defs k) μ.length b__law_known (us.map some ++ List.replicate 6 none) μ) else none) := rfl
theorem run__law_is_full (k : Nat) (us : List U) (μ : Mu) : runF defs (k + 1) 33 us μ = (if us.length = 2 then endO false μ.length (exL (runF defs k) μ.length b__law_is_full (us.map some ++ List.replicate 1 none) μ) else none) := rfl
theorem run__law_is_row (k : Nat) (us : List U) (μ : Mu) : runF defs (k + 1) 34 us μ = (if us.length = 2 then endO false μ.length (exL (runF defs k) μ.length b__law_is_row (us.map some ++ List.replicate 2 none) μ) else none) := rfl
theorem run__law_bent (k : Nat) (us : List U) (μ : Mu) : runF defs (k + 1) 35 us μ = (if us.length = 2 then endO false μ.length (exL (runF defs k) μ.length b__law_bent (us.map some ++ List.replicate 3 none) μ) else none) := rfl
theorem run__law_line (k : Nat) (us : List U) (μ : Mu) : runF defs (k + 1) 36 us μ = (if us.length = 1 then endO false μ.length (exL (runF defs k) μ.length b__law_line (us.map some ++ List.replicate 1 none) μ) else none) := rfl
theorem run__law_ring (k : Nat) (us : List U) (μ : Mu) : runF defs (k + 1) 37 us μ = (if us.length = 1 then endO false μ.length (exL (runF defs k) μ.length b__law_ring (us.map some ++ List.replicate 1 none) μ) else none) := rfl
theorem run__law_star (k : Nat) (us : List U) (μ : Mu) : runF defs (k + 1) 38 us μ = (if us.length = 1 then endO false μ.length (exL (runF defs k) μ.length b__law_star (us.map some ++ List.replicate 1 none) μ) else none) := rfl
theorem run__law_right (k : Nat) (us : List U) (μ : Mu) : runF defs (k + 1) 39 us μ = (if us.length = 3 then endO false μ.length (exL (runF defs k) μ.length b__law_right (us.map some ++ List.replicate 16 none) μ) else none) := rfl
theorem run__law_pairs (k : Nat) (us : List U) (μ : Mu) : runF defs (k + 1) 40 us μ = (if us.length = 1 then endO false μ.length (exL (runF defs k) μ.length b__law_pairs (us.map some ++ List.replicate 4 none) μ) else none) := rfl
theorem run__law_great_right (k : Nat) (us : List U) (μ : Mu) : runF defs (k + 1) 41 us μ = (if us.length = 1 then endO false μ.length (exL (runF defs k) μ.length b__law_great_right (us.map some ++ List.replicate 8 none) μ) else none) := rfl
theorem run_law (k : Nat) (us : List U) (μ : Mu) : runF defs (k + 1) 42 us μ = (if us.length = 1 then endO false μ.length (exL (runF defs k) μ.length b_law (us.map some ++ List.replicate 7 none) μ) else none) := rfl
end K04

set_option Elab.async false
set_option linter.all false
set_option maxRecDepth 100000
set_option maxHeartbeats 4000000
namespace K04
open PySem L2 R
/-! ### the cup -/
def Cup (c : U) : Prop := ∃ c0 c1 : Int, c = .lst [.int c0, .int c1] ∧ 0 ≤ c0 ∧ 0 ≤ c1 ∧ c1 < 2147483648
theorem at0 {u v : U} : atI [u, v] (0 : Int) = some u := rfl
theorem at1 {u v : U} : atI [u, v] (1 : Int) = some v := rfl
theorem ix0 : ixN 2 (0 : Int) = some 0 := rfl
theorem ix1 : ixN 2 (1 : Int) = some 1 := rfl
theorem roll_ok (k : Nat) {c : U} (ρ : Mu) (C : Cup c) {many : Nat} (h1 : 1 ≤ many) (h2 : many < 1073741824) :
    ∃ (r : Nat) (c' : U), runF defs (k + 1) 24 [.ob 0, I many] (c :: ρ) = some (I r, c' :: ρ) ∧ r < many ∧ Cup c' := by
  obtain ⟨c0, c1, rfl, p0, p1, p2⟩ := C
  have hm : (0 : Int) < many := by omega
  have hm2 : (many : Int) < 1073741824 := by omega
  have i0 : ∀ {u v : U} {l : Mu} {cal} {n0} {σ : R.Env}, σ[0]? = some (some (.ob 0)) → evalE cal n0 (.idx (.var 0) (.int 0)) σ (.lst [u, v] :: l) = some (u, .lst [u, v] :: l) := fun h => ev_idxL1 (ev_var h) ev_int rfl rfl
  have i1 : ∀ {u v : U} {l : Mu} {cal} {n0} {σ : R.Env}, σ[0]? = some (some (.ob 0)) → evalE cal n0 (.idx (.var 0) (.int 1)) σ (.lst [u, v] :: l) = some (v, .lst [u, v] :: l) := fun h => ev_idxL1 (ev_var h) ev_int rfl rfl
  rw [run__law_roll]
  by_cases hc : 0 < c0
  · refine ⟨(c0 % many).toNat, .lst [.int (c0 / many), .int c1], ?_, ?_, c0 / many, c1, rfl, Int.ediv_nonneg p0 (by omega), p1, p2⟩
    · have e : ((c0 % many).toNat : Int) = c0 % many := Int.toNat_of_nonneg (Int.emod_nonneg _ (by omega))
      have b : exL (runF defs k) (ρ.length + 1) b__law_roll [some (.ob 0), some (I many), none, none] (.lst [.int c0, .int c1] :: ρ) = some (.rt (.int (c0 % many)) (.lst [.int (c0 / many), .int c1] :: ρ)) := by
        unfold b__law_roll
        have x : exS (runF defs k) (ρ.length + 1) (.iff (.cmp .gt (.idx (.var 0) (.int 0)) (.int 0)) [.set 3 (.bin false .mod (.bi .int [(.idx (.var 0) (.int 0))]) (.var 1)), .sub (.var 0) (.int 0) (.bin false .fdiv (.idx (.var 0) (.int 0)) (.var 1)), .ret (.var 3)] []) [some (.ob 0), some (I many), none, none] (.lst [.int c0, .int c1] :: ρ) = some (.rt (.int (c0 % many)) (.lst [.int (c0 / many), .int c1] :: ρ)) := by
          refine (ex_ifT (ev_cmp (d := true) (i0 rfl) ev_int (by simp only [evCmp, evLt]; rw [decide_eq_true hc])) rfl).trans ?_
          refine (ex_seq (ex_set (u := .int (c0 % many)) (ev_bin (ev_bi (ev_l1 (i0 rfl)) rfl) (ev_var rfl) (by simp only [evBin]; rw [if_pos hm])))).trans ?_
          refine (ex_seq (show exS _ _ _ _ _ = some (.nx [some (.ob 0), some (I many), none, some (.int (c0 % many))] (.lst [.int (c0 / many), .int c1] :: ρ)) from ?_)).trans ?_
          · have f : evalE (runF defs k) (ρ.length + 1) (.bin false .fdiv (.idx (.var 0) (.int 0)) (.var 1)) [some (.ob 0), some (I many), none, some (.int (c0 % many))] (.lst [.int c0, .int c1] :: ρ) = some (.int (c0 / many), .lst [.int c0, .int c1] :: ρ) := ev_bin (i0 rfl) (ev_var rfl) (by simp only [evBin]; rw [if_pos ⟨hm, hm2⟩])
            exact ex_subL (i := 0) (xs := [.int c0, .int c1]) (jj := 0) (q := 0) f (ev_var rfl) ev_int rfl ix0 (by simp [okw, nomut])
          · exact ex_ret (ev_var rfl)
        simp only [exL, x]
      show _ = some (U.int ((c0 % many).toNat : Int), _)
      rw [e]
      exact (if_pos rfl).trans (run_rt b (fin_cut rfl (by simp)))
    · have := Int.emod_lt_of_pos c0 hm
      have := Int.emod_nonneg c0 (show (many : Int) ≠ 0 by omega)
      omega
  · have q0 := Int.emod_nonneg (c1 * 29819 + 9203) (show (2147483543 : Int) ≠ 0 by omega)
    have q1 := Int.emod_lt_of_pos (c1 * 29819 + 9203) (show (0 : Int) < 2147483543 by omega)
    generalize hv : (c1 * 29819 + 9203) % 2147483543 = v at q0 q1
    have r0 := Int.emod_nonneg ((v * (v + 311)) % 2147483587 / 907) (show (many : Int) ≠ 0 by omega)
    have r1 := Int.emod_lt_of_pos ((v * (v + 311)) % 2147483587 / 907) hm
    refine ⟨(((v * (v + 311)) % 2147483587 / 907) % many).toNat, .lst [.int c0, .int v], ?_, by omega, c0, v, rfl, p0, q0, by omega⟩
    have e : ((((v * (v + 311)) % 2147483587 / 907) % many).toNat : Int) = ((v * (v + 311)) % 2147483587 / 907) % many := Int.toNat_of_nonneg r0
    have b : exL (runF defs k) (ρ.length + 1) b__law_roll [some (.ob 0), some (I many), none, none] (.lst [.int c0, .int c1] :: ρ) = some (.rt (.int (((v * (v + 311)) % 2147483587 / 907) % many)) (.lst [.int c0, .int v] :: ρ)) := by
      unfold b__law_roll
      refine (ex_seq ((ex_ifF (ev_cmp (d := false) (i0 rfl) ev_int (by simp only [evCmp, evLt]; rw [decide_eq_false hc])) rfl).trans ex_nil)).trans ?_
      refine (ex_seq (show exS _ _ _ _ _ = some (.nx [some (.ob 0), some (I many), none, none] (.lst [.int c0, .int v] :: ρ)) from ?_)).trans ?_
      · have f : evalE (runF defs k) (ρ.length + 1) (.bin false .mod (.bi .int [(.bin false .add (.bin false .mul (.idx (.var 0) (.int 1)) (.int 29819)) (.int 9203))]) (.int 2147483543)) [some (.ob 0), some (I many), none, none] (.lst [.int c0, .int c1] :: ρ) = some (.int v, .lst [.int c0, .int c1] :: ρ) := by
          refine ev_bin (ev_bi (ev_l1 (ev_bin (ev_bin (i1 rfl) ev_int (by simp only [evBin]; rw [if_pos (by simp [mulOk])])) ev_int rfl)) rfl) ev_int ?_
          simp only [evBin]
          rw [if_pos (by omega), hv]
        exact ex_subL (i := 0) (xs := [.int c0, .int c1]) (jj := 1) (q := 1) f (ev_var rfl) ev_int rfl ix1 (by simp [okw, nomut])
      · have mk : mulOk v (v + 311) = true := by
          simp only [mulOk, Bool.or_eq_true, Bool.and_eq_true, decide_eq_true_eq]
          left; omega
        refine (ex_seq (ex_set (u := .int ((v * (v + 311)) % 2147483587)) (ev_bin (ev_bi (ev_l1 (ev_bin (i1 rfl) (ev_bin (i1 rfl) ev_int rfl) (by simp only [evBin]; rw [if_pos mk]))) rfl) ev_int (by simp only [evBin]; rw [if_pos (by omega)])))).trans ?_
        refine ex_ret (ev_bin (ev_bi (ev_l1 (ev_bin (ev_var rfl) ev_int (by simp only [evBin]; rw [if_pos (by omega)]))) rfl) (ev_var rfl) ?_)
        simp only [evBin]
        rw [if_pos hm]
    show _ = some (U.int ((((v * (v + 311)) % 2147483587 / 907) % many).toNat : Int), _)
    rw [e]
    exact (if_pos rfl).trans (run_rt b (fin_cut rfl (by simp)))
theorem cup_ok (k : Nat) (ns : List Int) (h : ns.length ≤ 63) : ∃ c, Cup c ∧ runF defs (k + 1) 23 [.scr ns] [] = some (.ob 0, [c]) := by
  rw [run__law_cup]
  obtain ⟨v, hv, h0⟩ : ∃ v : Int, atI (ns.map U.int ++ [U.int 0]) (0 : Int) = some (.int v) ∧ True := by
    cases ns with
    | nil => exact ⟨0, rfl, trivial⟩
    | cons a l => exact ⟨a, atI_of (j := 0) rfl, trivial⟩
  generalize ha : (if v < 0 then -v else v) = a
  have a0 : 0 ≤ a := by subst ha; split <;> omega
  have q0 := Int.emod_nonneg (a * 379 + 5503) (show (1964129453 : Int) ≠ 0 by omega)
  have q1 := Int.emod_lt_of_pos (a * 379 + 5503) (show (0 : Int) < 1964129453 by omega)
  refine ⟨.lst [.int (if a < 10 ^ 18 then 0 else a / 131), .int ((a * 379 + 5503) % 1964129453 + 233)], ⟨_, _, rfl, ?_, by omega, by omega⟩, ?_⟩
  · split
    · omega
    · exact Int.ediv_nonneg a0 (by omega)
  · have s : evalE (runF defs k) 0 (.bi .abs [(.idx (.bin false .add (.col false .list .ex [(.var 0)]) (.lst false [(.int 0)])) (.int 0))]) [some (.scr ns), none] [] = some (.int a, []) := by
      refine ev_bi (ev_l1 (ev_idxL (u := .lst (ns.map U.int ++ [U.int 0])) (ev_bin (ev_col (ev_l1 (ev_var rfl)) rfl rfl) (show evalE _ _ (.lst false [(.int 0)]) _ _ = some (.lst [.int 0], []) from ?_) ?_) ev_int rfl hv)) ?_
      · simp [evalE, evalL, SZ, R.fresh]
      · simp only [evBin, asL, R.fresh]
        rw [if_pos (by simp; unfold SZ; omega)]
        rfl
      · simp only [evBi, ha]
    have b : exL (runF defs k) 0 b__law_cup [some (.scr ns), none] [] = some (.rt (.ob 0) [.lst [.int (if a < 10 ^ 18 then 0 else a / 131), .int ((a * 379 + 5503) % 1964129453 + 233)]]) := by
      unfold b__law_cup
      refine (ex_seq (ex_set s)).trans ?_
      refine ex_ret ?_
      by_cases hlt : a < 10 ^ 18
      · have hlt' : a < 1000000000000000000 := by omega
        simp [exL, exS, evalE, evalL, evalB, evBin, evCmp, evEq, evIn, evLt, neg?, evIdx, evBi, evIsi, truth, asL, asS, cont, asInt, R.fresh, bindP, bindPs, bindI, R.finish, frz, wipeE, R.isNon, okw, okm, evMe, sky, tky, evSlc, evRev, bnd, walk, items, evCol, dget, dput, storeSub, intL, intT, bls, pairKV, keyU, keysU, mulOk, dat, mapO, nomut, nomuts, lk, biF, D0, hlt', SZ, mulOk]
      · have hlt' : ¬ a < 1000000000000000000 := by omega
        simp [exL, exS, evalE, evalL, evalB, evBin, evCmp, evEq, evIn, evLt, neg?, evIdx, evBi, evIsi, truth, asL, asS, cont, asInt, R.fresh, bindP, bindPs, bindI, R.finish, frz, wipeE, R.isNon, okw, okm, evMe, sky, tky, evSlc, evRev, bnd, walk, items, evCol, dget, dput, storeSub, intL, intT, bls, pairKV, keyU, keysU, mulOk, dat, mapO, nomut, nomuts, lk, biF, D0, hlt', SZ, mulOk]
    exact (if_pos rfl).trans (run_rt b rfl)
end K04

set_option Elab.async false
set_option linter.all false
set_option maxRecDepth 100000
set_option maxHeartbeats 4000000
namespace K04
open PySem L2 R
/-! ### sorts and likeness of plain values -/
def srtU : U → Int
  | .non => 0
  | .bl _ => 1
  | .int _ => 2
  | .str _ => 3
  | .tup _ => 4
  | .lst _ => 5
  | _ => 6
theorem sort_pl (k : Nat) {B d : Nat} {u : U} (h : Pl B d u) (μ : Mu) : runF defs (k + 1) 26 [u] μ = some (.int (srtU u), μ) := by
  rw [run__law_sort]
  cases h <;> simp [b__law_sort, exL, exS, evalE, evalL, evalB, evBin, evCmp, evEq, evIn, evLt, neg?, evIdx, evBi, evIsi, truth, asL, asS, cont, asInt, R.fresh, bindP, bindPs, bindI, R.finish, frz, wipeE, R.isNon, okw, okm, evMe, sky, tky, evSlc, evRev, bnd, walk, items, evCol, dget, dput, storeSub, intL, intT, bls, pairKV, keyU, keysU, mulOk, dat, mapO, nomut, nomuts, lk, biF, D0, endO, srtU]
theorem like_pl {B : Nat} (hB : B ≤ SZ) {d : Nat} {u : U} (h : Pl B d u) : ∀ (k : Nat) (μ : Mu), d ≤ D0 → runF defs (k + d + 2) 27 [u, u] μ = some (.bl true, μ) := by
  have flat : ∀ (u : U) (k : Nat) (μ : Mu), Pl B 0 u → runF defs (k + 2) 27 [u, u] μ = some (.bl true, μ) := fun u k μ h => by
    rw [run__law_like]
    have s := sort_pl k h μ
    have e := eq_self μ h (by decide)
    have n6 : srtU u ≠ 6 ∧ srtU u ≠ 4 ∧ srtU u ≠ 5 := by cases h <;> simp [srtU]
    have e6 : (srtU u == 6) = false := by simpa using n6.1
    have e4 : PyData.eqv (.int 4) (.int (srtU u)) = false := by simp [PyData.eqv]; intro z; exact n6.2.1 z.symm
    have e5 : PyData.eqv (.int 5) (.int (srtU u)) = false := by simp [PyData.eqv]; intro z; exact n6.2.2 z.symm
    have e6' : PyData.eqv (.int (srtU u)) (.int 6) = false := by simp [PyData.eqv]; exact n6.1
    have er : PyData.eqv (.int (srtU u)) (.int (srtU u)) = true := by simp [PyData.eqv]
    simp only [evEq] at e
    simp [b__law_like, s, evalE, evalL, evalB, evCmp, evEq, neg?, dat_int, er, e6', exL, exS, truth, evIn, cont, SZ, D0, dat, mapO, e4, e5]
    simp only [D0] at e
    simp [e, endO, R.finish, frz]
  induction h with
  | non d => intro k μ _; exact flat _ (k + d) μ (.non 0)
  | bl d b => intro k μ _; exact flat _ (k + d) μ (.bl 0 b)
  | int d i => intro k μ _; exact flat _ (k + d) μ (.int 0 i)
  | str d x => intro k μ _; exact flat _ (k + d) μ (.str 0 x)
  | @tup d xs hz h ih =>
    intro k μ hd
    rw [show k + (d + 1) + 2 = (k + d + 2) + 1 by omega, run__law_like]
    have s := sort_pl (k + d + 1) (Pl.tup hz h) μ
    rw [show k + d + 1 + 1 = k + d + 2 by omega] at s
    have c : evalE (runF defs (k + d + 2)) μ.length c__law_like_0 [some (.tup xs), some (.tup xs), some (.int 4), none, none] μ = some (.lst [], μ) := by
      have e : zips xs xs = xs.map fun u => .tup [u, u] := by
        have := zip_enc id id xs xs
        rw [List.map_id] at this
        rw [this]
        clear this s h hz ih
        induction xs with
        | nil => rfl
        | cons x xs ih => simpa using ih
      refine (ev_comp (us := [.tup xs, .tup xs]) (μ1 := μ) (xs := xs.map fun u => .tup [u, u]) (ev_l2 (ev_var rfl) (ev_var rfl)) (by simp only [walk, e]) (compL_filter (enc := fun u => U.tup [u, u]) (g := id) (p := fun _ => false) (fun u hu => ?_) (by simp; omega))).trans (by simp [R.fresh])
      exact cs_no (v := .bl false) rfl (ev_not (d := true) (ev_call (ev_l2 (ev_var rfl) (ev_var rfl)) (ih u hu k μ (by omega))) rfl) rfl
    simp only [srtU] at s
    have sz2 : 2 ≤ SZ := by decide
    simp [b__law_like, sz2, s, c, exL, exS, evalE, evalL, evalB, evBin, evCmp, evEq, evIn, evLt, neg?, evIdx, evBi, evIsi, truth, asL, asS, cont, asInt, R.fresh, bindP, bindPs, bindI, R.finish, frz, wipeE, R.isNon, okw, okm, evMe, sky, tky, evSlc, evRev, bnd, walk, items, evCol, dget, dput, storeSub, intL, intT, bls, pairKV, keyU, keysU, mulOk, dat, mapO, nomut, nomuts, lk, biF, D0, endO, PyData.eqv, PyData.eqvAll]
  | @lst d xs hz h ih =>
    intro k μ hd
    rw [show k + (d + 1) + 2 = (k + d + 2) + 1 by omega, run__law_like]
    have s := sort_pl (k + d + 1) (Pl.lst hz h) μ
    rw [show k + d + 1 + 1 = k + d + 2 by omega] at s
    have c : evalE (runF defs (k + d + 2)) μ.length c__law_like_0 [some (.lst xs), some (.lst xs), some (.int 5), none, none] μ = some (.lst [], μ) := by
      have e : zips xs xs = xs.map fun u => .tup [u, u] := by
        have := zip_enc id id xs xs
        rw [List.map_id] at this
        rw [this]
        clear this s h hz ih
        induction xs with
        | nil => rfl
        | cons x xs ih => simpa using ih
      refine (ev_comp (us := [.lst xs, .lst xs]) (μ1 := μ) (xs := xs.map fun u => .tup [u, u]) (ev_l2 (ev_var rfl) (ev_var rfl)) (by simp only [walk, e]) (compL_filter (enc := fun u => U.tup [u, u]) (g := id) (p := fun _ => false) (fun u hu => ?_) (by simp; omega))).trans (by simp [R.fresh])
      exact cs_no (v := .bl false) rfl (ev_not (d := true) (ev_call (ev_l2 (ev_var rfl) (ev_var rfl)) (ih u hu k μ (by omega))) rfl) rfl
    simp only [srtU] at s
    have sz2 : 2 ≤ SZ := by decide
    simp [b__law_like, sz2, s, c, exL, exS, evalE, evalL, evalB, evBin, evCmp, evEq, evIn, evLt, neg?, evIdx, evBi, evIsi, truth, asL, asS, cont, asInt, R.fresh, bindP, bindPs, bindI, R.finish, frz, wipeE, R.isNon, okw, okm, evMe, sky, tky, evSlc, evRev, bnd, walk, items, evCol, dget, dput, storeSub, intL, intT, bls, pairKV, keyU, keysU, mulOk, dat, mapO, nomut, nomuts, lk, biF, D0, endO, PyData.eqv, PyData.eqvAll]
/-! ### one of some -/
theorem some_ok (k : Nat) {c : U} (ρ : Mu) (C : Cup c) {u : U} {xs : List U} (hu : u = .lst xs ∨ u = .tup xs) (hf : frz (ρ.length + 1) (c :: ρ) D0 u = some u → True) (h1 : 1 ≤ xs.length) (h2 : xs.length < 1073741824) (hfr : ∀ x ∈ xs, ∀ c', frz (ρ.length + 1) (c' :: ρ) D0 x = some x) :
    ∃ (v : U) (c' : U), runF defs (k + 2) 25 [.ob 0, u] (c :: ρ) = some (v, c' :: ρ) ∧ v ∈ xs ∧ Cup c' := by
  obtain ⟨r, c', e, hr, C'⟩ := roll_ok k ρ C h1 h2
  refine ⟨xs[r], c', ?_, List.getElem_mem hr, C'⟩
  rw [run__law_some]
  have b : exL (runF defs (k + 1)) (ρ.length + 1) b__law_some [some (.ob 0), some u] (c :: ρ) = some (.rt xs[r] (c' :: ρ)) := by
    unfold b__law_some
    refine ex_ret (ev_idx (ev_var rfl) (ev_call (us := [.ob 0, I xs.length]) (ev_l2 (ev_var rfl) (ev_bi (ev_l1 (ev_var rfl)) ?_)) e) ?_)
    · rcases hu with rfl | rfl <;> rfl
    · rcases hu with rfl | rfl <;> exact atI_of (by simp [hr])
  exact (if_pos rfl).trans (run_rt b (fin_cut (hfr _ (List.getElem_mem hr) _) (by simp)))
/-! ### what is whole, what is a tuple -/
def isW (lo hi : Int) : U → Bool
  | .int i => decide (lo ≤ i ∧ i ≤ hi)
  | _ => false
def isT (lo hi : Nat) : U → Bool
  | .tup xs => decide (lo ≤ xs.length ∧ xs.length ≤ hi)
  | _ => false
theorem whole_pl (k : Nat) {B d : Nat} {u : U} (h : Pl B d u) (lo hi : Int) (μ : Mu) : runF defs (k + 1) 0 [u, .int lo, .int hi] μ = some (.bl (isW lo hi u), μ) := by
  rw [run_is_whole]
  cases h with
  | int d i =>
    by_cases h1 : i < lo
    · have : isW lo hi (.int i) = false := by simp [isW]; omega
      rw [this]
      simp [b_is_whole, h1, exL, exS, evalE, evalL, evalB, evBin, evCmp, evEq, evIn, evLt, neg?, evIdx, evBi, evIsi, truth, asL, asS, cont, asInt, R.fresh, bindP, bindPs, bindI, R.finish, frz, wipeE, R.isNon, okw, okm, evMe, sky, tky, evSlc, evRev, bnd, walk, items, evCol, dget, dput, storeSub, intL, intT, bls, pairKV, keyU, keysU, mulOk, dat, mapO, nomut, nomuts, lk, biF, D0, endO]
    · by_cases h2 : hi < i
      · have : isW lo hi (.int i) = false := by simp [isW]; omega
        rw [this]
        simp [b_is_whole, h1, h2, exL, exS, evalE, evalL, evalB, evBin, evCmp, evEq, evIn, evLt, neg?, evIdx, evBi, evIsi, truth, asL, asS, cont, asInt, R.fresh, bindP, bindPs, bindI, R.finish, frz, wipeE, R.isNon, okw, okm, evMe, sky, tky, evSlc, evRev, bnd, walk, items, evCol, dget, dput, storeSub, intL, intT, bls, pairKV, keyU, keysU, mulOk, dat, mapO, nomut, nomuts, lk, biF, D0, endO]
      · have : isW lo hi (.int i) = true := by simp [isW]; omega
        rw [this]
        simp [b_is_whole, h1, h2, exL, exS, evalE, evalL, evalB, evBin, evCmp, evEq, evIn, evLt, neg?, evIdx, evBi, evIsi, truth, asL, asS, cont, asInt, R.fresh, bindP, bindPs, bindI, R.finish, frz, wipeE, R.isNon, okw, okm, evMe, sky, tky, evSlc, evRev, bnd, walk, items, evCol, dget, dput, storeSub, intL, intT, bls, pairKV, keyU, keysU, mulOk, dat, mapO, nomut, nomuts, lk, biF, D0, endO]
  | _ => simp [b_is_whole, exL, exS, evalE, evalL, evalB, evBin, evCmp, evEq, evIn, evLt, neg?, evIdx, evBi, evIsi, truth, asL, asS, cont, asInt, R.fresh, bindP, bindPs, bindI, R.finish, frz, wipeE, R.isNon, okw, okm, evMe, sky, tky, evSlc, evRev, bnd, walk, items, evCol, dget, dput, storeSub, intL, intT, bls, pairKV, keyU, keysU, mulOk, dat, mapO, nomut, nomuts, lk, biF, D0, endO, isW]
theorem tuple_pl (k : Nat) {B d : Nat} {u : U} (h : Pl B d u) (lo hi : Nat) (μ : Mu) : runF defs (k + 1) 1 [u, I lo, I hi] μ = some (.bl (isT lo hi u), μ) := by
  rw [run_is_tuple_of]
  cases h with
  | @tup d xs hz h =>
    by_cases h1 : (xs.length : Int) < lo
    · have : isT lo hi (.tup xs) = false := by simp [isT]; omega
      rw [this]
      have h1' : xs.length < lo := by omega
      simp [b_is_tuple_of, h1', exL, exS, evalE, evalL, evalB, evBin, evCmp, evEq, evIn, evLt, neg?, evIdx, evBi, evIsi, truth, asL, asS, cont, asInt, R.fresh, bindP, bindPs, bindI, R.finish, frz, wipeE, R.isNon, okw, okm, evMe, sky, tky, evSlc, evRev, bnd, walk, items, evCol, dget, dput, storeSub, intL, intT, bls, pairKV, keyU, keysU, mulOk, dat, mapO, nomut, nomuts, lk, biF, D0, endO]
    · by_cases h2 : (hi : Int) < xs.length
      · have : isT lo hi (.tup xs) = false := by simp [isT]; omega
        rw [this]
        have h1' : ¬ xs.length < lo := by omega
        have h2' : hi < xs.length := by omega
        simp [b_is_tuple_of, h1', h2', exL, exS, evalE, evalL, evalB, evBin, evCmp, evEq, evIn, evLt, neg?, evIdx, evBi, evIsi, truth, asL, asS, cont, asInt, R.fresh, bindP, bindPs, bindI, R.finish, frz, wipeE, R.isNon, okw, okm, evMe, sky, tky, evSlc, evRev, bnd, walk, items, evCol, dget, dput, storeSub, intL, intT, bls, pairKV, keyU, keysU, mulOk, dat, mapO, nomut, nomuts, lk, biF, D0, endO]
      · have : isT lo hi (.tup xs) = true := by simp [isT]; omega
        rw [this]
        have h1' : ¬ xs.length < lo := by omega
        have h2' : ¬ hi < xs.length := by omega
        simp [b_is_tuple_of, h1', h2', exL, exS, evalE, evalL, evalB, evBin, evCmp, evEq, evIn, evLt, neg?, evIdx, evBi, evIsi, truth, asL, asS, cont, asInt, R.fresh, bindP, bindPs, bindI, R.finish, frz, wipeE, R.isNon, okw, okm, evMe, sky, tky, evSlc, evRev, bnd, walk, items, evCol, dget, dput, storeSub, intL, intT, bls, pairKV, keyU, keysU, mulOk, dat, mapO, nomut, nomuts, lk, biF, D0, endO]
  | _ => simp [b_is_tuple_of, exL, exS, evalE, evalL, evalB, evBin, evCmp, evEq, evIn, evLt, neg?, evIdx, evBi, evIsi, truth, asL, asS, cont, asInt, R.fresh, bindP, bindPs, bindI, R.finish, frz, wipeE, R.isNon, okw, okm, evMe, sky, tky, evSlc, evRev, bnd, walk, items, evCol, dget, dput, storeSub, intL, intT, bls, pairKV, keyU, keysU, mulOk, dat, mapO, nomut, nomuts, lk, biF, D0, endO, isT]
/-! ### friends -/
structure Town (n : Nat) (es : List (Nat × Nat)) : Prop where
  n1 : 1 ≤ n
  n12 : n ≤ 12
  len : es.length ≤ 400
  lt : ∀ p ∈ es, p.1 < p.2 ∧ p.2 < n
  asc : es.Pairwise lex
theorem pl_pU {B d : Nat} (p : Nat × Nat) (hB : 2 ≤ B) : Pl B (d + 1) (pU p) := .tup (by simpa using hB) fun u hu => by
  simp only [List.mem_cons, List.not_mem_nil, or_false] at hu
  rcases hu with rfl | rfl <;> exact .int _ _
theorem pl_es {B d : Nat} {es : List (Nat × Nat)} (hB : 2 ≤ B) (h : es.length ≤ B) : Pl B (d + 2) (.tup (es.map pU)) := .tup (by simpa using h) fun u hu => by
  obtain ⟨p, _, rfl⟩ := List.mem_map.mp hu
  exact pl_pU p hB
theorem pl_tU {B d : Nat} {n : Nat} {es : List (Nat × Nat)} (hB : 2 ≤ B) (h : es.length ≤ B) : Pl B (d + 3) (tU n es) := .tup (by simpa using hB) fun u hu => by
  simp only [List.mem_cons, List.not_mem_nil, or_false] at hu
  rcases hu with rfl | rfl
  · exact .int _ _
  · exact pl_es hB h
theorem pair_ok (k : Nat) (p : Nat × Nat) (n : Nat) (μ : Mu) (h : p.1 < p.2 ∧ p.2 < n) : runF defs (k + 2) 4 [pU p, I n] μ = some (.bl true, μ) := by
  rw [run_is_pair_of]
  have t := tuple_pl k (pl_pU (B := 2) (d := 0) p (by omega)) 2 2 μ
  have w1 := whole_pl k (Pl.int (B := 0) 0 (p.1 : Int)) 0 ((n : Int) - 1) μ
  have w2 := whole_pl k (Pl.int (B := 0) 0 (p.2 : Int)) 0 ((n : Int) - 1) μ
  have e1 : isW 0 ((n : Int) - 1) (I p.1) = true := by simp [isW]; omega
  have e2 : isW 0 ((n : Int) - 1) (I p.2) = true := by simp [isW]; omega
  have e3 : isT 2 2 (pU p) = true := by simp [isT]
  rw [e1] at w1
  rw [e2] at w2
  rw [e3] at t
  have a0 : atI [I p.1, I p.2] (0 : Int) = some (I p.1) := rfl
  have a1 : atI [I p.1, I p.2] (1 : Int) = some (I p.2) := rfl
  unfold b_is_pair_of
  refine (if_pos rfl).trans (run_rt (μ1 := μ) (u := .bl true) ?_ (fin_cut rfl (by simp)))
  refine (ex_seq ((ex_ifF (u := .bl false) (μ1 := μ) (ev_orF (μ1 := μ) (ev_not (d := true) (ev_call (ev_lcons (ev_var rfl) (ev_l2 ev_int ev_int)) t) rfl) (ev_orF (μ1 := μ) (ev_not (d := true) (ev_call (ev_lcons (ev_idxT (ev_var rfl) ev_int a0) (ev_l2 ev_int (ev_bin (ev_var rfl) ev_int rfl))) w1) rfl) (ev_b1 (ev_not (d := true) (ev_call (ev_lcons (ev_idxT (ev_var rfl) ev_int a1) (ev_l2 ev_int (ev_bin (ev_var rfl) ev_int rfl))) w2) rfl)))) rfl).trans ex_nil)).trans ?_
  refine ex_ret (ev_cmp (d := true) (ev_idxT (ev_var rfl) ev_int a0) (ev_idxT (ev_var rfl) ev_int a1) ?_)
  exact lt_I.trans (by rw [decide_eq_true h.1])
theorem asc_ok (k : Nat) (es : List (Nat × Nat)) (μ : Mu) (h : es.Pairwise lex) (hz : es.length ≤ 400) : runF defs (k + 1) 2 [.tup (es.map pU)] μ = some (.bl true, μ) := by
  rw [run_is_ascending]
  have c : evalE (runF defs k) μ.length c_is_ascending_0 [some (.tup (es.map pU)), none, none] μ = some (.lst ((es.zip (es.drop 1)).map fun _ => .bl true), μ) := by
    refine (ev_comp (us := [.tup (es.map pU), .tup ((es.drop 1).map pU)]) (μ1 := μ) ?_ ?_ (compL_all (enc := fun q : (Nat × Nat) × (Nat × Nat) => .tup [pU q.1, pU q.2]) (g := fun _ => .bl true) (xs := es.zip (es.drop 1)) (fun q hq => ?_) (by simp; unfold SZ; omega))).trans rfl
    · have := cutU_from (es.map pU) 1
      simp [exL, exS, evalE, evalL, evalB, evBin, evCmp, evEq, evIn, evLt, neg?, evIdx, evBi, evIsi, truth, asL, asS, cont, asInt, R.fresh, bindP, bindPs, bindI, R.finish, frz, wipeE, R.isNon, okw, okm, evMe, sky, tky, evSlc, evRev, bnd, walk, items, evCol, dget, dput, storeSub, intL, intT, bls, pairKV, keyU, keysU, mulOk, dat, mapO, nomut, nomuts, lk, biF, D0, endO] at this ⊢
      exact this
    · simp only [walk, zip_enc]
    · have hl := lex_lt (chain_zip h q hq) μ
      simp only [cstep, bindP, bindPs, wipeE, evalE, truth]
      simp [evCmp, hl]
  simp [b_is_ascending, c, exL, exS, evalE, evalL, evalB, evBin, evCmp, evEq, evIn, evLt, neg?, evIdx, evBi, evIsi, truth, asL, asS, cont, asInt, R.fresh, bindP, bindPs, bindI, R.finish, frz, wipeE, R.isNon, okw, okm, evMe, sky, tky, evSlc, evRev, bnd, walk, items, evCol, dget, dput, storeSub, intL, intT, bls, pairKV, keyU, keysU, mulOk, dat, mapO, nomut, nomuts, lk, biF, D0, endO, all_bls, -List.map_const', -List.drop_one]
theorem friends_ok (k : Nat) {n : Nat} {es : List (Nat × Nat)} (μ : Mu) (T : Town n es) : runF defs (k + 3) 5 [tU n es] μ = some (.bl true, μ) := by
  rw [run_are_friends]
  have n1 := T.n1
  have n12 := T.n12
  have hl := T.len
  have t := tuple_pl (k + 1) (pl_tU (B := 400) (d := 0) (n := n) (es := es) (by omega) hl) 2 2 μ
  have w := whole_pl (k + 1) (Pl.int (B := 0) 0 (n : Int)) 1 60 μ
  have t2 := tuple_pl (k + 1) (pl_es (B := 400) (d := 0) (es := es) (by omega) hl) 0 400 μ
  have a := asc_ok (k + 1) es μ T.asc T.len
  have e1 : isT 2 2 (tU n es) = true := by simp [isT]
  have e2 : isW 1 60 (I n) = true := by simp [isW]; omega
  have e3 : isT 0 400 (.tup (es.map pU)) = true := by simp [isT]; omega
  rw [e1] at t
  rw [e2] at w
  rw [e3] at t2
  have a0 : atI [I n, .tup (es.map pU)] (0 : Int) = some (I n) := rfl
  have a1 : atI [I n, .tup (es.map pU)] (1 : Int) = some (.tup (es.map pU)) := rfl
  have c : evalE (runF defs (k + 2)) μ.length c_are_friends_0 [some (tU n es), none] μ = some (.lst (es.map fun _ => .bl true), μ) := by
    refine (ev_comp (us := [.tup (es.map pU)]) (μ1 := μ) ?_ rfl (compL_all (enc := pU) (g := fun _ => .bl true) (xs := es) (fun q hq => ?_) (by simp; unfold SZ; omega))).trans rfl
    · simp [exL, exS, evalE, evalL, evalB, evBin, evCmp, evEq, evIn, evLt, neg?, evIdx, evBi, evIsi, truth, asL, asS, cont, asInt, R.fresh, bindP, bindPs, bindI, R.finish, frz, wipeE, R.isNon, okw, okm, evMe, sky, tky, evSlc, evRev, bnd, walk, items, evCol, dget, dput, storeSub, intL, intT, bls, pairKV, keyU, keysU, mulOk, dat, mapO, nomut, nomuts, lk, biF, D0, endO, a1]
    · simp [cstep, exL, exS, evalE, evalL, evalB, evBin, evCmp, evEq, evIn, evLt, neg?, evIdx, evBi, evIsi, truth, asL, asS, cont, asInt, R.fresh, bindP, bindPs, bindI, R.finish, frz, wipeE, R.isNon, okw, okm, evMe, sky, tky, evSlc, evRev, bnd, walk, items, evCol, dget, dput, storeSub, intL, intT, bls, pairKV, keyU, keysU, mulOk, dat, mapO, nomut, nomuts, lk, biF, D0, endO, a0, pair_ok k q n μ (T.lt q hq)]
  unfold b_are_friends
  refine (if_pos rfl).trans (run_rt (μ1 := μ) (u := .bl true) ?_ (fin_cut rfl (by simp)))
  refine (ex_seq ((ex_ifF (u := .bl false) (μ1 := μ) (ev_orF (μ1 := μ) (ev_not (d := true) (ev_call (ev_lcons (ev_var rfl) (ev_l2 ev_int ev_int)) t) rfl) (ev_orF (μ1 := μ) (ev_not (d := true) (ev_call (ev_lcons (ev_idxT (ev_var rfl) ev_int a0) (ev_l2 ev_int ev_gint)) w) rfl) (ev_b1 (ev_not (d := true) (ev_call (ev_lcons (ev_idxT (ev_var rfl) ev_int a1) (ev_l2 ev_int ev_gint)) t2) rfl)))) rfl).trans ex_nil)).trans ?_
  refine ex_ret (ev_andT (μ1 := μ) (ev_bi (ev_l1 c) ?_) (ev_b1 (ev_call (ev_l1 (ev_idxT (ev_var rfl) ev_int a1)) a)))
  simp [evBi, bls, asL, all_bls, -List.map_const']
theorem need_few_ok (k : Nat) {n : Nat} {es : List (Nat × Nat)} (μ : Mu) (T : Town n es) : runF defs (k + 4) 6 [tU n es] μ = some (.non, μ) := by
  rw [run_need_few]
  unfold b_need_few
  refine (if_pos rfl).trans (run_nx (μ1 := μ) (σ := [some (tU n es)]) ?_ (fin_cut rfl (by simp)))
  refine (ex_seq ((ex_ifF (u := .bl false) (μ1 := μ) (ev_orF (μ1 := μ) (ev_not (d := true) (ev_call (ev_l1 (ev_var rfl)) (friends_ok k μ T)) rfl) (ev_b1 (ev_cmp (d := false) (ev_idxT (ev_var rfl) ev_int (w := I n) rfl) ev_gint ?_))) rfl).trans ex_nil)).trans ex_nil
  have := T.n12
  simp only [evCmp, evLt]
  rw [decide_eq_false (by omega)]
end K04

set_option Elab.async false
set_option linter.all false
set_option maxRecDepth 100000
set_option maxHeartbeats 4000000
/-! who knows what behind a row of calls; nothing of the program here -/
namespace K04
abbrev Kn := Nat → Nat → Bool
def k0 : Kn := fun h o => h == o
def stp (K : Kn) (p : Nat × Nat) : Kn := fun h o => if h = p.1 ∨ h = p.2 then K p.1 o || K p.2 o else K h o
def kn (row : List (Nat × Nat)) : Kn := row.foldl stp k0
def tab (n : Nat) (K : Kn) : List (List Nat) := (List.range n).map fun h => (List.range n).filter (K h)
theorem snoc_ind {α : Type} {P : List α → Prop} (h0 : P []) (h1 : ∀ l a, P l → P (l ++ [a])) (l : List α) : P l := by
  have : ∀ l : List α, P l.reverse := fun l => by
    induction l with
    | nil => exact h0
    | cons a l ih => rw [List.reverse_cons]; exact h1 _ _ ih
  have := this l.reverse
  rwa [List.reverse_reverse] at this
theorem kn_snoc (row : List (Nat × Nat)) (p : Nat × Nat) : kn (row ++ [p]) = stp (kn row) p := by simp [kn]
theorem k0_iff {h o : Nat} : k0 h o = true ↔ h = o := by simp [k0]
theorem stp_iff {K : Kn} {p : Nat × Nat} {h o : Nat} : stp K p h o = true ↔ ∃ x, stp k0 p h x = true ∧ K x o = true := by
  unfold stp
  by_cases c : h = p.1 ∨ h = p.2
  · simp only [if_pos c, Bool.or_eq_true, k0_iff]
    constructor
    · rintro (z | z)
      · exact ⟨p.1, .inl rfl, z⟩
      · exact ⟨p.2, .inr rfl, z⟩
    · rintro ⟨x, rfl | rfl, z⟩
      · exact .inl z
      · exact .inr z
  · simp only [if_neg c, k0_iff]
    constructor
    · exact fun z => ⟨h, rfl, z⟩
    · rintro ⟨x, rfl, z⟩
      exact z
theorem stp_sym {p : Nat × Nat} {h o : Nat} : stp k0 p h o = true ↔ stp k0 p o h = true := by
  unfold stp
  by_cases c : h = p.1 ∨ h = p.2 <;> by_cases d : o = p.1 ∨ o = p.2
  · simp only [if_pos c, if_pos d, Bool.or_eq_true, k0_iff]
    omega
  · simp only [if_pos c, if_neg d, Bool.or_eq_true, k0_iff]
    omega
  · simp only [if_neg c, if_pos d, Bool.or_eq_true, k0_iff]
    omega
  · simp only [if_neg c, if_neg d, k0_iff]
    omega
theorem fold_lin : ∀ (row : List (Nat × Nat)) (S : Kn) (h o : Nat), row.foldl stp S h o = true ↔ ∃ x, kn row h x = true ∧ S x o = true
  | [], S, h, o => by
    simp only [List.foldl_nil, kn, k0_iff]
    constructor
    · exact fun z => ⟨h, rfl, z⟩
    · rintro ⟨x, rfl, z⟩
      exact z
  | p :: row, S, h, o => by
    rw [List.foldl_cons, fold_lin row]
    have e : ∀ x, kn (p :: row) h x = true ↔ ∃ y, kn row h y = true ∧ stp k0 p y x = true := fun x => fold_lin row (stp k0 p) h x
    constructor
    · rintro ⟨y, h1, h2⟩
      obtain ⟨x, h3, h4⟩ := stp_iff.mp h2
      exact ⟨x, (e x).mpr ⟨y, h1, h3⟩, h4⟩
    · rintro ⟨x, h1, h2⟩
      obtain ⟨y, h3, h4⟩ := (e x).mp h1
      exact ⟨y, h3, stp_iff.mpr ⟨x, h4, h2⟩⟩
/-- the row turned over: who knows is known -/
theorem kn_rev : ∀ (row : List (Nat × Nat)) (h o : Nat), kn row.reverse h o = kn row o h
  | [], h, o => by
    rw [Bool.eq_iff_iff]
    simp only [List.reverse_nil, kn, List.foldl_nil, k0_iff]
    omega
  | p :: row, h, o => by
    rw [Bool.eq_iff_iff, List.reverse_cons, kn_snoc, stp_iff]
    have e : kn (p :: row) o h = true ↔ ∃ y, kn row o y = true ∧ stp k0 p y h = true := fold_lin row (stp k0 p) o h
    rw [e]
    constructor
    · rintro ⟨x, h1, h2⟩
      rw [kn_rev row] at h2
      exact ⟨x, h2, stp_sym.mp h1⟩
    · rintro ⟨x, h1, h2⟩
      exact ⟨x, stp_sym.mp h2, by rw [kn_rev row]; exact h1⟩
def InN (n : Nat) (row : List (Nat × Nat)) : Prop := ∀ p ∈ row, p.1 < n ∧ p.2 < n
theorem InN.snoc {n : Nat} {row : List (Nat × Nat)} {p : Nat × Nat} (h : InN n (row ++ [p])) : InN n row ∧ p.1 < n ∧ p.2 < n := ⟨fun q hq => h q (by simp [hq]), h p (by simp)⟩
theorem InN.take {n : Nat} {row : List (Nat × Nat)} (h : InN n row) (i : Nat) : InN n (row.take i) := fun q hq => h q (List.mem_of_mem_take hq)
theorem InN.rev {n : Nat} {row : List (Nat × Nat)} (h : InN n row) : InN n row.reverse := fun q hq => h q (by simpa using hq)
theorem kn_lt {n : Nat} (row : List (Nat × Nat)) (hr : InN n row) : ∀ {h o : Nat}, kn row h o = true → h < n → o < n := by
  induction row using snoc_ind with
  | h0 => intro h o z hh; have := k0_iff.mp z; omega
  | h1 row p ih =>
    intro h o z hh
    obtain ⟨h1, h2, h3⟩ := hr.snoc
    rw [kn_snoc] at z
    unfold stp at z
    split at z
    · rcases Bool.or_eq_true .. ▸ z with z | z
      · exact ih h1 z h2
      · exact ih h1 z h3
    · exact ih h1 z hh
/-! ### alike on n houses -/
def Eqn (n : Nat) (K L : Kn) : Prop := ∀ h, h < n → ∀ o, o < n → K h o = L h o
theorem tab_eq {n : Nat} {K L : Kn} : tab n K = tab n L ↔ Eqn n K L := by
  unfold tab Eqn
  rw [List.map_inj_left]
  constructor
  · intro z h hh o ho
    have := z h (by simpa using hh)
    rw [Bool.eq_iff_iff]
    have e : o ∈ (List.range n).filter (K h) ↔ o ∈ (List.range n).filter (L h) := by rw [this]
    simpa [ho] using e
  · intro z h hh
    exact List.filter_congr fun o ho => z h (by simpa using hh) o (by simpa using ho)
theorem Eqn.stp {n : Nat} {K L : Kn} (e : Eqn n K L) {p : Nat × Nat} (h1 : p.1 < n) (h2 : p.2 < n) : Eqn n (stp K p) (stp L p) := fun h hh o ho => by
  unfold K04.stp
  split
  · rw [e _ h1 o ho, e _ h2 o ho]
  · exact e h hh o ho
theorem Eqn.symm {n : Nat} {K L : Kn} (e : Eqn n K L) : Eqn n L K := fun h hh o ho => (e h hh o ho).symm
theorem Eqn.trans {n : Nat} {K L M : Kn} (e : Eqn n K L) (f : Eqn n L M) : Eqn n K M := fun h hh o ho => (e h hh o ho).trans (f h hh o ho)
/-! ### who knows all -/
def rowFull (n : Nat) (K : Kn) (h : Nat) : Bool := (List.range n).all (K h)
def fullB (n : Nat) (K : Kn) : Bool := (List.range n).all (rowFull n K)
def someFull (n : Nat) (K : Kn) : Bool := (List.range n).any (rowFull n K)
theorem rowFull_len {n : Nat} {K : Kn} {h : Nat} : rowFull n K h = true ↔ ((List.range n).filter (K h)).length = n := by
  have := List.length_filter_eq_length_iff (p := K h) (l := List.range n)
  rw [List.length_range] at this
  rw [this, rowFull, List.all_eq_true]
theorem full_rev (n : Nat) (row : List (Nat × Nat)) : fullB n (kn row.reverse) = fullB n (kn row) := by
  rw [Bool.eq_iff_iff]
  simp only [fullB, rowFull, List.all_eq_true, List.mem_range]
  constructor
  · intro z h hh o ho
    have := z o ho h hh
    rwa [kn_rev] at this
  · intro z h hh o ho
    have := z o ho h hh
    rwa [kn_rev]
/-! ### idle calls -/
def idle (n : Nat) (row : List (Nat × Nat)) (i : Nat) : Bool := decide (tab n (kn (row.take i)) = tab n (kn (row.take (i + 1))))
def idles (n : Nat) (row : List (Nat × Nat)) : List Nat := (List.range row.length).filter (idle n row)
def rest (n : Nat) (row : List (Nat × Nat)) : List (Nat × Nat) := (((List.range row.length).zip row).filter fun q => decide (q.1 ∉ idles n row)).map (·.2)
theorem idle_old (n : Nat) (row : List (Nat × Nat)) (p : Nat × Nat) {i : Nat} (h : i < row.length) : idle n (row ++ [p]) i = idle n row i := by
  unfold idle
  rw [List.take_append_of_le_length (by omega), List.take_append_of_le_length (by omega)]
theorem idle_new (n : Nat) (row : List (Nat × Nat)) (p : Nat × Nat) : idle n (row ++ [p]) row.length = decide (tab n (kn row) = tab n (kn (row ++ [p]))) := by
  unfold idle
  rw [List.take_append_of_le_length (Nat.le_refl _), List.take_length, List.take_of_length_le (by simp)]
theorem idles_snoc (n : Nat) (row : List (Nat × Nat)) (p : Nat × Nat) : idles n (row ++ [p]) = idles n row ++ if tab n (kn row) = tab n (kn (row ++ [p])) then [row.length] else [] := by
  unfold idles
  rw [List.length_append, List.length_singleton, List.range_succ, List.filter_append]
  congr 1
  · exact List.filter_congr fun i hi => idle_old n row p (by simpa using hi)
  · rw [List.filter_cons, idle_new]
    simp
theorem idles_lt {n : Nat} {row : List (Nat × Nat)} {i : Nat} (h : i ∈ idles n row) : i < row.length := by
  unfold idles at h
  simp at h
  exact h.1
theorem rest_snoc (n : Nat) (row : List (Nat × Nat)) (p : Nat × Nat) : rest n (row ++ [p]) = rest n row ++ if tab n (kn row) = tab n (kn (row ++ [p])) then [] else [p] := by
  unfold rest
  rw [List.length_append, List.length_singleton, List.range_succ, List.zip_append (by simp), List.filter_append, List.map_append]
  congr 1
  · congr 1
    refine List.filter_congr fun q hq => ?_
    have hl : q.1 < row.length := by
      have := (List.of_mem_zip hq).1
      simpa using this
    rw [idles_snoc]
    congr 1
    rw [List.mem_append, eq_iff_iff]
    constructor
    · exact fun z w => z (.inl w)
    · intro z w
      rcases w with w | w
      · exact z w
      · split at w
        · simp at w; omega
        · simp at w
  · rw [idles_snoc]
    split
    · simp
    · have : row.length ∉ idles n row := fun z => by have := idles_lt z; omega
      simp [this]
theorem rest_ok {n : Nat} (row : List (Nat × Nat)) (hr : InN n row) : Eqn n (kn (rest n row)) (kn row) ∧ idles n (rest n row) = [] ∧ InN n (rest n row) ∧ (idles n row).length + (rest n row).length = row.length := by
  induction row using snoc_ind with
  | h0 => exact ⟨fun _ _ _ _ => rfl, rfl, fun q hq => by simp [rest] at hq, rfl⟩
  | h1 row p ih =>
    obtain ⟨r1, r2, r3⟩ := hr.snoc
    obtain ⟨a, b, c, d⟩ := ih r1
    rw [rest_snoc, idles_snoc]
    by_cases e : tab n (kn row) = tab n (kn (row ++ [p]))
    · rw [if_pos e, if_pos e, List.append_nil]
      exact ⟨a.trans (tab_eq.mp e), b, c, by simp; omega⟩
    · rw [if_neg e, if_neg e, List.append_nil]
      have s : Eqn n (kn (rest n row ++ [p])) (kn (row ++ [p])) := by
        rw [kn_snoc, kn_snoc]
        exact a.stp r2 r3
      refine ⟨s, ?_, fun q hq => ?_, by simp; omega⟩
      · rw [idles_snoc, b, if_neg fun z => e ?_]
        · rfl
        · exact tab_eq.mpr (a.symm.trans ((tab_eq.mp z).trans s))
      · rcases List.mem_append.mp hq with q1 | q1
        · exact c q q1
        · simp at q1; subst q1; exact ⟨r2, r3⟩
/-! ### the first who knows all -/
def firstF (n : Nat) (row : List (Nat × Nat)) : Option Nat := (List.range (row.length + 1)).find? fun i => someFull n (kn (row.take i))
/-! ### bits -/
def b0 (n : Nat) : List Nat := (List.range n).map fun h => 1 <<< h
def bstp (bs : List Nat) (p : Nat × Nat) : List Nat := (bs.set p.1 (bs[p.1]?.getD 0 ||| bs[p.2]?.getD 0)).set p.2 (bs[p.1]?.getD 0 ||| bs[p.2]?.getD 0)
def bits (n : Nat) (row : List (Nat × Nat)) : List Nat := row.foldl bstp (b0 n)
theorem bits_snoc (n : Nat) (row : List (Nat × Nat)) (p : Nat × Nat) : bits n (row ++ [p]) = bstp (bits n row) p := by simp [bits]
theorem bits_len (n : Nat) (row : List (Nat × Nat)) : (bits n row).length = n := by
  induction row using snoc_ind with
  | h0 => simp [bits, b0]
  | h1 row p ih => rw [bits_snoc]; simp [bstp, ih]
theorem bits_at {n : Nat} (row : List (Nat × Nat)) (hr : InN n row) : ∀ {h : Nat}, h < n → ∀ o, ((bits n row)[h]?.getD 0).testBit o = kn row h o := by
  induction row using snoc_ind with
  | h0 =>
    intro h hh o
    rw [Bool.eq_iff_iff, show kn [] h o = k0 h o from rfl, k0_iff]
    simp [bits, b0, hh, Nat.testBit_shiftLeft, Nat.one_shiftLeft, Nat.testBit_two_pow]
  | h1 row p ih =>
    intro h hh o
    obtain ⟨r1, r2, r3⟩ := hr.snoc
    have hl := bits_len n row
    rw [bits_snoc, kn_snoc]
    unfold bstp stp
    by_cases c2 : p.2 = h
    · rw [List.getElem?_set, if_pos c2, if_pos (by rw [List.length_set]; omega), if_pos (.inr c2.symm)]
      simp only [Option.getD_some, Nat.testBit_or, ih r1 r2, ih r1 r3]
    · rw [List.getElem?_set, if_neg c2, List.getElem?_set]
      by_cases c1 : p.1 = h
      · rw [if_pos c1, if_pos (by omega), if_pos (.inl c1.symm)]
        simp only [Option.getD_some, Nat.testBit_or, ih r1 r2, ih r1 r3]
      · rw [if_neg c1, if_neg (fun z => z.elim (fun z => c1 z.symm) fun z => c2 z.symm)]
        exact ih r1 hh o
theorem bits_lt {n : Nat} (row : List (Nat × Nat)) (hr : InN n row) {h : Nat} (hh : h < n) : (bits n row)[h]?.getD 0 < 2 ^ n := by
  refine Nat.lt_pow_two_of_testBit _ fun i hi => ?_
  rw [bits_at row hr hh]
  cases e : kn row h i with
  | false => rfl
  | true => have := kn_lt row hr e hh; omega
/-- alike bits, alike tables -/
theorem bits_eq {n : Nat} {row row' : List (Nat × Nat)} (hr : InN n row) (hr' : InN n row') : bits n row = bits n row' ↔ tab n (kn row) = tab n (kn row') := by
  rw [tab_eq]
  constructor
  · intro z h hh o _
    rw [← bits_at row hr hh, ← bits_at row' hr' hh, z]
  · intro z
    apply List.ext_getElem?
    intro i
    by_cases hi : i < n
    · have e : (bits n row)[i]?.getD 0 = (bits n row')[i]?.getD 0 := Nat.eq_of_testBit_eq fun o => by
        rw [bits_at row hr hi, bits_at row' hr' hi]
        by_cases ho : o < n
        · exact z i hi o ho
        · cases e : kn row i o with
          | true => have := kn_lt row hr e hi; omega
          | false =>
            cases e' : kn row' i o with
            | true => have := kn_lt row' hr' e' hi; omega
            | false => rfl
      have l := bits_len n row
      have l' := bits_len n row'
      rw [List.getElem?_eq_getElem (by omega), List.getElem?_eq_getElem (by omega)] at e ⊢
      simpa using e
    · rw [List.getElem?_eq_none_iff.mpr (by rw [bits_len]; omega), List.getElem?_eq_none_iff.mpr (by rw [bits_len]; omega)]
theorem bits_all {n : Nat} (row : List (Nat × Nat)) (hr : InN n row) {h : Nat} (hh : h < n) : (bits n row)[h]?.getD 0 = 2 ^ n - 1 ↔ rowFull n (kn row) h = true := by
  simp only [rowFull, List.all_eq_true, List.mem_range]
  constructor
  · intro z o ho
    rw [← bits_at row hr hh, z, Nat.testBit_two_pow_sub_one]
    simpa using ho
  · intro z
    refine Nat.eq_of_testBit_eq fun o => ?_
    rw [bits_at row hr hh, Nat.testBit_two_pow_sub_one]
    by_cases ho : o < n
    · rw [z o ho, decide_eq_true ho]
    · rw [decide_eq_false ho]
      cases e : kn row h o with
      | true => have := kn_lt row hr e hh; omega
      | false => rfl
theorem tab_bits {n : Nat} (row : List (Nat × Nat)) (hr : InN n row) : tab n (kn row) = (bits n row).map fun b => (List.range n).filter b.testBit := by
  have e : (bits n row).map (fun b => (List.range n).filter b.testBit) = (List.range n).map fun h => (List.range n).filter ((bits n row)[h]?.getD 0).testBit := by
    apply List.ext_getElem?
    intro i
    simp only [List.getElem?_map]
    by_cases hi : i < n
    · have hb : i < (bits n row).length := by rw [bits_len]; exact hi
      rw [List.getElem?_range hi, List.getElem?_eq_getElem hb, Option.map_some, Option.map_some, List.getElem?_eq_getElem hb, Option.getD_some]
    · rw [List.getElem?_eq_none_iff.mpr (by rw [bits_len]; omega), List.getElem?_eq_none_iff.mpr (by simp; omega)]
      rfl
  rw [e]
  unfold tab
  refine List.map_congr_left fun h hh => List.filter_congr fun o _ => ?_
  rw [bits_at row hr (by simpa using hh)]
end K04

set_option Elab.async false
set_option linter.all false
set_option maxRecDepth 100000
set_option maxHeartbeats 4000000
namespace K04
open PySem L2 R
/-! ### steps_of -/
abbrev bU (bs : List Nat) : U := .lst (bs.map I)
abbrev rU (row : List (Nat × Nat)) : U := .tup (row.map pU)
theorem bor_I (a b : Nat) : Builtin.bitOr (a : Int) (b : Int) = ((a ||| b : Nat) : Int) := by
  unfold Builtin.bitOr Builtin.bitAnd Builtin.bitNot
  have h1 : decide (0 ≤ -(a : Int) - 1) = false := by simp; omega
  have h2 : decide (0 ≤ -(b : Int) - 1) = false := by simp; omega
  rw [h1, h2]
  simp only
  have e1 : (-(-(a : Int) - 1) - 1).toNat = a := by omega
  have e2 : (-(-(b : Int) - 1) - 1).toNat = b := by omega
  rw [e1, e2]
  omega
theorem band_I (a b : Nat) : Builtin.bitAnd (a : Int) (b : Int) = ((a &&& b : Nat) : Int) := by
  unfold Builtin.bitAnd
  have h1 : decide (0 ≤ (a : Int)) = true := by simp
  have h2 : decide (0 ≤ (b : Int)) = true := by simp
  rw [h1, h2]
  rfl
theorem shl_I {μ : Mu} {al : Bool} {h : Nat} (hh : h ≤ 1000) : evBin al μ .shl (.int 1) (I h) = some (I (1 <<< h), μ) := by
  simp only [evBin]
  rw [if_pos (by omega), Nat.one_shiftLeft]
  simp
def fnd (L : Nat) (n i : Nat) : List U := bU (b0 n) :: (List.range i).map fun j => .ob (L + 1 + j)
def lstU (L : Nat) (n : Nat) : Nat → U
  | 0 => bU (b0 n)
  | i + 1 => .ob (L + 1 + i)
theorem fnd_last (L n i : Nat) : atI (fnd L n i) (-1) = some (lstU L n i) := by
  cases i with
  | zero => exact atI_last [] _
  | succ i =>
    have : fnd L n (i + 1) = (fnd L n i) ++ [.ob (L + 1 + i)] := by simp [fnd, List.range_succ]
    rw [this]
    exact atI_last _ _
def objs (n : Nat) (row : List (Nat × Nat)) (i : Nat) : List U := (List.range i).map fun j => bU (bits n (row.take (j + 1)))
def MS (μ : Mu) (n : Nat) (row : List (Nat × Nat)) (i : Nat) : Mu := μ ++ .lst (fnd μ.length n i) :: objs n row i
theorem MS_len (μ : Mu) (n : Nat) (row : List (Nat × Nat)) (i : Nat) : (MS μ n row i).length = μ.length + 1 + i := by simp [MS, objs]; omega
theorem MS_at (μ : Mu) (n : Nat) (row : List (Nat × Nat)) (i : Nat) : (MS μ n row i)[μ.length]? = some (.lst (fnd μ.length n i)) := by simp [MS]
theorem MS_obj (μ : Mu) (n : Nat) (row : List (Nat × Nat)) {i j : Nat} (h : j < i) : (MS μ n row i)[μ.length + 1 + j]? = some (bU (bits n (row.take (j + 1)))) := by
  unfold MS objs
  rw [List.getElem?_append_right (by omega), show μ.length + 1 + j - μ.length = j + 1 by omega, List.getElem?_cons_succ, List.getElem?_map, List.getElem?_range h]
  rfl
theorem MS_last (μ : Mu) (n : Nat) (row : List (Nat × Nat)) (i : Nat) : asL (MS μ n row i) (lstU μ.length n i) = some ((bits n (row.take i)).map I) := by
  cases i with
  | zero => rfl
  | succ i => simp only [lstU, asL, MS_obj μ n row (Nat.lt_succ_self i)]
theorem set_last {α : Type} (m : List α) (x y : α) : (m ++ [x]).set m.length y = m ++ [y] := by simp
theorem set_mapI (bs : List Nat) (p v : Nat) : (bs.map I).set p (I v) = (bs.set p v).map I := by simp [List.map_set]
theorem MS_next (μ : Mu) (n : Nat) (row : List (Nat × Nat)) (i : Nat) : (MS μ n row i ++ [bU (bits n (row.take (i + 1)))]).set μ.length (.lst (fnd μ.length n i ++ [.ob (μ.length + 1 + i)])) = MS μ n row (i + 1) := by
  have e1 : fnd μ.length n i ++ [.ob (μ.length + 1 + i)] = fnd μ.length n (i + 1) := by simp [fnd, List.range_succ]
  have e2 : objs n row i ++ [bU (bits n (row.take (i + 1)))] = objs n row (i + 1) := by simp [objs, List.range_succ]
  rw [e1]
  unfold MS
  rw [← e2, List.append_assoc, List.set_append_right _ _ (Nat.le_refl _), Nat.sub_self]
  rfl
theorem bits_take {n : Nat} {row : List (Nat × Nat)} {i : Nat} {p : Nat × Nat} (h : row[i]? = some p) : bits n (row.take (i + 1)) = bstp (bits n (row.take i)) p := by
  rw [List.take_add_one, h]
  exact bits_snoc n _ p
theorem steps_loop (k : Nat) (μ : Mu) {n : Nat} {row : List (Nat × Nat)} (hr : InN n row) (hl : row.length ≤ 200) (x3 x4 x5 : Option U) :
    ∃ y3 y4 y5, forL (fstep (runF defs k) μ.length (.tup [(.slot 3), (.slot 4)]) lb_steps_of_1) (row.map pU) [some (I n), some (rU row), some (.ob μ.length), x3, x4, x5, none] (MS μ n row 0) =
      some (.nx [some (I n), some (rU row), some (.ob μ.length), y3, y4, y5, none] (MS μ n row row.length)) := by
  obtain ⟨σ', μ', e, y3, y4, y5, rfl, rfl⟩ := forL_inv0 (step := fstep (runF defs k) μ.length (.tup [(.slot 3), (.slot 4)]) lb_steps_of_1) (xs := row.map pU)
    (fun i σ μ' => ∃ y3 y4 y5, σ = [some (I n), some (rU row), some (.ob μ.length), y3, y4, y5, none] ∧ μ' = MS μ n row i) (σ := [some (I n), some (rU row), some (.ob μ.length), x3, x4, x5, none]) (μ := MS μ n row 0)
    ⟨x3, x4, x5, rfl, rfl⟩ (fun i x σ μ' hx hp => by
      obtain ⟨y3, y4, y5, rfl, rfl⟩ := hp
      obtain ⟨p, hp, hm, rfl⟩ := map_at hx
      obtain ⟨h1, h2⟩ := hr p hm
      have hi : i < row.length := (List.getElem?_eq_some_iff.mp hp).1
      have bl := bits_len n (row.take i)
      refine ⟨[some (I n), some (rU row), some (.ob μ.length), some (I p.1), some (I p.2), some (.ob (μ.length + 1 + i)), none], MS μ n row (i + 1), .inl ?_, some (I p.1), some (I p.2), some (.ob (μ.length + 1 + i)), rfl, rfl⟩
      show exL (runF defs k) μ.length lb_steps_of_1 [some (I n), some (rU row), some (.ob μ.length), some (I p.1), some (I p.2), y5, none] (MS μ n row i) = _
      unfold lb_steps_of_1
      have ml := MS_len μ n row i
      have n1 : (MS μ n row i ++ [bU (bits n (row.take i))])[μ.length + 1 + i]? = some (bU (bits n (row.take i))) := by rw [← ml]; simp
      refine (ex_seq (ex_set (u := .ob (μ.length + 1 + i)) (μ' := MS μ n row i ++ [bU (bits n (row.take i))]) (ev_col (us := [lstU μ.length n i]) (xs := (bits n (row.take i)).map I) (ev_l1 (ev_idxL1 (ev_var rfl) (ev_neg ev_int) (by simp only [cont, MS_at]) (fnd_last _ _ _))) ?_ ?_))).trans ?_
      · have hm := MS_last μ n row i
        have hs : asS (MS μ n row i) (lstU μ.length n i) = some ((bits n (row.take i)).map I) := by
          cases i <;> exact hm
        have hi : items (MS μ n row i) .list .ex [lstU μ.length n i] = some ((bits n (row.take i)).map I) := by
          cases i with
          | zero => simp only [lstU] at hs ⊢; simp only [items, hs]
          | succ i => simp only [lstU] at hs ⊢; simp only [items, hs]
        exact hi
      · simp only [evCol, R.fresh]
        rw [if_pos True.intro, ml]
      · have c5 : cont (MS μ n row i ++ [bU (bits n (row.take i))]) (.ob (μ.length + 1 + i)) = some (bU (bits n (row.take i))) := by simp only [cont, n1]
        have a1 : atI ((bits n (row.take i)).map I) (p.1 : Int) = some (I ((bits n (row.take i))[p.1]?.getD 0)) := atI_of (by simp [bl, h1])
        have a2 : atI ((bits n (row.take i)).map I) (p.2 : Int) = some (I ((bits n (row.take i))[p.2]?.getD 0)) := atI_of (by simp [bl, h2])
        have s1 : (MS μ n row i ++ [bU (bits n (row.take i))]).set (μ.length + 1 + i) (.lst (((bits n (row.take i)).map I).set p.1 (I ((bits n (row.take i))[p.1]?.getD 0 ||| (bits n (row.take i))[p.2]?.getD 0)))) = MS μ n row i ++ [bU ((bits n (row.take i)).set p.1 ((bits n (row.take i))[p.1]?.getD 0 ||| (bits n (row.take i))[p.2]?.getD 0))] := by
          rw [← ml, set_last, set_mapI]
        have n2 : (MS μ n row i ++ [bU ((bits n (row.take i)).set p.1 ((bits n (row.take i))[p.1]?.getD 0 ||| (bits n (row.take i))[p.2]?.getD 0))])[μ.length + 1 + i]? = some (bU ((bits n (row.take i)).set p.1 ((bits n (row.take i))[p.1]?.getD 0 ||| (bits n (row.take i))[p.2]?.getD 0))) := by rw [← ml]; simp
        have s2 : (MS μ n row i ++ [bU ((bits n (row.take i)).set p.1 ((bits n (row.take i))[p.1]?.getD 0 ||| (bits n (row.take i))[p.2]?.getD 0))]).set (μ.length + 1 + i) (.lst ((((bits n (row.take i)).set p.1 ((bits n (row.take i))[p.1]?.getD 0 ||| (bits n (row.take i))[p.2]?.getD 0)).map I).set p.2 (I ((bits n (row.take i))[p.1]?.getD 0 ||| (bits n (row.take i))[p.2]?.getD 0)))) = MS μ n row i ++ [bU (bits n (row.take (i + 1)))] := by
          rw [bits_take hp]
          unfold bstp
          rw [← ml, set_last, set_mapI]
        refine (ex_seq (ex_asg2 (u := I ((bits n (row.take i))[p.1]?.getD 0 ||| (bits n (row.take i))[p.2]?.getD 0)) (μ1 := MS μ n row i ++ [bU (bits n (row.take i))]) (ev_bin (ev_idxL1 (ev_var rfl) (ev_var rfl) c5 a1) (ev_idxL1 (ev_var rfl) (ev_var rfl) c5 a2) (by simp only [evBin, bor_I])) ((sto (ev_var rfl) (ev_var rfl) n1 (ixN_nat (by rw [List.length_map, bl]; exact h1)) (by simp [okw, nomut])).trans (by rw [s1]))
          ((sto (ev_var rfl) (ev_var rfl) n2 (ixN_nat (by rw [List.length_map, List.length_set, bl]; exact h2)) (by simp [okw, nomut])).trans (by rw [s2])))).trans ?_
        have mL : (MS μ n row i ++ [bU (bits n (row.take (i + 1)))])[μ.length]? = some (.lst (fnd μ.length n i)) := by
          rw [List.getElem?_append_left (by omega)]
          exact MS_at μ n row i
        refine (ex_seq (ex_appendA (u := .ob (μ.length + 1 + i)) (ev_var rfl) (by simp only [asL, mL]; rfl) (ev_var rfl) mL (by simp [fnd]; unfold SZ; omega) (by simp [okw]))).trans ?_
        rw [MS_next]
        exact ex_nil)
  refine ⟨y3, y4, y5, ?_⟩
  rw [e]
  simp
abbrev stU (n : Nat) (row : List (Nat × Nat)) : U := .lst ((List.range (row.length + 1)).map fun i => bU (bits n (row.take i)))
theorem frz_I (m : Nat) (μ : Mu) (k : Nat) (r : List Nat) : mapO (frz m μ k) (r.map I) = some (r.map I) := mapO_map fun x _ => by cases k <;> rfl
theorem frz_bU (m : Nat) (μ : Mu) (k : Nat) (r : List Nat) : frz m μ (k + 1) (bU r) = some (bU r) := by simp only [frz, frz_I]
theorem steps_ok (k : Nat) (μ : Mu) {n : Nat} {row : List (Nat × Nat)} (hn : n ≤ 12) (hr : InN n row) (hl : row.length ≤ 200) : runF defs (k + 1) 11 [I n, rU row] μ = some (stU n row, μ) := by
  rw [run_steps_of]
  obtain ⟨y3, y4, y5, e⟩ := steps_loop k μ hr hl none none none
  have c : evalE (runF defs k) μ.length c_steps_of_0 [some (I n), some (rU row), none, none, none, none, none] μ = some (bU (b0 n), μ) := by
    refine (ev_comp (us := [I n]) (μ1 := μ) (xs := (List.range n).map I) (ev_l1 (ev_var rfl)) (walk_rng (by omega)) (compL_all (enc := I) (g := fun h => I (1 <<< h)) (xs := List.range n) (fun h hh => ?_) (by simp; unfold SZ; omega))).trans ?_
    · have hh : h < n := by simpa using hh
      exact cs_yes rfl (ev_bin ev_int (ev_var rfl) (shl_I (by omega)))
    simp [b0, R.fresh]
  have b : exL (runF defs k) μ.length b_steps_of [some (I n), some (rU row), none, none, none, none, none] μ = some (.rt (.ob μ.length) (MS μ n row row.length)) := by
    unfold b_steps_of
    refine (ex_seq (ex_set (u := .ob μ.length) (μ' := MS μ n row 0) (ev_lstA (ev_l1 c) (show 1 ≤ SZ by decide)))).trans ?_
    refine (ex_seq (((show exS _ _ l_steps_of_1 _ _ = _ from ex_for (ev_l1 (ev_var rfl)) rfl)).trans e)).trans ?_
    exact ex_ret (ev_var rfl)
  have f : frz μ.length (MS μ n row row.length) D0 (.ob μ.length) = some (stU n row) := by
    rw [show D0 = 9 + 1 + 1 + 1 from rfl]
    simp only [frz]
    rw [if_neg (Nat.lt_irrefl _), MS_at]
    simp only
    have g : fnd μ.length n row.length = (List.range (row.length + 1)).map fun i => lstU μ.length n i := by
      simp [fnd, List.range_succ_eq_map, lstU]
    rw [g, mapO_map (h := fun i => bU (bits n (row.take i)))]
    intro i hi
    have hi : i < row.length + 1 := by simpa using hi
    cases i with
    | zero => exact frz_bU _ _ _ _
    | succ i =>
      simp only [lstU, frz]
      rw [if_neg (by omega), MS_obj μ n row (by omega)]
      simp only [bU, frz_I]
  exact (if_pos rfl).trans (run_rt b (fin_cut f (by simp [MS])))
end K04

set_option Elab.async false
set_option linter.all false
set_option maxRecDepth 100000
set_option maxHeartbeats 4000000
namespace K04
open PySem L2 R
theorem shr_bit {b h : Nat} : (b >>> h &&& 1) = 1 ↔ b.testBit h = true := by
  unfold Nat.testBit
  rw [Nat.and_comm]
  simp
theorem all_of_ok (k : Nat) (μ : Mu) {n : Nat} (hn : n ≤ 12) : runF defs (k + 1) 12 [I n] μ = some (I (2 ^ n - 1), μ) := by
  rw [run_all_of]
  refine (if_pos rfl).trans (run_rt (μ1 := μ) (u := I (2 ^ n - 1)) ?_ (fin_cut rfl (by simp)))
  refine ex_ret (ev_bin (ev_bin ev_int (ev_var rfl) (shl_I (by omega))) ev_int ?_)
  simp only [evBin, Nat.one_shiftLeft]
  have := Nat.two_pow_pos n
  congr 3
  omega
theorem all_bls2 {α : Type} (p : α → Bool) (l : List α) : mapO asBl (l.map fun x => U.bl (p x)) = some (l.map p) := mapO_map fun _ _ => rfl
theorem ev_all {cal : Nat → List U → Mu → Option (U × Mu)} {n0 : Nat} {σ : R.Env} {μ μ1 : Mu} {a : E} {α : Type} {p : α → Bool} {l : List α} (h : evalE cal n0 a σ μ = some (.lst (l.map fun x => U.bl (p x)), μ1)) : evalE cal n0 (.bi .all [a]) σ μ = some (.bl (l.all p), μ1) := by
  refine ev_bi (ev_l1 h) ?_
  simp only [evBi, bls, asL, all_bls2, Option.map_some]
  congr 2
  induction l with
  | nil => rfl
  | cons a l ih => simp
theorem stU_last (n : Nat) (row : List (Nat × Nat)) : atI ((List.range (row.length + 1)).map fun i => bU (bits n (row.take i))) (-1) = some (bU (bits n row)) := by
  rw [List.range_succ, List.map_append, List.map_singleton, List.take_length]
  exact atI_last _ _
theorem bits_map {β : Type} (n : Nat) (row : List (Nat × Nat)) (f : Nat → β) : (bits n row).map f = (List.range n).map fun h => f ((bits n row)[h]?.getD 0) := by
  apply List.ext_getElem?
  intro i
  simp only [List.getElem?_map]
  by_cases hi : i < n
  · have hb : i < (bits n row).length := by rw [bits_len]; exact hi
    rw [List.getElem?_range hi, List.getElem?_eq_getElem hb, Option.map_some, Option.map_some, List.getElem?_eq_getElem hb, Option.getD_some]
  · rw [List.getElem?_eq_none_iff.mpr (by rw [bits_len]; omega), List.getElem?_eq_none_iff.mpr (by simp; omega)]
    rfl
theorem full_in_ok (k : Nat) (μ : Mu) {n : Nat} {row : List (Nat × Nat)} (hn : n ≤ 12) (hr : InN n row) (hl : row.length ≤ 200) : runF defs (k + 2) 13 [I n, rU row] μ = some (.bl (fullB n (kn row)), μ) := by
  rw [run_is_full_in]
  refine (if_pos rfl).trans (run_rt (μ1 := μ) (u := .bl (fullB n (kn row))) ?_ (fin_cut rfl (by simp)))
  have c : evalE (runF defs (k + 1)) μ.length c_is_full_in_0 [some (I n), some (rU row), none] μ = some (.lst ((bits n row).map fun b => .bl (decide (b = 2 ^ n - 1))), μ) := by
    refine (ev_comp (us := [bU (bits n row)]) (μ1 := μ) (xs := (bits n row).map I) (ev_l1 (ev_idxL1 (ev_call (ev_l2 (ev_var rfl) (ev_var rfl)) (steps_ok k μ hn hr hl)) (ev_neg ev_int) rfl (stU_last n row))) rfl (compL_all (enc := I) (g := fun b => .bl (decide (b = 2 ^ n - 1))) (fun b hb => ?_) (by simp [bits_len]; unfold SZ; omega))).trans rfl
    exact cs_yes rfl (ev_cmp (ev_var rfl) (ev_call (ev_l1 (ev_var rfl)) (all_of_ok k μ hn)) eq_I)
  have e : fullB n (kn row) = (bits n row).all fun b => decide (b = 2 ^ n - 1) := by
    have h1 : ((bits n row).all fun b => decide (b = 2 ^ n - 1)) = ((bits n row).map fun b => decide (b = 2 ^ n - 1)).all id := by simp [List.all_map]
    rw [h1, bits_map, List.all_map]
    unfold fullB
    rw [Bool.eq_iff_iff]
    simp only [List.all_eq_true, List.mem_range, Function.comp, id, decide_eq_true_eq]
    constructor
    · exact fun z h hh => (bits_all row hr hh).mpr (z h hh)
    · exact fun z h hh => (bits_all row hr hh).mp (z h hh)
  rw [e]
  exact ex_ret (ev_all c)
theorem houses_of_ok (k : Nat) (μ : Mu) (b : Nat) : runF defs (k + 1) 14 [I b] μ = some (.tup (((List.range 12).filter b.testBit).map I), μ) := by
  rw [run_houses_of]
  refine (if_pos rfl).trans (run_rt (μ1 := μ) (u := .tup (((List.range 12).filter b.testBit).map I)) ?_ (fin_cut ?_ (by simp)))
  · have c : evalE (runF defs k) μ.length c_houses_of_0 [some (I b), none] μ = some (.lst (((List.range 12).filter b.testBit).map I), μ) := by
      refine (ev_comp (us := [I 12]) (μ1 := μ) (xs := (List.range 12).map I) (ev_l1 ev_gint) (walk_rng (by omega)) (compL_filter (enc := I) (g := I) (p := b.testBit) (xs := List.range 12) (fun h hh => ?_) (by decide))).trans rfl
      have hh : h < 12 := by simpa using hh
      have e1 : evalE (runF defs k) μ.length (.cmp .eq (.bin false .band (.bin false .shr (.var 0) (.var 1)) (.int 1)) (.int 1)) [some (I b), some (I h)] μ = some (.bl (decide ((b >>> h &&& 1) = 1)), μ) := by
        refine ev_cmp (u := I (b >>> h &&& 1)) (v := I 1) (μ1 := μ) (ev_bin (u := I (b >>> h)) (v := I 1) (μ1 := μ) (μ2 := μ) (ev_bin (ev_var rfl) (ev_var rfl) ?_) ev_int ?_) ev_int eq_I
        · simp only [evBin]
          rw [if_pos (by omega), Nat.shiftRight_eq_div_pow]
          simp
        · simp only [evBin, band_I]
      cases hb : b.testBit h with
      | true => exact cs_if rfl e1 (by rw [decide_eq_true (shr_bit.mpr hb)]; rfl) (ev_var rfl)
      | false => exact cs_no rfl e1 (by rw [decide_eq_false (fun z => by rw [shr_bit.mp z] at hb; cases hb)]; rfl)
    exact ex_ret (ev_col (ev_l1 c) rfl rfl)
  · simp only [D0, frz, frz_I]
theorem filter_12 {n : Nat} (hn : n ≤ 12) {row : List (Nat × Nat)} (hr : InN n row) {h : Nat} (hh : h < n) : (List.range 12).filter ((bits n row)[h]?.getD 0).testBit = (List.range n).filter (kn row h) := by
  have e : List.range 12 = List.range n ++ (List.range (12 - n)).map (n + ·) := by
    rw [← List.range_add]
    congr 1
    omega
  rw [e, List.filter_append]
  have z : ((List.range (12 - n)).map (n + ·)).filter ((bits n row)[h]?.getD 0).testBit = [] := by
    rw [List.filter_eq_nil_iff]
    intro x hx
    obtain ⟨y, _, rfl⟩ := List.mem_map.mp hx
    rw [bits_at row hr hh]
    intro w
    have := kn_lt row hr w hh
    omega
  rw [z, List.append_nil]
  exact List.filter_congr fun o _ => bits_at row hr hh o
/-! ### rows of calls -/
def arW (m : Nat) (lo hi : Int) : U → Bool
  | .tup xs => decide (xs.length = m) && xs.all (isW lo hi)
  | _ => false
theorem wholes_pl (k : Nat) {B d : Nat} (hB : B ≤ SZ) {u : U} (h : Pl B d u) (m : Nat) (lo hi : Int) (μ : Mu) : runF defs (k + 2) 3 [u, I m, .int lo, .int hi] μ = some (.bl (arW m lo hi u), μ) := by
  rw [run_are_wholes]
  have t := tuple_pl k h m m μ
  refine (if_pos rfl).trans (run_rt (μ1 := μ) (u := .bl (arW m lo hi u)) ?_ (fin_cut rfl (by simp)))
  cases h with
  | @tup d xs hz h =>
    by_cases e : xs.length = m
    · have e1 : isT m m (.tup xs) = true := by simp [isT]; omega
      rw [e1] at t
      have c : evalE (runF defs (k + 1)) μ.length c_are_wholes_0 [some (.tup xs), some (I m), some (.int lo), some (.int hi), none] μ = some (.lst (xs.map fun x => .bl (isW lo hi x)), μ) := by
        have := compL_all (step := cstep (runF defs (k + 1)) μ.length (.slot 4) (.bl true) (.call 0 [(.var 4), (.var 2), (.var 3)]) [4] [some (.tup xs), some (I m), some (.int lo), some (.int hi), none]) (enc := id) (g := fun x => .bl (isW lo hi x)) (μ := μ) (xs := xs) (acc := []) (fun x hx => cs_yes rfl (ev_call (ev_lcons (ev_var rfl) (ev_l2 (ev_var rfl) (ev_var rfl))) (whole_pl k (h x hx) lo hi μ))) (by simp; omega)
        rw [List.map_id] at this
        exact (ev_comp (us := [.tup xs]) (μ1 := μ) (xs := xs) (ev_l1 (ev_var rfl)) rfl this).trans rfl
      have e2 : arW m lo hi (.tup xs) = xs.all (isW lo hi) := by simp [arW, e]
      rw [e2]
      exact ex_ret (ev_andT (μ1 := μ) (ev_call (ev_lcons (ev_var rfl) (ev_l2 (ev_var rfl) (ev_var rfl))) t) (ev_b1 (ev_all c)))
    · have e1 : isT m m (.tup xs) = false := by simp [isT]; omega
      rw [e1] at t
      have e2 : arW m lo hi (.tup xs) = false := by simp [arW, e]
      rw [e2]
      exact ex_ret (ev_andF (ev_call (ev_lcons (ev_var rfl) (ev_l2 (ev_var rfl) (ev_var rfl))) t))
  | _ => exact ex_ret (ev_andF (ev_call (ev_lcons (ev_var rfl) (ev_l2 (ev_var rfl) (ev_var rfl))) t))
def inE (es : List (Nat × Nat)) : U → Bool
  | .tup [.int i, .int j] => es.any fun p => decide ((p.1 : Int) = i ∧ (p.2 : Int) = j)
  | _ => false
theorem in_es (μ : Mu) (es : List (Nat × Nat)) (i j : Int) : evIn μ (.tup [.int i, .int j]) (.tup (es.map pU)) = some (inE es (.tup [.int i, .int j])) := by
  have m : dat μ D0 (.tup (es.map pU)) = some (.tuple (es.map fun p : Nat × Nat => PyData.tuple [.int p.1, .int p.2])) := by
    rw [show D0 = 11 + 1 from rfl]
    simp only [dat]
    rw [mapO_map (f := dat μ 11) (h := fun p : Nat × Nat => PyData.tuple [.int p.1, .int p.2]) fun x _ => by simp [dat, mapO]]
  have m2 : dat μ D0 (.tup [.int i, .int j]) = some (.tuple [.int i, .int j]) := by simp [dat, mapO, D0]
  simp only [evIn, cont, m, m2]
  congr 1
  unfold inE
  rw [List.any_map]
  congr 1
  funext p
  simp only [Function.comp, PyData.eqv, PyData.eqvAll, Bool.and_true]
  rw [Bool.eq_iff_iff]
  simp
def okCall (n : Nat) (es : List (Nat × Nat)) (v : U) : Bool := arW 2 0 ((n : Int) - 1) v && inE es v
theorem arW_two {lo hi : Int} {u : U} (h : arW 2 lo hi u = true) : ∃ i j, u = .tup [.int i, .int j] := by
  unfold arW at h
  split at h
  · rename_i xs
    simp only [Bool.and_eq_true, decide_eq_true_eq] at h
    match xs, h with
    | [a, b], ⟨_, h⟩ =>
      simp only [List.all_cons, List.all_nil, Bool.and_true, Bool.and_eq_true] at h
      obtain ⟨h1, h2⟩ := h
      cases a <;> simp [isW] at h1
      cases b <;> simp [isW] at h2
      exact ⟨_, _, rfl⟩
  · cases h
theorem pair_in_ok (k : Nat) {B d : Nat} (hB : B ≤ SZ) {u : U} (h : Pl B d u) {n : Nat} {es : List (Nat × Nat)} (μ : Mu) : runF defs (k + 3) 7 [tU n es, u] μ = some (.bl (okCall n es u), μ) := by
  rw [run_is_pair_in]
  have w := wholes_pl k hB h 2 0 ((n : Int) - 1) μ
  refine (if_pos rfl).trans (run_rt (μ1 := μ) (u := .bl (okCall n es u)) ?_ (fin_cut rfl (by simp)))
  have l : evalL (runF defs (k + 2)) μ.length [(.var 1), (.int 2), (.int 0), (.bin false .sub (.idx (.var 0) (.int 0)) (.int 1))] [some (tU n es), some u] μ = some ([u, I 2, .int 0, .int ((n : Int) - 1)], μ) :=
    ev_lcons (ev_var rfl) (ev_lcons ev_int (ev_l2 ev_int (ev_bin (ev_idxT (ev_var rfl) ev_int (w := I n) rfl) ev_int rfl)))
  unfold okCall
  cases e : arW 2 0 ((n : Int) - 1) u with
  | false =>
    rw [e] at w
    exact ex_ret (ev_andF (ev_call l w))
  | true =>
    rw [e] at w
    obtain ⟨i, j, rfl⟩ := arW_two e
    exact ex_ret (ev_andT (μ1 := μ) (ev_call l w) (ev_b1 (ev_cmp (ev_var rfl) (ev_idxT (ev_var rfl) ev_int (w := .tup (es.map pU)) rfl) (in_es μ es i j))))
def itms (u : U) : List U := match u with
  | .tup xs => xs
  | _ => []
def okRow (n : Nat) (es : List (Nat × Nat)) (v : U) : Bool := isT 0 200 v && (itms v).all (okCall n es)
theorem fits_row_ok (k : Nat) {B d : Nat} (hB : B ≤ SZ) {u : U} (h : Pl B d u) {n : Nat} {es : List (Nat × Nat)} (μ : Mu) : runF defs (k + 4) 8 [tU n es, u] μ = some (.bl (okRow n es u), μ) := by
  rw [run_fits_row]
  have t := tuple_pl (k + 2) h 0 200 μ
  refine (if_pos rfl).trans (run_rt (μ1 := μ) (u := .bl (okRow n es u)) ?_ (fin_cut rfl (by simp)))
  unfold okRow
  cases e : isT 0 200 u with
  | false =>
    rw [e] at t
    exact ex_ret (ev_andF (ev_call (ev_lcons (ev_var rfl) (ev_l2 ev_int ev_gint)) t))
  | true =>
    rw [e] at t
    cases h with
    | @tup d xs hz h =>
      have c : evalE (runF defs (k + 3)) μ.length c_fits_row_0 [some (tU n es), some (.tup xs), none] μ = some (.lst (xs.map fun x => .bl (okCall n es x)), μ) := by
        have := compL_all (step := cstep (runF defs (k + 3)) μ.length (.slot 2) (.bl true) (.call 7 [(.var 0), (.var 2)]) [2] [some (tU n es), some (.tup xs), none]) (enc := id) (g := fun x => .bl (okCall n es x)) (μ := μ) (xs := xs) (acc := []) (fun x hx => cs_yes rfl (ev_call (ev_l2 (ev_var rfl) (ev_var rfl)) (pair_in_ok k hB (h x hx) μ))) (by simp; omega)
        rw [List.map_id] at this
        exact (ev_comp (us := [.tup xs]) (μ1 := μ) (xs := xs) (ev_l1 (ev_var rfl)) rfl this).trans rfl
      exact ex_ret (ev_andT (μ1 := μ) (ev_call (ev_lcons (ev_var rfl) (ev_l2 ev_int ev_gint)) t) (ev_b1 (ev_all c)))
    | _ => cases e
theorem is_row_ok (k : Nat) {B d : Nat} (hB : B ≤ SZ) {u : U} (h : Pl B d u) {n : Nat} {es : List (Nat × Nat)} (T : Town n es) (μ : Mu) : runF defs (k + 5) 16 [tU n es, u] μ = some (.bl (okRow n es u), μ) := by
  rw [run_is_row]
  refine (if_pos rfl).trans (run_rt (μ1 := μ) (u := .bl (okRow n es u)) ?_ (fin_cut rfl (by simp)))
  exact (ex_seq (ex_ex (ev_call (ev_l1 (ev_var rfl)) (need_few_ok k μ T)))).trans (ex_ret (ev_call (ev_l2 (ev_var rfl) (ev_var rfl)) (fits_row_ok k hB h μ)))
/-- a row of these friends -/
structure Row (n : Nat) (es row : List (Nat × Nat)) : Prop where
  mem : ∀ p ∈ row, p ∈ es
  len : row.length ≤ 200
theorem Row.inN {n : Nat} {es row : List (Nat × Nat)} (T : Town n es) (r : Row n es row) : InN n row := fun p hp => by
  have := T.lt p (r.mem p hp)
  omega
theorem Row.take {n : Nat} {es row : List (Nat × Nat)} (r : Row n es row) (i : Nat) : Row n es (row.take i) := ⟨fun p hp => r.mem p (List.mem_of_mem_take hp), by have := r.len; simp; omega⟩
theorem Row.rev {n : Nat} {es row : List (Nat × Nat)} (r : Row n es row) : Row n es row.reverse := ⟨fun p hp => r.mem p (by simpa using hp), by simpa using r.len⟩
theorem pl_row {B d : Nat} {row : List (Nat × Nat)} (hB : 2 ≤ B) (h : row.length ≤ B) : Pl B (d + 2) (rU row) := pl_es hB h
theorem okCall_row {n : Nat} {es : List (Nat × Nat)} (T : Town n es) {p : Nat × Nat} (h : p ∈ es) : okCall n es (pU p) = true := by
  have := T.lt p h
  unfold okCall
  have e1 : arW 2 0 ((n : Int) - 1) (pU p) = true := by simp [arW, isW]; omega
  have e2 : inE es (pU p) = true := by
    simp only [inE, List.any_eq_true, decide_eq_true_eq]
    exact ⟨p, h, rfl, rfl⟩
  rw [e1, e2]
  rfl
theorem okRow_row {n : Nat} {es row : List (Nat × Nat)} (T : Town n es) (r : Row n es row) : okRow n es (rU row) = true := by
  unfold okRow
  have e1 : isT 0 200 (rU row) = true := by have := r.len; simp [isT]; omega
  have e2 : (itms (rU row)).all (okCall n es) = true := by
    simp only [itms, List.all_map, List.all_eq_true, Function.comp]
    exact fun p hp => okCall_row T (r.mem p hp)
  rw [e1, e2]
  rfl
theorem need_both_ok (k : Nat) {n : Nat} {es row : List (Nat × Nat)} (T : Town n es) (r : Row n es row) (μ : Mu) : runF defs (k + 6) 10 [tU n es, rU row] μ = some (.non, μ) := by
  rw [run_need_both]
  refine (if_pos rfl).trans (run_nx (μ1 := μ) (σ := [some (tU n es), some (rU row)]) ?_ (fin_cut rfl (by simp)))
  have f := fits_row_ok k (B := 200) (by decide) (pl_row (d := 0) (by omega) r.len) (n := n) (es := es) μ
  rw [okRow_row T r] at f
  have nr : runF defs (k + 5) 9 [tU n es, rU row] μ = some (.non, μ) := by
    rw [run_need_row]
    refine (if_pos rfl).trans (run_nx (μ1 := μ) (σ := [some (tU n es), some (rU row)]) ?_ (fin_cut rfl (by simp)))
    exact (ex_seq ((ex_ifF (u := .bl false) (μ1 := μ) (ev_not (d := true) (ev_call (ev_l2 (ev_var rfl) (ev_var rfl)) f) rfl) rfl).trans ex_nil)).trans ex_nil
  refine (ex_seq (ex_ex (ev_call (ev_l1 (ev_var rfl)) (need_few_ok (k + 1) μ T)))).trans ?_
  exact (ex_seq (ex_ex (ev_call (ev_l2 (ev_var rfl) (ev_var rfl)) nr))).trans ex_nil
end K04

set_option Elab.async false
set_option linter.all false
set_option maxRecDepth 100000
set_option maxHeartbeats 4000000
namespace K04
open PySem L2 R
theorem frz_pl {B d : Nat} {u : U} (h : Pl B d u) (m : Nat) (μ : Mu) : ∀ {k : Nat}, d ≤ k → frz m μ k u = some u := by
  induction h with
  | non => intro k _; cases k <;> rfl
  | bl => intro k _; cases k <;> rfl
  | int => intro k _; cases k <;> rfl
  | str => intro k _; cases k <;> rfl
  | @tup d xs hz h ih =>
    intro k hk
    obtain ⟨e, rfl⟩ : ∃ e, k = e + 1 := ⟨k - 1, by omega⟩
    have m' := mapO_map (f := frz m μ e) (g := id) (h := id) (xs := xs) fun x hx => ih x hx (by omega)
    rw [List.map_id] at m'
    simp only [frz, m']
  | @lst d xs hz h ih =>
    intro k hk
    obtain ⟨e, rfl⟩ : ∃ e, k = e + 1 := ⟨k - 1, by omega⟩
    have m' := mapO_map (f := frz m μ e) (g := id) (h := id) (xs := xs) fun x hx => ih x hx (by omega)
    rw [List.map_id] at m'
    simp only [frz, m']
abbrev lU (l : List Nat) : U := .tup (l.map I)
abbrev kT (n : Nat) (row : List (Nat × Nat)) : U := .tup ((tab n (kn row)).map lU)
abbrev kL (n : Nat) (row : List (Nat × Nat)) : U := .lst ((tab n (kn row)).map lU)
theorem pl_ints {B d : Nat} {l : List Nat} (h : l.length ≤ B) : Pl B (d + 1) (.tup (l.map I)) ∧ Pl B (d + 1) (.lst (l.map I)) :=
  ⟨.tup (by simpa using h) fun u hu => by obtain ⟨x, _, rfl⟩ := List.mem_map.mp hu; exact .int _ _, .lst (by simpa using h) fun u hu => by obtain ⟨x, _, rfl⟩ := List.mem_map.mp hu; exact .int _ _⟩
theorem tab_len (n : Nat) (K : Kn) : (tab n K).length = n := by simp [tab]
theorem tab_row_len {n : Nat} {K : Kn} {l : List Nat} (h : l ∈ tab n K) : l.length ≤ n := by
  obtain ⟨x, _, rfl⟩ := List.mem_map.mp h
  have := List.length_filter_le (K x) (List.range n)
  simpa using this
theorem pl_kT {n d : Nat} {row : List (Nat × Nat)} : Pl n (d + 2) (kT n row) ∧ Pl n (d + 2) (kL n row) := by
  have h : ∀ u ∈ (tab n (kn row)).map lU, Pl n (d + 1) u := fun u hu => by
    obtain ⟨l, hl, rfl⟩ := List.mem_map.mp hu
    exact (pl_ints (tab_row_len hl)).1
  exact ⟨.tup (by simp [tab_len]) h, .lst (by simp [tab_len]) h⟩
theorem map_I_inj {x y : List Nat} (h : x.map I = y.map I) : x = y := List.map_inj_right (fun a b e => by injection e with e; omega) |>.mp h
theorem eq_bU (μ : Mu) (x y : List Nat) : evCmp μ .eq (bU x) (bU y) = some (decide (x = y)) := by
  have ni : ∀ l : List Nat, Ni 1 (bU l) := fun l => .lst fun u hu => by obtain ⟨x, _, rfl⟩ := List.mem_map.mp hu; exact .int _ _
  obtain ⟨b, e, hb⟩ := eq_ni μ (ni x) (ni y) (by decide) (by decide)
  simp only [evCmp]
  rw [e]
  congr 1
  rw [Bool.eq_iff_iff, hb, decide_eq_true_eq, U.lst.injEq]
  exact ⟨map_I_inj, fun z => by rw [z]⟩
theorem in_bU (μ : Mu) (i : Nat) (l : List Nat) : evIn μ (I i) (bU l) = some (decide (i ∈ l)) := by
  have m : dat μ D0 (bU l) = some (.list (l.map fun x : Nat => PyData.int x)) := by
    rw [show D0 = 11 + 1 from rfl]
    simp only [dat]
    rw [mapO_map (f := dat μ 11) (h := fun x : Nat => PyData.int x) fun x _ => rfl]
  simp only [evIn, cont, m, dat_int]
  congr 1
  rw [Bool.eq_iff_iff, List.any_map, List.any_eq_true, decide_eq_true_eq]
  constructor
  · rintro ⟨x, hx, e⟩
    simp only [Function.comp, PyData.eqv, beq_iff_eq] at e
    have : x = i := by omega
    exact this ▸ hx
  · exact fun h => ⟨i, h, by simp [PyData.eqv]⟩
theorem enum_range (m : Nat) (f : Nat → U) : enum ((List.range m).map f) = (List.range m).map fun i => .tup [I i, f i] := by
  unfold enum
  rw [List.length_map, List.length_range]
  have : (List.range m).zip ((List.range m).map f) = (List.range m).map fun i => (i, f i) := by
    have := List.zip_map' (f := id) (g := f) (l := List.range m)
    simpa using this
  rw [this, List.map_map]
  rfl
theorem enum_map {α : Type} (f : α → U) (l : List α) : enum (l.map f) = ((List.range l.length).zip l).map fun q => .tup [I q.1, f q.2] := by
  unfold enum
  rw [List.length_map]
  have : (List.range l.length).zip (l.map f) = ((List.range l.length).zip l).map fun q => (q.1, f q.2) := by
    have := List.zip_map (f := id) (g := f) (l₁ := List.range l.length) (l₂ := l)
    rw [List.map_id] at this
    exact this
  rw [this, List.map_map]
  rfl
section
variable {n : Nat} {es row : List (Nat × Nat)} (k : Nat) (μ : Mu)
theorem at_st {i : Nat} (h : i ≤ row.length) : atI ((List.range (row.length + 1)).map fun i => bU (bits n (row.take i))) (i : Int) = some (bU (bits n (row.take i))) :=
  atI_of (by rw [List.getElem?_map, List.getElem?_range (by omega)]; rfl)
theorem idle_in_ok (hn : n ≤ 12) (hr : InN n row) (hl : row.length ≤ 200) : runF defs (k + 2) 15 [tU n es, rU row] μ = some (bU (idles n row), μ) := by
  rw [run_idle_in]
  have sl : (idles n row).length ≤ 200 := by
    have := List.length_filter_le (idle n row) (List.range row.length)
    unfold idles
    simp at this ⊢
    omega
  refine (if_pos rfl).trans (run_rt (μ1 := μ) (u := bU (idles n row)) ?_ (fin_cut (frz_pl (pl_ints (B := 200) (d := 0) sl).2 _ _ (by decide)) (by simp)))
  unfold b_idle_in
  refine (ex_seq (ex_set (u := stU n row) (ev_call (ev_l2 (ev_idxT (ev_var rfl) ev_int (w := I n) rfl) (ev_var rfl)) (steps_ok k μ hn hr hl)))).trans ?_
  refine ex_ret ?_
  refine (ev_comp (us := [I row.length]) (μ1 := μ) (xs := (List.range row.length).map I) (ev_l1 (ev_bi (ev_l1 (ev_var rfl)) (by simp [evBi, cont]))) (walk_rng (by omega)) (compL_filter (enc := I) (g := I) (p := idle n row) (xs := List.range row.length) (fun i hi => ?_) (by simp; unfold SZ; omega))).trans rfl
  have hi : i < row.length := by simpa using hi
  have e1 : evalE (runF defs (k + 1)) μ.length (.cmp .eq (.idx (.var 2) (.var 3)) (.idx (.var 2) (.bin false .add (.var 3) (.int 1)))) [some (tU n es), some (rU row), some (stU n row), some (I i)] μ = some (.bl (idle n row i), μ) := by
    refine ev_cmp (u := bU (bits n (row.take i))) (v := bU (bits n (row.take (i + 1)))) (ev_idxL1 (ev_var rfl) (ev_var rfl) rfl (at_st (by omega))) (ev_idxL1 (ev_var rfl) (ev_bin (ev_var rfl) ev_int rfl) rfl (at_st (i := i + 1) (by omega))) ?_
    rw [eq_bU]
    congr 1
    unfold idle
    exact decide_eq_decide.mpr (bits_eq (hr.take i) (hr.take (i + 1)))
  cases h : idle n row i with
  | true => rw [h] at e1; exact cs_if rfl e1 rfl (ev_var rfl)
  | false => rw [h] at e1; exact cs_no rfl e1 rfl
theorem known_behind_ok (T : Town n es) (r : Row n es row) : runF defs (k + 7) 17 [tU n es, rU row] μ = some (kT n row, μ) := by
  have hr := r.inN T
  have hn := T.n12
  rw [run_known_behind]
  refine (if_pos rfl).trans (run_rt (μ1 := μ) (u := kT n row) ?_ (fin_cut (frz_pl pl_kT.1 _ _ (show 0 + 2 ≤ D0 by decide)) (by simp)))
  unfold b_known_behind
  refine (ex_seq (ex_ex (ev_call (ev_l2 (ev_var rfl) (ev_var rfl)) (need_both_ok k T r μ)))).trans ?_
  have e : (bits n row).map (fun b => lU ((List.range 12).filter b.testBit)) = (tab n (kn row)).map lU := by
    rw [bits_map]
    unfold tab
    rw [List.map_map]
    refine List.map_congr_left fun h hh => ?_
    simp only [Function.comp]
    rw [filter_12 hn hr (by simpa using hh)]
  have c : evalE (runF defs (k + 6)) μ.length c_known_behind_0 [some (tU n es), some (rU row), none] μ = some (kL n row, μ) := by
    refine (ev_comp (us := [bU (bits n row)]) (μ1 := μ) (xs := (bits n row).map I) (ev_l1 (ev_idxL1 (ev_call (ev_l2 (ev_idxT (ev_var rfl) ev_int (w := I n) rfl) (ev_var rfl)) (steps_ok (k + 5) μ hn hr r.len)) (ev_neg ev_int) rfl (stU_last n row))) rfl (compL_all (enc := I) (g := fun b => lU ((List.range 12).filter b.testBit)) (fun b hb => ?_) (by simp [bits_len]; unfold SZ; omega))).trans ?_
    · exact cs_yes rfl (ev_call (ev_l1 (ev_var rfl)) (houses_of_ok (k + 5) μ b))
    · rw [List.nil_append, e]
      rfl
  exact ex_ret (ev_col (ev_l1 c) rfl rfl)
theorem is_full_ok (T : Town n es) (r : Row n es row) : runF defs (k + 7) 18 [tU n es, rU row] μ = some (.bl (fullB n (kn row)), μ) := by
  rw [run_is_full]
  refine (if_pos rfl).trans (run_rt (μ1 := μ) (u := .bl (fullB n (kn row))) ?_ (fin_cut rfl (by simp)))
  refine (ex_seq (ex_ex (ev_call (ev_l2 (ev_var rfl) (ev_var rfl)) (need_both_ok k T r μ)))).trans ?_
  exact ex_ret (ev_call (ev_l2 (ev_idxT (ev_var rfl) ev_int (w := I n) rfl) (ev_var rfl)) (full_in_ok (k + 4) μ T.n12 (r.inN T) r.len))
abbrev oU : Option Nat → U
  | none => .non
  | some i => I i
theorem some_full_bits (hr : InN n row) : decide ((2 ^ n - 1) ∈ bits n row) = someFull n (kn row) := by
  rw [Bool.eq_iff_iff, decide_eq_true_eq]
  unfold someFull
  rw [List.any_eq_true]
  constructor
  · intro z
    obtain ⟨h, hh, e⟩ := List.mem_iff_getElem.mp z
    have hn : h < n := by rw [bits_len] at hh; exact hh
    exact ⟨h, by simpa using hn, (bits_all row hr hn).mp (by rw [List.getElem?_eq_getElem hh]; exact e)⟩
  · rintro ⟨h, hh, e⟩
    have hn : h < n := by simpa using hh
    have z := (bits_all row hr hn).mpr e
    have hb : h < (bits n row).length := by rw [bits_len]; exact hn
    rw [List.getElem?_eq_getElem hb, Option.getD_some] at z
    exact z ▸ List.getElem_mem hb
theorem first_full_ok (T : Town n es) (r : Row n es row) : runF defs (k + 7) 19 [tU n es, rU row] μ = some (oU (firstF n row), μ) := by
  have hr := r.inN T
  have hn := T.n12
  have hl := r.len
  rw [run_first_full]
  refine (if_pos rfl).trans (run_rt (μ1 := μ) (u := oU (firstF n row)) ?_ (fin_cut (by cases firstF n row <;> rfl) (by simp)))
  unfold b_first_full
  refine (ex_seq (ex_ex (ev_call (ev_l2 (ev_var rfl) (ev_var rfl)) (need_both_ok k T r μ)))).trans ?_
  have c : evalE (runF defs (k + 6)) μ.length c_first_full_0 [some (tU n es), some (rU row), none, none, none] μ = some (bU ((List.range (row.length + 1)).filter fun i => someFull n (kn (row.take i))), μ) := by
    refine (ev_comp (us := [stU n row]) (μ1 := μ) (xs := (List.range (row.length + 1)).map fun i => .tup [I i, bU (bits n (row.take i))]) (ev_l1 (ev_call (ev_l2 (ev_idxT (ev_var rfl) ev_int (w := I n) rfl) (ev_var rfl)) (steps_ok (k + 5) μ hn hr hl))) (by simp only [walk, enum_range]) (compL_filter (enc := fun i => U.tup [I i, bU (bits n (row.take i))]) (g := I) (p := fun i => someFull n (kn (row.take i))) (xs := List.range (row.length + 1)) (fun i hi => ?_) (by simp; unfold SZ; omega))).trans rfl
    have e1 : evalE (runF defs (k + 6)) μ.length (.cmp .isin (.call 12 [(.idx (.var 0) (.int 0))]) (.var 4)) [some (tU n es), some (rU row), none, some (I i), some (bU (bits n (row.take i)))] μ = some (.bl (someFull n (kn (row.take i))), μ) := by
      refine ev_cmp (u := I (2 ^ n - 1)) (ev_call (ev_l1 (ev_idxT (ev_var rfl) ev_int (w := I n) rfl)) (all_of_ok (k + 5) μ hn)) (ev_var rfl) ?_
      simp only [evCmp]
      rw [in_bU, some_full_bits (hr.take i)]
    cases h : someFull n (kn (row.take i)) with
    | true => rw [h] at e1; exact cs_if rfl e1 rfl (ev_var rfl)
    | false => rw [h] at e1; exact cs_no rfl e1 rfl
  refine (ex_seq (ex_set c)).trans ?_
  have f : firstF n row = ((List.range (row.length + 1)).filter fun i => someFull n (kn (row.take i))).head? := by
    unfold firstF
    rw [List.head?_filter]
  rw [f]
  generalize (List.range (row.length + 1)).filter (fun i => someFull n (kn (row.take i))) = L
  refine ex_ret ?_
  have en : evalE (runF defs (k + 6)) μ.length (.lst false []) [some (tU n es), some (rU row), some (bU L), none, none] μ = some (bU [], μ) := ev_lst ev_lnil (show 0 ≤ SZ by decide)
  have ec : evalE (runF defs (k + 6)) μ.length (.cmp .ne (.var 2) (.lst false [])) [some (tU n es), some (rU row), some (bU L), none, none] μ = some (.bl (!decide (L = [])), μ) := by
    refine ev_cmp (ev_var rfl) en ?_
    have := eq_bU μ L []
    simp only [evCmp] at this ⊢
    rw [this]
    rfl
  cases L with
  | nil => exact ev_iteF ec rfl ev_non
  | cons a L => exact ev_iteT ec rfl (ev_idxL1 (ev_var rfl) ev_int rfl (atI_of (j := 0) rfl))
theorem turned_ok (T : Town n es) (r : Row n es row) : runF defs (k + 7) 20 [tU n es, rU row] μ = some (rU row.reverse, μ) := by
  rw [run_turned_row]
  have p := pl_row (d := 0) (B := 200) (row := row.reverse) (by omega) (by simpa using r.len)
  refine (if_pos rfl).trans (run_rt (μ1 := μ) (u := rU row.reverse) ?_ (fin_cut (frz_pl p _ _ (by decide)) (by simp)))
  refine (ex_seq (ex_ex (ev_call (ev_l2 (ev_var rfl) (ev_var rfl)) (need_both_ok k T r μ)))).trans ?_
  refine ex_ret ?_
  have e : rU row.reverse = .tup (row.map pU).reverse := by rw [rU, List.map_reverse]
  rw [e]
  exact ev_revT (ev_var rfl)
theorem idles_len : (idles n row).length ≤ row.length := by
  have := List.length_filter_le (idle n row) (List.range row.length)
  unfold idles
  simpa using this
theorem rest_len : (rest n row).length ≤ row.length := by
  unfold rest
  rw [List.length_map]
  have := List.length_filter_le (fun q : Nat × (Nat × Nat) => decide (q.1 ∉ idles n row)) ((List.range row.length).zip row)
  simp at this ⊢
  exact this
theorem idle_calls_ok (T : Town n es) (r : Row n es row) : runF defs (k + 7) 21 [tU n es, rU row] μ = some (lU (idles n row), μ) := by
  rw [run_idle_calls]
  have p := (pl_ints (B := 200) (d := 0) (l := idles n row) (by have := @idles_len n row; have := r.len; omega)).1
  refine (if_pos rfl).trans (run_rt (μ1 := μ) (u := lU (idles n row)) ?_ (fin_cut (frz_pl p _ _ (by decide)) (by simp)))
  refine (ex_seq (ex_ex (ev_call (ev_l2 (ev_var rfl) (ev_var rfl)) (need_both_ok k T r μ)))).trans ?_
  exact ex_ret (ev_col (ev_l1 (ev_call (ev_l2 (ev_var rfl) (ev_var rfl)) (idle_in_ok (k + 4) μ T.n12 (r.inN T) r.len))) rfl rfl)
theorem ev_rest {cal : Nat → List U → Mu → Option (U × Mu)} {n0 : Nat} {σ : R.Env} {x y : Nat} (it : E) (hit : evalE cal n0 it σ μ = some (rU row, μ)) (c : E)
    (hc : ∀ i v, evalE cal n0 c (((wipeE σ [x, y]).set x (some (I i))).set y (some v)) μ = some (.bl (decide (i ∉ idles n row)), μ)) (hy : ∀ i v, evalE cal n0 (.var y) (((wipeE σ [x, y]).set x (some (I i))).set y (some v)) μ = some (v, μ)) (hl : row.length ≤ 200) :
    evalE cal n0 (.comp false (.tup [(.slot x), (.slot y)]) .enm [it] c (.var y) [x, y]) σ μ = some (.lst ((rest n row).map pU), μ) := by
  refine (ev_comp (us := [rU row]) (μ1 := μ) (xs := ((List.range row.length).zip row).map fun q => .tup [I q.1, pU q.2]) (ev_l1 hit) (by simp only [walk, enum_map]) (compL_filter (enc := fun q : Nat × (Nat × Nat) => U.tup [I q.1, pU q.2]) (g := fun q => pU q.2) (p := fun q => decide (q.1 ∉ idles n row)) (xs := (List.range row.length).zip row) (fun q hq => ?_) (by simp; unfold SZ; omega))).trans ?_
  · by_cases h : q.1 ∉ idles n row
    · rw [decide_eq_true h, if_pos rfl]
      exact cs_if rfl (hc q.1 (pU q.2)) (by rw [decide_eq_true h]; rfl) (hy q.1 (pU q.2))
    · rw [decide_eq_false h, if_neg (by simp)]
      exact cs_no rfl (hc q.1 (pU q.2)) (by rw [decide_eq_false h]; rfl)
  · rw [List.nil_append]
    unfold rest
    rw [List.map_map]
    rfl
theorem taught_ok (T : Town n es) (r : Row n es row) : runF defs (k + 7) 22 [tU n es, rU row] μ = some (rU (rest n row), μ) := by
  rw [run_taught_row]
  have p := pl_row (d := 0) (B := 200) (row := rest n row) (by omega) (by have := @rest_len n row; have := r.len; omega)
  refine (if_pos rfl).trans (run_rt (μ1 := μ) (u := rU (rest n row)) ?_ (fin_cut (frz_pl p _ _ (by decide)) (by simp)))
  unfold b_taught_row
  refine (ex_seq (ex_ex (ev_call (ev_l2 (ev_var rfl) (ev_var rfl)) (need_both_ok k T r μ)))).trans ?_
  refine (ex_seq (ex_set (ev_call (ev_l2 (ev_var rfl) (ev_var rfl)) (idle_in_ok (k + 4) μ T.n12 (r.inN T) r.len)))).trans ?_
  refine ex_ret (ev_col (ev_l1 (show evalE _ _ c_taught_row_0 _ _ = _ from ev_rest μ (.var 1) (ev_var rfl) _ (fun i v => ev_cmp (u := I i) (v := bU (idles n row)) (ev_var rfl) (ev_var rfl) ?_) (fun i v => ev_var rfl) r.len)) rfl rfl)
  simp only [evCmp]
  rw [in_bU]
  simp [neg?]
end
end K04

set_option Elab.async false
set_option linter.all false
set_option maxRecDepth 100000
set_option maxHeartbeats 4000000
namespace K04
open PySem L2 R
/-! ### the law's own tables -/
theorem compV_all {α : Type} {step : U → Mu → Option (Option U × Mu)} {enc g : α → U} {μ : Mu} {i : Nat} {xs : List α} (hm : μ[i]? = some (.lst (xs.map enc))) (h : ∀ x ∈ xs, step (enc x) μ = some (some (g x), μ)) (hz : xs.length ≤ SZ) :
    ∀ {f k : Nat} {acc : List U}, k ≤ xs.length → xs.length - k < f → acc.length ≤ k → compV step i f k acc μ = some (acc ++ (xs.drop k).map g, μ)
  | 0, k, acc, _, hf, _ => by omega
  | f + 1, k, acc, hk, hf, ha => by
    simp only [compV, hm]
    by_cases hlt : k < xs.length
    · rw [List.getElem?_map, List.getElem?_eq_getElem hlt]
      simp only [Option.map_some]
      rw [h _ (List.getElem_mem hlt)]
      simp only
      rw [if_pos (by omega), compV_all hm h hz (by omega) (by omega) (by simp; omega), List.drop_eq_getElem_cons hlt, List.map_cons, List.append_assoc]
      rfl
    · have e : k = xs.length := by omega
      subst e
      rw [List.getElem?_eq_none_iff.mpr (by simp)]
      simp
theorem ev_compV {cal : Nat → List U → Mu → Option (U × Mu)} {n0 : Nat} {al : Bool} {p : Pt} {ik : Ik} {its : List E} {c e : E} {ws : List Nat} {σ : R.Env} {μ μ1 μ2 : Mu} {us ys : List U} {i : Nat} (h1 : evalL cal n0 its σ μ = some (us, μ1)) (h2 : walk μ1 ik us = some (.inr i)) (h3 : compV (cstep cal n0 p c e ws σ) i FU 0 [] μ1 = some (ys, μ2)) :
    evalE cal n0 (.comp al p ik its c e ws) σ μ = some (R.fresh al (.lst ys) μ2) := by
  simp only [evalE, h1, h2]
  have e0 : (match compV (cstep cal n0 p c e ws σ) i FU 0 [] μ1 with
    | some (ys, μ) => some (R.fresh al (.lst ys) μ)
    | none => none) = some (R.fresh al (.lst ys) μ2) := by rw [h3]
  exact e0
def dstp (S : List (List Nat)) (p : Nat × Nat) : List (List Nat) :=
  let u := ((S[p.1]?.getD []) ++ (S[p.2]?.getD [])).foldl insN []
  (S.set p.1 u).set p.2 (u.foldl insN [])
def dsets (n : Nat) (row : List (Nat × Nat)) : List (List Nat) := row.foldl dstp ((List.range n).map fun h => [h])
theorem dsets_snoc (n : Nat) (row : List (Nat × Nat)) (p : Nat × Nat) : dsets n (row ++ [p]) = dstp (dsets n row) p := by simp [dsets]
theorem dsets_len (n : Nat) (row : List (Nat × Nat)) : (dsets n row).length = n := by
  induction row using snoc_ind with
  | h0 => simp [dsets]
  | h1 row p ih => rw [dsets_snoc]; simp [dstp, ih]
theorem dsets_at {n : Nat} (row : List (Nat × Nat)) (hr : InN n row) : ∀ {h : Nat}, h < n → ((dsets n row)[h]?.getD []).Nodup ∧ ∀ o, o ∈ (dsets n row)[h]?.getD [] ↔ kn row h o = true := by
  induction row using snoc_ind with
  | h0 =>
    intro h hh
    have e : (dsets n [])[h]?.getD [] = [h] := by simp [dsets, hh]
    rw [e]
    exact ⟨by simp, fun o => by rw [show kn [] h o = k0 h o from rfl, k0_iff]; simp; omega⟩
  | h1 row p ih =>
    intro h hh
    obtain ⟨r1, r2, r3⟩ := hr.snoc
    have hl := dsets_len n row
    obtain ⟨n1, m1⟩ := ih r1 r2
    obtain ⟨n2, m2⟩ := ih r1 r3
    have mu : ∀ o, o ∈ ((dsets n row)[p.1]?.getD [] ++ (dsets n row)[p.2]?.getD []).foldl insN [] ↔ kn row p.1 o = true ∨ kn row p.2 o = true := fun o => by
      rw [foldl_insN_mem, List.mem_append, m1, m2]
      simp
    rw [dsets_snoc, kn_snoc]
    unfold dstp stp
    simp only
    by_cases c2 : p.2 = h
    · rw [List.getElem?_set, if_pos c2, if_pos (by rw [List.length_set]; omega), Option.getD_some]
      refine ⟨foldl_insN_nd _ _ List.nodup_nil, fun o => ?_⟩
      rw [if_pos (.inr c2.symm), foldl_insN_mem, mu, Bool.or_eq_true]
      simp
    · rw [List.getElem?_set, if_neg c2, List.getElem?_set]
      by_cases c1 : p.1 = h
      · rw [if_pos c1, if_pos (by omega), Option.getD_some]
        refine ⟨foldl_insN_nd _ _ List.nodup_nil, fun o => ?_⟩
        rw [if_pos (.inl c1.symm), mu, Bool.or_eq_true]
      · rw [if_neg c1]
        obtain ⟨n3, m3⟩ := ih r1 hh
        refine ⟨n3, fun o => ?_⟩
        rw [if_neg (fun z => z.elim (fun z => c1 z.symm) fun z => c2 z.symm)]
        exact m3 o
theorem dsets_sz {n : Nat} (row : List (Nat × Nat)) (hr : InN n row) {h : Nat} (hh : h < n) : ((dsets n row)[h]?.getD []).length ≤ n := by
  obtain ⟨a, b⟩ := dsets_at row hr hh
  exact nodup_lt a fun x hx => kn_lt row hr ((b x).mp hx) hh
theorem itm_dkI (μ : Mu) (K : List Nat) : itmU μ (dkI K) = some (K.map kvU) := by
  simp only [itmU, cont]
  have : (K.map kI).zip (K.map fun _ => U.bl true) = K.map fun h => (kI h, U.bl true) := List.zip_map'
  rw [this, List.map_map]
  rfl
abbrev dL (S : List (List Nat)) : U := .lst (S.map dkI)
theorem dsets_take {n : Nat} {row : List (Nat × Nat)} {i : Nat} {p : Nat × Nat} (h : row[i]? = some p) : dsets n (row.take (i + 1)) = dstp (dsets n (row.take i)) p := by
  rw [List.take_add_one, h]
  exact dsets_snoc n _ p
theorem known_loop (k : Nat) (μ : Mu) {n : Nat} {row : List (Nat × Nat)} (hn : n ≤ 12) (hr : InN n row) (hl : row.length ≤ 200) (x3 x4 x5 : Option U) :
    ∃ y3 y4 y5, forL (fstep (runF defs k) μ.length (.tup [(.slot 3), (.slot 4)]) lb__law_known_1) (row.map pU) [some (I n), some (rU row), some (.ob μ.length), x3, x4, x5, none, none] (μ ++ [dL (dsets n [])]) =
      some (.nx [some (I n), some (rU row), some (.ob μ.length), y3, y4, y5, none, none] (μ ++ [dL (dsets n row)])) := by
  obtain ⟨σ', μ', e, y3, y4, y5, rfl, rfl⟩ := forL_inv0 (step := fstep (runF defs k) μ.length (.tup [(.slot 3), (.slot 4)]) lb__law_known_1) (xs := row.map pU)
    (fun i σ μ' => ∃ y3 y4 y5, σ = [some (I n), some (rU row), some (.ob μ.length), y3, y4, y5, none, none] ∧ μ' = μ ++ [dL (dsets n (row.take i))]) (σ := [some (I n), some (rU row), some (.ob μ.length), x3, x4, x5, none, none]) (μ := μ ++ [dL (dsets n [])])
    ⟨x3, x4, x5, rfl, rfl⟩ (fun i x σ μ' hx hp => by
      obtain ⟨y3, y4, y5, rfl, rfl⟩ := hp
      obtain ⟨p, hp, hm, rfl⟩ := map_at hx
      obtain ⟨h1, h2⟩ := hr p hm
      have dl := dsets_len n (row.take i)
      have z1 := dsets_sz (row.take i) (hr.take i) h1
      have z2 := dsets_sz (row.take i) (hr.take i) h2
      generalize hS : dsets n (row.take i) = S at dl z1 z2
      have a1 : atI (S.map dkI) (p.1 : Int) = some (dkI (S[p.1]?.getD [])) := atI_of (by simp [dl, h1])
      have a2 : atI (S.map dkI) (p.2 : Int) = some (dkI (S[p.2]?.getD [])) := atI_of (by simp [dl, h2])
      generalize hA : S[p.1]?.getD [] = A at a1 z1
      generalize hB : S[p.2]?.getD [] = B at a2 z2
      have sz : A.length + B.length ≤ SZ := by unfold SZ; omega
      have ul : ((A ++ B).foldl insN []).length ≤ A.length + B.length := by
        have := sub_len (l := (A ++ B).foldl insN []) (q := A ++ B) (foldl_insN_nd _ _ List.nodup_nil) fun x hx => by
          rw [foldl_insN_mem] at hx
          simpa using hx
        simpa using this
      refine ⟨[some (I n), some (rU row), some (.ob μ.length), some (I p.1), some (I p.2), some (dkI ((A ++ B).foldl insN [])), none, none], μ ++ [dL (dsets n (row.take (i + 1)))], .inl ?_, some (I p.1), some (I p.2), _, rfl, rfl⟩
      show exL (runF defs k) μ.length lb__law_known_1 [some (I n), some (rU row), some (.ob μ.length), some (I p.1), some (I p.2), y5, none, none] (μ ++ [dL S]) = _
      unfold lb__law_known_1
      have m1 : (μ ++ [dL S])[μ.length]? = some (dL S) := by simp
      have c1 : cont (μ ++ [dL S]) (.ob μ.length) = some (dL S) := by simp only [cont, m1]
      refine (ex_seq (ex_set (u := dkI ((A ++ B).foldl insN [])) (μ' := μ ++ [dL S]) (ev_col (us := [.lst ((A ++ B).map kvU)]) (xs := (A ++ B).map kvU) (ev_l1 ?_) rfl (col_dkI _ _ (by simpa using sz))))).trans ?_
      · rw [List.map_append]
        exact ev_addL (ev_itms (ev_idxL1 (ev_var rfl) (ev_var rfl) c1 a1) (itm_dkI _ _)) (ev_itms (ev_idxL1 (ev_var rfl) (ev_var rfl) c1 a2) (itm_dkI _ _)) (by simpa using sz)
      generalize hU : (A ++ B).foldl insN [] = W at ul
      have s1 : (μ ++ [dL S]).set μ.length (.lst ((S.map dkI).set p.1 (dkI W))) = μ ++ [dL (S.set p.1 W)] := by
        rw [set_last]
        simp [dL, List.map_set]
      have m2 : (μ ++ [dL (S.set p.1 W)])[μ.length]? = some (dL (S.set p.1 W)) := by simp
      have s2 : (μ ++ [dL (S.set p.1 W)]).set μ.length (.lst (((S.set p.1 W).map dkI).set p.2 (dkI (W.foldl insN [])))) = μ ++ [dL (dsets n (row.take (i + 1)))] := by
        rw [dsets_take hp, hS, set_last]
        unfold dstp
        rw [hA, hB]
        simp only [hU]
        simp [dL, List.map_set]
      refine (ex_seq (ex_sub2 (μ1 := μ ++ [dL S]) (μ2 := μ ++ [dL S]) (ev_var rfl) (ev_col (xs := W.map kvU) (ev_l1 (ev_itms (ev_var rfl) (itm_dkI _ _))) rfl (col_dkI _ _ (by unfold SZ; omega))) ((sto (ev_var rfl) (ev_var rfl) m1 (ixN_nat (by rw [List.length_map, dl]; exact h1)) (by simp [okw])).trans (by rw [s1]))
        ((sto (ev_var rfl) (ev_var rfl) m2 (ixN_nat (by rw [List.length_map, List.length_set, dl]; exact h2)) (by simp [okw])).trans (by rw [s2])))).trans ?_
      exact ex_nil)
  refine ⟨y3, y4, y5, ?_⟩
  rw [e]
  simp
theorem law_known_ok (k : Nat) (μ : Mu) {n : Nat} {row : List (Nat × Nat)} (hn : n ≤ 12) (hr : InN n row) (hl : row.length ≤ 200) : runF defs (k + 1) 32 [I n, rU row] μ = some (kL n row, μ) := by
  rw [run__law_known]
  obtain ⟨y3, y4, y5, e⟩ := known_loop k μ hn hr hl none none none
  have c : evalE (runF defs k) μ.length c__law_known_0 [some (I n), some (rU row), none, none, none, none, none, none] μ = some (.ob μ.length, μ ++ [dL (dsets n [])]) := by
    refine (ev_comp (us := [I n]) (μ1 := μ) (xs := (List.range n).map I) (ev_l1 (ev_var rfl)) (walk_rng (by omega)) (compL_all (enc := I) (g := fun h => dkI [h]) (xs := List.range n) (fun h hh => ?_) (by simp; unfold SZ; omega))).trans ?_
    · exact cs_yes rfl (ev_col (us := [.lst ([h].map kvU)]) (xs := [h].map kvU) (ev_l1 (ev_lst (ev_l1 (ev_tup (ev_l2 (ev_var rfl) ev_bl) (show 2 ≤ SZ by decide))) (show 1 ≤ SZ by decide))) rfl (col_dkI _ [h] (show 1 ≤ SZ by decide)))
    · simp [R.fresh, dL, dsets]
  have mL : (μ ++ [dL (dsets n row)])[μ.length]? = some (dL (dsets n row)) := by simp
  have c3 : evalE (runF defs k) μ.length c__law_known_3 [some (I n), some (rU row), some (.ob μ.length), y3, y4, y5, none, none] (μ ++ [dL (dsets n row)]) = some (kL n row, μ ++ [dL (dsets n row)]) := by
    have dl := dsets_len n row
    have cv := compV_all (step := cstep (runF defs k) μ.length (.slot 7) (.bl true) (.col false .tuple .ex [(.col false .sorted .ex [(.var 7)])]) [7] [some (I n), some (rU row), some (.ob μ.length), y3, y4, y5, none, none]) (enc := dkI) (g := fun l => lU (srt l)) (μ := μ ++ [dL (dsets n row)]) (i := μ.length) (xs := dsets n row) mL (fun l hl => by
      obtain ⟨h, hh, rfl⟩ := List.mem_iff_getElem.mp hl
      have z := dsets_sz row hr (h := h) (by omega)
      rw [List.getElem?_eq_getElem hh, Option.getD_some] at z
      refine cs_yes rfl (ev_col (us := [.lst ((srt (dsets n row)[h]).map I)]) (xs := (srt (dsets n row)[h]).map I) (ev_l1 (ev_col (us := [dkI (dsets n row)[h]]) (xs := ((dsets n row)[h]).map I) (ev_l1 (ev_var rfl)) ?_ ?_)) rfl rfl)
      · simp only [items, asS, asL, cont, List.map_map]
        rfl
      · simp only [evCol]
        rw [srtd_I _ _ (by unfold SZ; omega)]
        rfl) (by rw [dl]; unfold SZ; omega) (f := FU) (k := 0) (acc := []) (Nat.zero_le _) (by rw [dl]; unfold FU; omega) (by simp)
    refine (ev_compV (ev_l1 (ev_var rfl)) (show walk _ .ex [.ob μ.length] = some (.inr μ.length) by simp only [walk, mL]) cv).trans ?_
    have e2 : (dsets n row).map (fun l => lU (srt l)) = (tab n (kn row)).map lU := by
      have : (dsets n row).map srt = tab n (kn row) := by
        have e3 : (dsets n row).map srt = (List.range n).map fun h => srt ((dsets n row)[h]?.getD []) := by
          apply List.ext_getElem?
          intro i
          simp only [List.getElem?_map]
          by_cases hi : i < n
          · have hb : i < (dsets n row).length := by omega
            rw [List.getElem?_range hi, List.getElem?_eq_getElem hb, Option.map_some, Option.map_some, List.getElem?_eq_getElem hb, Option.getD_some]
          · rw [List.getElem?_eq_none_iff.mpr (by omega), List.getElem?_eq_none_iff.mpr (by simp; omega)]
            rfl
        rw [e3]
        unfold tab
        refine List.map_congr_left fun h hh => ?_
        have hh : h < n := by simpa using hh
        obtain ⟨a, b⟩ := dsets_at row hr hh
        exact srt_filter a fun x => by rw [b]; exact ⟨fun z => ⟨kn_lt row hr z hh, z⟩, fun z => z.2⟩
      rw [← this, List.map_map]
      rfl
    rw [List.nil_append, List.drop_zero, e2]
    rfl
  have b : exL (runF defs k) μ.length b__law_known [some (I n), some (rU row), none, none, none, none, none, none] μ = some (.rt (kL n row) (μ ++ [dL (dsets n row)])) := by
    unfold b__law_known
    refine (ex_seq (ex_set c)).trans ?_
    refine (ex_seq (((show exS _ _ l__law_known_1 _ _ = _ from ex_for (ev_l1 (ev_var rfl)) rfl)).trans e)).trans ?_
    exact ex_ret c3
  exact (if_pos rfl).trans (run_rt b (fin_cut (frz_pl (pl_kT (d := 0)).2 _ _ (by decide)) (by simp)))
theorem kL_ni (n : Nat) (row : List (Nat × Nat)) : Ni 2 (kL n row) := .lst fun u hu => by
  obtain ⟨l, _, rfl⟩ := List.mem_map.mp hu
  exact .tup fun v hv => by
    obtain ⟨x, _, rfl⟩ := List.mem_map.mp hv
    exact .int _ _
theorem lU_inj {x y : List Nat} (h : lU x = lU y) : x = y := map_I_inj (by injection h)
theorem kL_eq (μ : Mu) (n : Nat) (row row' : List (Nat × Nat)) : evCmp μ .eq (kL n row) (kL n row') = some (decide (tab n (kn row) = tab n (kn row'))) := by
  obtain ⟨b, e, hb⟩ := eq_ni μ (kL_ni n row) (kL_ni n row') (by decide) (by decide)
  simp only [evCmp]
  rw [e]
  congr 1
  rw [Bool.eq_iff_iff, hb, decide_eq_true_eq, U.lst.injEq]
  exact ⟨fun z => List.map_inj_right (fun a b => lU_inj) |>.mp z, fun z => by rw [z]⟩
theorem law_full_ok (k : Nat) (μ : Mu) {n : Nat} {row : List (Nat × Nat)} (hn : n ≤ 12) (hr : InN n row) (hl : row.length ≤ 200) : runF defs (k + 2) 33 [I n, rU row] μ = some (.bl (fullB n (kn row)), μ) := by
  rw [run__law_is_full]
  refine (if_pos rfl).trans (run_rt (μ1 := μ) (u := .bl (fullB n (kn row))) ?_ (fin_cut rfl (by simp)))
  have c : evalE (runF defs (k + 1)) μ.length c__law_is_full_0 [some (I n), some (rU row), none] μ = some (.lst (((tab n (kn row)).filter fun l => decide (l.length < n)).map lU), μ) := by
    refine (ev_comp (us := [kL n row]) (μ1 := μ) (xs := (tab n (kn row)).map lU) (ev_l1 (ev_call (ev_l2 (ev_var rfl) (ev_var rfl)) (law_known_ok k μ hn hr hl))) rfl (compL_filter (enc := lU) (g := lU) (p := fun l => decide (l.length < n)) (fun l hl => ?_) (by simp [tab_len]; unfold SZ; omega))).trans rfl
    have e1 : evalE (runF defs (k + 1)) μ.length (.cmp .lt (.bi .len [(.var 2)]) (.var 0)) [some (I n), some (rU row), some (lU l)] μ = some (.bl (decide (l.length < n)), μ) :=
      ev_cmp (u := I l.length) (ev_bi (ev_l1 (ev_var rfl)) (by simp [evBi, cont])) (ev_var rfl) lt_I
    by_cases h : l.length < n
    · rw [decide_eq_true h] at e1 ⊢
      exact cs_if rfl e1 rfl (ev_var rfl)
    · rw [decide_eq_false h] at e1 ⊢
      exact cs_no rfl e1 rfl
  refine ex_ret (ev_cmp c (ev_lst ev_lnil (show 0 ≤ SZ by decide)) ?_)
  have ni : ∀ L : List (List Nat), Ni 2 (.lst (L.map lU)) := fun L => .lst fun u hu => by
    obtain ⟨l, _, rfl⟩ := List.mem_map.mp hu
    exact .tup fun v hv => by
      obtain ⟨x, _, rfl⟩ := List.mem_map.mp hv
      exact .int _ _
  obtain ⟨b, e, hb⟩ := eq_ni μ (ni ((tab n (kn row)).filter fun l => decide (l.length < n))) (ni []) (by decide) (by decide)
  rw [List.map_nil] at e
  have e3 : evCmp μ .eq (.lst (((tab n (kn row)).filter fun l => decide (l.length < n)).map lU)) (.lst []) = some b := by
    simp only [evCmp]
    exact e
  refine e3.trans (congrArg some ?_)
  rw [Bool.eq_iff_iff, hb, U.lst.injEq, List.map_nil, List.map_eq_nil_iff, List.filter_eq_nil_iff]
  unfold fullB tab
  rw [List.all_eq_true]
  constructor
  · intro z h hh
    have := z _ (List.mem_map.mpr ⟨h, hh, rfl⟩)
    rw [rowFull_len]
    have h2 := List.length_filter_le (kn row h) (List.range n)
    simp at this h2
    omega
  · intro z l hl
    obtain ⟨h, hh, rfl⟩ := List.mem_map.mp hl
    have := rowFull_len.mp (z h hh)
    simp [this]
end K04

set_option Elab.async false
set_option linter.all false
set_option maxRecDepth 100000
set_option maxHeartbeats 4000000
namespace K04
open PySem L2 R
/-! ### the law's judge of rows -/
theorem forL_test {step : U → R.Env → Mu → Option Out} {p : U → Bool} {Q : R.Env → Prop} {μ : Mu} {w : U} : ∀ {xs : List U} {σ : R.Env}, Q σ → (∀ x ∈ xs, ∀ σ, Q σ → if p x = true then ∃ σ', step x σ μ = some (.nx σ' μ) ∧ Q σ' else step x σ μ = some (.rt w μ)) →
    if xs.all p = true then ∃ σ', forL step xs σ μ = some (.nx σ' μ) ∧ Q σ' else forL step xs σ μ = some (.rt w μ)
  | [], σ, h, _ => by
    rw [if_pos (show ([] : List U).all p = true from rfl)]
    exact ⟨σ, by simp [forL], h⟩
  | x :: xs, σ, h, hs => by
    have h1 := hs x (by simp) σ h
    by_cases hp : p x = true
    · rw [if_pos hp] at h1
      obtain ⟨σ1, e1, q1⟩ := h1
      have h2 := forL_test (xs := xs) q1 fun y hy => hs y (by simp [hy])
      simp only [forL, e1, List.all_cons, hp, Bool.true_and]
      exact h2
    · rw [if_neg hp] at h1
      have hp' : p x = false := by simpa using hp
      rw [List.all_cons, hp', Bool.false_and, if_neg (by simp)]
      simp only [forL, h1]
theorem ex_bad {cal : Nat → List U → Mu → Option (U × Mu)} {n0 : Nat} {σ : R.Env} {μ μ1 μ2 : Mu} {c e : E} {f ss : List S} {w : U} (hc : evalE cal n0 c σ μ = some (.bl true, μ1)) (he : evalE cal n0 e σ μ1 = some (w, μ2)) : exL cal n0 (.iff c [.ret e] f :: ss) σ μ = some (.rt w μ2) := by
  have h : exS cal n0 (.iff c [.ret e] f) σ μ = some (.rt w μ2) := (ex_ifT hc rfl).trans (ex_ret he)
  simp only [exL, h]
theorem sort_ne (k : Nat) {B d : Nat} {u : U} (h : Pl B d u) (μ : Mu) (n0 : Nat) {σ : R.Env} {e : E} (he : evalE (runF defs (k + 1)) n0 e σ μ = some (u, μ)) (j : Int) : evalE (runF defs (k + 1)) n0 (.cmp .ne (.call 26 [e]) (.int j)) σ μ = some (.bl (!decide (srtU u = j)), μ) := by
  refine ev_cmp (ev_call (ev_l1 he) (sort_pl k h μ)) ev_int ?_
  simp only [evCmp, eq_int, neg?]
theorem ne_nil (μ : Mu) {B d : Nat} {xs : List U} (h : ∀ u ∈ xs, Pl B d u) (hd : d + 1 ≤ D0) : evCmp μ .ne (.lst xs) (.lst []) = some (!xs.isEmpty) := by
  have m := mapO_map (f := dat μ 11) (g := id) (h := tp) (xs := xs) fun x hx => dat_tp μ (h x hx) (by unfold D0 at hd; omega)
  rw [List.map_id] at m
  simp only [evCmp, evEq, show D0 = 11 + 1 from rfl, dat, m, mapO]
  cases xs with
  | nil => rfl
  | cons x xs => simp [PyData.eqv, PyData.eqvAll, neg?]
theorem okCall_inE {n : Nat} {es : List (Nat × Nat)} (T : Town n es) (u : U) : okCall n es u = inE es u := by
  unfold okCall
  cases h : inE es u with
  | false => rw [Bool.and_false]
  | true =>
    rw [Bool.and_true]
    unfold inE at h
    split at h
    · rename_i i j
      rw [List.any_eq_true] at h
      obtain ⟨p, hp, e⟩ := h
      have e := of_decide_eq_true e
      have := T.lt p hp
      simp [arW, isW]
      omega
    · cases h
theorem call_step (k : Nat) {B d : Nat} (hB : B ≤ SZ) (hd : d ≤ 10) {n : Nat} {es : List (Nat × Nat)} (μ : Mu) {v x : U} (h : Pl B d x) (y2 : Option U) : if inE es x = true then exL (runF defs (k + 1)) μ.length lb__law_is_row_1 [some (tU n es), some v, some x, none] μ = some (.nx [some (tU n es), some v, some x, none] μ)
    else exL (runF defs (k + 1)) μ.length lb__law_is_row_1 [some (tU n es), some v, some x, none] μ = some (.rt (.bl false) μ) := by
  unfold lb__law_is_row_1
  have s := sort_ne k h μ μ.length (σ := [some (tU n es), some v, some x, none]) (e := .var 2) (ev_var rfl) 4
  cases h with
  | @tup d xs hz h =>
    have s' : evalE (runF defs (k + 1)) μ.length (.cmp .ne (.call 26 [.var 2]) (.int 4)) [some (tU n es), some v, some (.tup xs), none] μ = some (.bl false, μ) := s
    have l : evalE (runF defs (k + 1)) μ.length (.cmp .ne (.bi .len [.var 2]) (.int 2)) [some (tU n es), some v, some (.tup xs), none] μ = some (.bl (decide (xs.length ≠ 2)), μ) :=
      ev_cmp (u := I xs.length) (v := I 2) (ev_bi (ev_l1 (ev_var rfl)) (by simp [evBi, cont])) ev_int ne_I
    by_cases hl : xs.length = 2
    · rw [decide_eq_false (by simpa using hl)] at l
      have f : evalE (runF defs (k + 1)) μ.length c__law_is_row_0 [some (tU n es), some v, some (.tup xs), none] μ = some (.lst (xs.filter fun u => !decide (srtU u = 2)), μ) := by
        have cf := compL_filter (step := cstep (runF defs (k + 1)) μ.length (.slot 3) (.cmp .ne (.call 26 [(.var 3)]) (.int 2)) (.var 3) [3] [some (tU n es), some v, some (.tup xs), none]) (enc := id) (g := id) (p := fun u => !decide (srtU u = 2)) (μ := μ) (xs := xs) (acc := []) (fun u hu => ?_) (by simp; omega)
        · rw [List.map_id, List.map_id] at cf
          exact (ev_comp (us := [.tup xs]) (μ1 := μ) (xs := xs) (ev_l1 (ev_var rfl)) rfl cf).trans rfl
        · have s2 := sort_ne k (h u hu) μ μ.length (σ := [some (tU n es), some v, some (.tup xs), some u]) (e := .var 3) (ev_var rfl) 2
          by_cases z : srtU u = 2
          · rw [decide_eq_true z] at s2 ⊢
            exact cs_no rfl s2 rfl
          · rw [decide_eq_false z] at s2 ⊢
            exact cs_if rfl s2 rfl (ev_var rfl)
      have fn : evalE (runF defs (k + 1)) μ.length (.cmp .ne c__law_is_row_0 (.lst false [])) [some (tU n es), some v, some (.tup xs), none] μ = some (.bl (!(xs.filter fun u => !decide (srtU u = 2)).isEmpty), μ) :=
        ev_cmp f (ev_lst ev_lnil (show 0 ≤ SZ by decide)) (ne_nil μ (fun u hu => h u (List.mem_filter.mp hu |>.1)) (by unfold D0; omega))
      match xs, hl, h, s', l, f, fn with
      | [a, b], hl, h, s', l, f, fn =>
        by_cases two : ∃ i j, a = .int i ∧ b = .int j
        · obtain ⟨i, j, rfl, rfl⟩ := two
          have nin : evalE (runF defs (k + 1)) μ.length (.cmp .notin (.var 2) (.idx (.var 0) (.int 1))) [some (tU n es), some v, some (.tup [.int i, .int j]), none] μ = some (.bl (!inE es (.tup [.int i, .int j])), μ) := by
            refine ev_cmp (ev_var rfl) (ev_idxT (ev_var rfl) ev_int (w := .tup (es.map pU)) rfl) ?_
            simp only [evCmp]
            rw [in_es]
            rfl
          by_cases g : inE es (.tup [.int i, .int j]) = true
          · rw [if_pos g]
            rw [g] at nin
            exact (ex_seq ((ex_ifF (u := .bl false) (μ1 := μ) (ev_orF s' (ev_orF l (ev_orF fn (ev_b1 nin)))) rfl).trans ex_nil)).trans ex_nil
          · rw [if_neg g]
            rw [Bool.not_eq_true] at g
            rw [g] at nin
            exact ex_bad (ev_orF s' (ev_orF l (ev_orF fn (ev_b1 nin)))) ev_bl
        · have nf : inE es (.tup [a, b]) = false := by
            unfold inE
            split
            · rename_i i j e
              injection e with e
              injection e with e1 e2
              injection e2 with e2 _
              exact absurd ⟨i, j, e1, e2⟩ two
            · rfl
          have ne : (([a, b].filter fun u => !decide (srtU u = 2)).isEmpty) = false := by
            have ha : srtU a = 2 → ∃ i, a = .int i := fun z => by cases a <;> simp [srtU] at z; exact ⟨_, rfl⟩
            have hb : srtU b = 2 → ∃ i, b = .int i := fun z => by cases b <;> simp [srtU] at z; exact ⟨_, rfl⟩
            by_cases z1 : srtU a = 2
            · by_cases z2 : srtU b = 2
              · obtain ⟨i, rfl⟩ := ha z1
                obtain ⟨j, rfl⟩ := hb z2
                exact absurd ⟨i, j, rfl, rfl⟩ two
              · simp [z1, z2]
            · simp [z1]
          rw [ne] at fn
          rw [nf, if_neg (by simp)]
          exact ex_bad (ev_orF s' (ev_orF l (ev_orT fn))) ev_bl
    · rw [decide_eq_true hl] at l
      have nf : inE es (.tup xs) = false := by
        unfold inE
        split
        · rename_i e
          injection e with e
          subst e
          exact absurd rfl hl
        · rfl
      rw [nf, if_neg (by simp)]
      exact ex_bad (ev_orF s' (ev_orT l)) ev_bl
  | _ =>
    rw [show inE es _ = false from rfl, if_neg (by simp)]
    exact ex_bad (ev_orT s) ev_bl
theorem law_row_ok (k : Nat) {B d : Nat} (hB : B ≤ SZ) (hd : d ≤ 10) {u : U} (h : Pl B d u) {n : Nat} {es : List (Nat × Nat)} (T : Town n es) (μ : Mu) : runF defs (k + 2) 34 [tU n es, u] μ = some (.bl (okRow n es u), μ) := by
  rw [run__law_is_row]
  refine (if_pos rfl).trans (run_rt (μ1 := μ) (u := .bl (okRow n es u)) ?_ (fin_cut rfl (by simp)))
  unfold b__law_is_row
  have s := sort_ne k h μ μ.length (σ := [some (tU n es), some u, none, none]) (e := .var 1) (ev_var rfl) 4
  cases h with
  | @tup d xs hz h =>
    have s' : evalE (runF defs (k + 1)) μ.length (.cmp .ne (.call 26 [.var 1]) (.int 4)) [some (tU n es), some (.tup xs), none, none] μ = some (.bl false, μ) := s
    have l : evalE (runF defs (k + 1)) μ.length (.cmp .gt (.bi .len [.var 1]) (.int 200)) [some (tU n es), some (.tup xs), none, none] μ = some (.bl (decide (200 < xs.length)), μ) :=
      ev_cmp (u := I xs.length) (v := I 200) (ev_bi (ev_l1 (ev_var rfl)) (by simp [evBi, cont])) ev_int gt_I
    have okr : okRow n es (.tup xs) = (decide (xs.length ≤ 200) && xs.all (inE es)) := by
      unfold okRow
      congr 1
      · simp [isT]
      · simp only [itms]
        congr 1
        funext x
        exact okCall_inE T x
    rw [okr]
    by_cases hl : 200 < xs.length
    · rw [decide_eq_true hl] at l
      rw [decide_eq_false (by omega), Bool.false_and]
      exact ex_bad (ev_orF s' (ev_b1 l)) ev_bl
    · rw [decide_eq_false hl] at l
      rw [decide_eq_true (by omega), Bool.true_and]
      refine (ex_seq ((ex_ifF (u := .bl false) (μ1 := μ) (ev_orF s' (ev_b1 l)) rfl).trans ex_nil)).trans ?_
      have lp := forL_test (step := fstep (runF defs (k + 1)) μ.length (.slot 2) lb__law_is_row_1) (p := inE es) (Q := fun σ => ∃ y2, σ = [some (tU n es), some (.tup xs), y2, none]) (μ := μ) (w := .bl false) (xs := xs) (σ := [some (tU n es), some (.tup xs), none, none]) ⟨none, rfl⟩ (fun x hx σ hσ => by
        obtain ⟨y2, rfl⟩ := hσ
        have := call_step k hB (d := d) (by omega) (n := n) (es := es) μ (v := .tup xs) (h x hx) y2
        by_cases g : inE es x = true
        · rw [if_pos g] at this ⊢
          exact ⟨_, this, some x, rfl⟩
        · rw [if_neg g] at this ⊢
          exact this)
      have el : exS (runF defs (k + 1)) μ.length l__law_is_row_1 [some (tU n es), some (.tup xs), none, none] μ = forL (fstep (runF defs (k + 1)) μ.length (.slot 2) lb__law_is_row_1) xs [some (tU n es), some (.tup xs), none, none] μ := ex_for (us := [.tup xs]) (ev_l1 (ev_var rfl)) rfl
      by_cases g : xs.all (inE es) = true
      · rw [if_pos g] at lp
        obtain ⟨σ', e, y2, rfl⟩ := lp
        rw [g]
        exact (ex_seq (el.trans e)).trans (ex_ret ev_bl)
      · rw [if_neg g] at lp
        rw [Bool.not_eq_true] at g
        rw [g]
        have := el.trans lp
        simp only [exL, this]
  | _ =>
    rw [show okRow n es _ = false from rfl]
    exact ex_bad (ev_orT s) ev_bl
end K04

set_option Elab.async false
set_option linter.all false
set_option maxRecDepth 100000
set_option maxHeartbeats 4000000
namespace K04
open PySem L2 R
/-! ### bent values -/
abbrev someL : List U := [.non, .bl true, .bl false, .int 0, .int 1, .int 2, .int 3, .int (-1), .int 12, .int 60, .str "", .tup [], .lst [], .tup [.int 0], .tup [.int 0, .int 1], .tup [.int 1, .int 0], .tup [.int 0, .int 0], .tup [.tup [.int 0, .int 1]]]
theorem pl_ints2 {B d : Nat} (hB : 2 ≤ B) (xs : List U) (hl : xs.length ≤ 2) (h : ∀ u ∈ xs, ∃ i, u = .int i) : Pl B (d + 1) (.tup xs) := .tup (by omega) fun u hu => by obtain ⟨i, rfl⟩ := h u hu; exact .int _ _
theorem someL_pl {B d : Nat} (hB : 2 ≤ B) : ∀ u ∈ someL, Pl B (d + 2) u := by
  intro u hu
  simp only [someL, List.mem_cons, List.not_mem_nil, or_false] at hu
  rcases hu with rfl | rfl | rfl | rfl | rfl | rfl | rfl | rfl | rfl | rfl | rfl | rfl | rfl | rfl | rfl | rfl | rfl | rfl
  · exact .non _
  · exact .bl _ _
  · exact .bl _ _
  · exact .int _ _
  · exact .int _ _
  · exact .int _ _
  · exact .int _ _
  · exact .int _ _
  · exact .int _ _
  · exact .int _ _
  · exact .str _ _
  · exact .tup (Nat.zero_le _) fun u hu => by simp at hu
  · exact .lst (Nat.zero_le _) fun u hu => by simp at hu
  · exact pl_ints2 hB _ (by simp) fun u hu => by simp at hu; exact ⟨_, hu⟩
  · exact pl_ints2 hB _ (by simp) fun u hu => by simp at hu; rcases hu with h | h <;> exact ⟨_, h⟩
  · exact pl_ints2 hB _ (by simp) fun u hu => by simp at hu; rcases hu with h | h <;> exact ⟨_, h⟩
  · exact pl_ints2 hB _ (by simp) fun u hu => by simp at hu; exact ⟨_, hu⟩
  · refine .tup (by simp; omega) fun u hu => ?_
    rw [List.mem_singleton] at hu
    subst hu
    exact pl_ints2 hB _ (by simp) fun u hu => by simp at hu; rcases hu with h | h <;> exact ⟨_, h⟩
theorem someL_ev {cal : Nat → List U → Mu → Option (U × Mu)} {n0 : Nat} {σ : R.Env} {μ : Mu} : evalE cal n0 (.lst false [.non, (.bl true), (.bl false), (.int 0), (.int 1), (.int 2), (.int 3), (.neg (.int 1)), (.int 12), (.int 60), (.str ""), (.tup []), (.lst false []), (.tup [(.int 0)]), (.tup [(.int 0), (.int 1)]), (.tup [(.int 1), (.int 0)]), (.tup [(.int 0), (.int 0)]), (.tup [(.tup [(.int 0), (.int 1)])])]) σ μ = some (.lst someL, μ) := by
  refine ev_lst (us := someL) ?_ (show 18 ≤ SZ by decide)
  exact ev_lcons ev_non (ev_lcons ev_bl (ev_lcons ev_bl (ev_lcons ev_int (ev_lcons ev_int (ev_lcons ev_int (ev_lcons ev_int (ev_lcons (ev_neg ev_int) (ev_lcons ev_int (ev_lcons ev_int (ev_lcons ev_str (ev_lcons (ev_tup ev_lnil (show 0 ≤ SZ by decide)) (ev_lcons (ev_lst ev_lnil (show 0 ≤ SZ by decide)) (ev_lcons (ev_tup (ev_l1 ev_int) (show 1 ≤ SZ by decide)) (ev_lcons (ev_tup (ev_l2 ev_int ev_int) (show 2 ≤ SZ by decide)) (ev_lcons (ev_tup (ev_l2 ev_int ev_int) (show 2 ≤ SZ by decide)) (ev_l2 (ev_tup (ev_l2 ev_int ev_int) (show 2 ≤ SZ by decide)) (ev_tup (ev_l1 (ev_tup (ev_l2 ev_int ev_int) (show 2 ≤ SZ by decide))) (show 1 ≤ SZ by decide))))))))))))))))))
def extra : U → List U
  | .int i => (List.replicate 5 [U.int (i + 1), U.int (i - 1)]).flatten
  | _ => []
theorem extra_ok (k : Nat) {B d : Nat} {v : U} (h : Pl B d v) (μ : Mu) {n0 : Nat} {σ : R.Env} (hv : evalE (runF defs (k + 1)) n0 (.var 1) σ μ = some (v, μ)) :
    evalE (runF defs (k + 1)) n0 (.ite (.cmp .eq (.call 26 [(.var 1)]) (.int 2)) (.bin false .mul (.lst false [(.bin false .add (.var 1) (.int 1)), (.bin false .sub (.var 1) (.int 1))]) (.int 5)) (.lst false [])) σ μ = some (.lst (extra v), μ) ∧ (extra v).length ≤ 10 ∧ ∀ u ∈ extra v, Pl 0 0 u := by
  have c : evalE (runF defs (k + 1)) n0 (.cmp .eq (.call 26 [(.var 1)]) (.int 2)) σ μ = some (.bl (decide (srtU v = 2)), μ) := ev_cmp (ev_call (ev_l1 hv) (sort_pl k h μ)) ev_int (by simp only [evCmp, eq_int])
  have no : srtU v ≠ 2 → extra v = [] → evalE (runF defs (k + 1)) n0 (.ite (.cmp .eq (.call 26 [(.var 1)]) (.int 2)) (.bin false .mul (.lst false [(.bin false .add (.var 1) (.int 1)), (.bin false .sub (.var 1) (.int 1))]) (.int 5)) (.lst false [])) σ μ = some (.lst (extra v), μ) ∧ (extra v).length ≤ 10 ∧ ∀ u ∈ extra v, Pl 0 0 u := fun h1 h2 => by
    rw [decide_eq_false h1] at c
    rw [h2]
    exact ⟨ev_iteF c rfl (ev_lst ev_lnil (show 0 ≤ SZ by decide)), by simp, by simp⟩
  cases h with
  | int d i =>
    rw [decide_eq_true (by rfl)] at c
    refine ⟨ev_iteT c rfl (ev_bin (ev_lst (ev_l2 (ev_bin hv ev_int rfl) (ev_bin hv ev_int rfl)) (show 2 ≤ SZ by decide)) ev_int ?_), by simp [extra, List.replicate], fun u hu => ?_⟩
    · simp only [evBin, asL]
      rw [if_pos (by simp [SZ])]
      rfl
    · simp [extra, List.replicate] at hu
      rcases hu with rfl | rfl | rfl | rfl | rfl | rfl | rfl | rfl | rfl | rfl <;> exact .int _ _
  | _ => exact no (by simp [srtU]) rfl
theorem eq_nilT (μ : Mu) {B d : Nat} {xs : List U} (h : ∀ u ∈ xs, Pl B d u) (hd : d + 1 ≤ D0) : evCmp μ .eq (.tup xs) (.tup []) = some xs.isEmpty := by
  have m := mapO_map (f := dat μ 11) (g := id) (h := tp) (xs := xs) fun x hx => dat_tp μ (h x hx) (by unfold D0 at hd; omega)
  rw [List.map_id] at m
  simp only [evCmp, evEq, show D0 = 11 + 1 from rfl, dat, m, mapO]
  cases xs with
  | nil => rfl
  | cons x xs => simp [PyData.eqv, PyData.eqvAll]
theorem bent_ok {B : Nat} (hB : 2 ≤ B) (hB2 : B ≤ 1000) (ρ : Mu) {d : Nat} {v : U} (h : Pl B d v) : ∀ (k : Nat) {c : U}, Cup c → d ≤ 8 → ∃ v' c', runF defs (k + d + 3) 35 [.ob 0, v] (c :: ρ) = some (v', c' :: ρ) ∧ Pl (B + 1) (d + 2) v' ∧ Cup c' := by
  have leaf : ∀ {d : Nat} {v : U}, Pl B d v → d ≤ 8 → ∀ (k : Nat) {c0 c : U}, Cup c → evalE (runF defs (k + 2)) (ρ.length + 1) (.bool false [(.not (.isi (.var 1) .tuple)), (.cmp .eq (.var 1) (.tup [])), (.cmp .eq (.call 24 [(.var 0), (.int 7)]) (.int 0))]) [some (.ob 0), some v, none, none, none] (c0 :: ρ) = some (.bl true, c :: ρ) →
      ∃ v' c', runF defs (k + 3) 35 [.ob 0, v] (c0 :: ρ) = some (v', c' :: ρ) ∧ Pl (B + 1) (d + 2) v' ∧ Cup c' := fun {d v} h hd k c0 c C hc => by
    obtain ⟨e1, e2, e3⟩ := extra_ok (k + 1) h (c :: ρ) (n0 := ρ.length + 1) (σ := [some (.ob 0), some v, some (.lst someL), none, none]) (ev_var rfl)
    have hp : ∀ x ∈ someL ++ extra v, Pl (B + 1) (d + 2) x := fun x hx => by
      rcases List.mem_append.mp hx with z | z
      · exact someL_pl (by omega) x z
      · exact (e3 x z).up (by omega) (by omega)
    obtain ⟨w, c', es, hw, C'⟩ := some_ok k ρ C (u := .lst (someL ++ extra v)) (xs := someL ++ extra v) (.inl rfl) (fun _ => trivial) (by simp) (by simp; omega) fun x hx c' => frz_pl (hp x hx) _ _ (by unfold D0; omega)
    refine ⟨w, c', ?_, hp w hw, C'⟩
    rw [run__law_bent]
    have b : exL (runF defs (k + 2)) (ρ.length + 1) b__law_bent [some (.ob 0), some v, none, none, none] (c0 :: ρ) = some (.rt w (c' :: ρ)) := by
      unfold b__law_bent
      have s1 : exS (runF defs (k + 2)) (ρ.length + 1) (.iff (.bool false [(.not (.isi (.var 1) .tuple)), (.cmp .eq (.var 1) (.tup [])), (.cmp .eq (.call 24 [(.var 0), (.int 7)]) (.int 0))]) [.set 2 (.lst false [.non, (.bl true), (.bl false), (.int 0), (.int 1), (.int 2), (.int 3), (.neg (.int 1)), (.int 12), (.int 60), (.str ""), (.tup []), (.lst false []), (.tup [(.int 0)]), (.tup [(.int 0), (.int 1)]), (.tup [(.int 1), (.int 0)]), (.tup [(.int 0), (.int 0)]), (.tup [(.tup [(.int 0), (.int 1)])])]), .ret (.call 25 [(.var 0), (.bin false .add (.var 2) (.ite (.cmp .eq (.call 26 [(.var 1)]) (.int 2)) (.bin false .mul (.lst false [(.bin false .add (.var 1) (.int 1)), (.bin false .sub (.var 1) (.int 1))]) (.int 5)) (.lst false [])))])] []) [some (.ob 0), some v, none, none, none] (c0 :: ρ) = some (.rt w (c' :: ρ)) := by
        refine (ex_ifT hc rfl).trans ?_
        refine (ex_seq (ex_set (someL_ev))).trans ?_
        refine ex_ret (ev_call (ev_l2 (ev_var rfl) (ev_addL (ev_var rfl) e1 (by simp; unfold SZ; omega))) es)
      simp only [exL, s1]
    exact (if_pos rfl).trans (run_rt b (fin_cut (frz_pl (hp w hw) _ _ (by unfold D0; omega)) (by simp)))
  have flat : ∀ {d : Nat} {v : U}, Pl B d v → d ≤ 8 → (∀ xs, v ≠ .tup xs) → ∀ (k : Nat) {c : U}, Cup c → ∃ v' c', runF defs (k + d + 3) 35 [.ob 0, v] (c :: ρ) = some (v', c' :: ρ) ∧ Pl (B + 1) (d + 2) v' ∧ Cup c' := fun {d v} h hd hn k c C => by
    refine leaf h hd (k + d) C (ev_orT (ev_not (d := false) (ev_isi (r := false) (ev_var rfl) ?_) rfl))
    cases h with
    | tup hz h => exact absurd rfl (hn _)
    | _ => rfl
  induction h with
  | non d => intro k c C hd; exact flat (.non d) hd (fun xs z => by cases z) k C
  | bl d b => intro k c C hd; exact flat (.bl d b) hd (fun xs z => by cases z) k C
  | int d i => intro k c C hd; exact flat (.int d i) hd (fun xs z => by cases z) k C
  | str d x => intro k c C hd; exact flat (.str d x) hd (fun xs z => by cases z) k C
  | lst hz h ih => intro k c C hd; exact flat (.lst hz h) hd (fun xs z => by cases z) k C
  | @tup d xs hz h ih =>
    intro k c C hd
    have t1 : evalE (runF defs (k + (d + 1) + 2)) (ρ.length + 1) (.not (.isi (.var 1) .tuple)) [some (.ob 0), some (.tup xs), none, none, none] (c :: ρ) = some (.bl false, c :: ρ) := ev_not (d := true) (ev_isi (r := true) (ev_var rfl) rfl) rfl
    have t2 : evalE (runF defs (k + (d + 1) + 2)) (ρ.length + 1) (.cmp .eq (.var 1) (.tup [])) [some (.ob 0), some (.tup xs), none, none, none] (c :: ρ) = some (.bl xs.isEmpty, c :: ρ) := ev_cmp (ev_var rfl) (ev_tup ev_lnil (show 0 ≤ SZ by decide)) (eq_nilT _ h (by unfold D0; omega))
    cases hxs : xs.isEmpty with
    | true =>
      rw [hxs] at t2
      exact leaf (.tup hz h) hd (k + (d + 1)) C (ev_orF t1 (ev_orT t2))
    | false =>
      rw [hxs] at t2
      obtain ⟨r7, c1, e7, _, C1⟩ := roll_ok (k + (d + 1) + 1) ρ C (many := 7) (by omega) (by omega)
      have t3 : evalE (runF defs (k + (d + 1) + 2)) (ρ.length + 1) (.cmp .eq (.call 24 [(.var 0), (.int 7)]) (.int 0)) [some (.ob 0), some (.tup xs), none, none, none] (c :: ρ) = some (.bl (decide (r7 = 0)), c1 :: ρ) := ev_cmp (u := I r7) (v := I 0) (ev_call (us := [.ob 0, I 7]) (ev_l2 (ev_var rfl) ev_int) e7) ev_int eq_I
      by_cases h7 : r7 = 0
      · rw [decide_eq_true h7] at t3
        exact leaf (.tup hz h) hd (k + (d + 1)) C1 (ev_orF t1 (ev_orF t2 (ev_b1 t3)))
      · rw [decide_eq_false h7] at t3
        have hpos : 1 ≤ xs.length := by
          cases xs with
          | nil => simp at hxs
          | cons => simp
        obtain ⟨at_, c2, ea, ha, C2⟩ := roll_ok (k + (d + 1) + 1) ρ C1 (many := xs.length) hpos (by omega)
        obtain ⟨way, c3, ew, hw, C3⟩ := roll_ok (k + (d + 1) + 1) ρ C2 (many := 12) (by omega) (by omega)
        obtain ⟨v4, c4, e4, p4, C4⟩ := ih xs[at_] (List.getElem_mem ha) k C3 (by omega)
        let σ : R.Env := [some (.ob 0), some (.tup xs), none, some (I at_), some (I way)]
        have head : ∀ {ss : List S}, exL (runF defs (k + (d + 1) + 2)) (ρ.length + 1) (.iff (.bool false [(.not (.isi (.var 1) .tuple)), (.cmp .eq (.var 1) (.tup [])), (.cmp .eq (.call 24 [(.var 0), (.int 7)]) (.int 0))]) [.set 2 (.lst false [.non, (.bl true), (.bl false), (.int 0), (.int 1), (.int 2), (.int 3), (.neg (.int 1)), (.int 12), (.int 60), (.str ""), (.tup []), (.lst false []), (.tup [(.int 0)]), (.tup [(.int 0), (.int 1)]), (.tup [(.int 1), (.int 0)]), (.tup [(.int 0), (.int 0)]), (.tup [(.tup [(.int 0), (.int 1)])])]), .ret (.call 25 [(.var 0), (.bin false .add (.var 2) (.ite (.cmp .eq (.call 26 [(.var 1)]) (.int 2)) (.bin false .mul (.lst false [(.bin false .add (.var 1) (.int 1)), (.bin false .sub (.var 1) (.int 1))]) (.int 5)) (.lst false [])))])] [] :: .par [3, 4] [(.call 24 [(.var 0), (.bi .len [(.var 1)])]), (.call 24 [(.var 0), (.int 12)])] :: ss) [some (.ob 0), some (.tup xs), none, none, none] (c :: ρ) = exL (runF defs (k + (d + 1) + 2)) (ρ.length + 1) ss σ (c3 :: ρ) := by
          intro ss
          refine (ex_seq ((ex_ifF (u := .bl false) (μ1 := c1 :: ρ) (ev_orF t1 (ev_orF t2 (ev_b1 t3))) rfl).trans ex_nil)).trans ?_
          exact ex_seq (ex_par (us := [I at_, I way]) (ev_l2 (ev_call (us := [.ob 0, I xs.length]) (ev_l2 (ev_var rfl) (ev_bi (ev_l1 (ev_var rfl)) rfl)) ea) (ev_call (us := [.ob 0, I 12]) (ev_l2 (ev_var rfl) ev_int) ew)) rfl)
        have wj : ∀ j : Nat, evalE (runF defs (k + (d + 1) + 2)) (ρ.length + 1) (.cmp .eq (.var 4) (.int (j : Int))) σ (c3 :: ρ) = some (.bl (decide (way = j)), c3 :: ρ) := fun j => ev_cmp (u := I way) (v := I j) (ev_var rfl) ev_int eq_I
        have to : evalE (runF defs (k + (d + 1) + 2)) (ρ.length + 1) (.slc false (.var 1) .non (.var 3)) σ (c3 :: ρ) = some (.tup (xs.take at_), c3 :: ρ) := by
          rw [← cutU_to]; exact ev_slcT (ev_var rfl) ev_non (ev_var rfl) rfl rfl
        have to1 : evalE (runF defs (k + (d + 1) + 2)) (ρ.length + 1) (.slc false (.var 1) .non (.bin false .add (.var 3) (.int 1))) σ (c3 :: ρ) = some (.tup (xs.take (at_ + 1)), c3 :: ρ) := by
          rw [← cutU_to]; exact ev_slcT (h := I (at_ + 1)) (ev_var rfl) ev_non (ev_bin (ev_var rfl) ev_int rfl) rfl rfl
        have fr : ∀ {c' : U}, evalE (runF defs (k + (d + 1) + 2)) (ρ.length + 1) (.slc false (.var 1) (.var 3) .non) σ (c' :: ρ) = some (.tup (xs.drop at_), c' :: ρ) := fun {c'} => by
          rw [← cutU_from]; exact ev_slcT (ev_var rfl) (ev_var rfl) ev_non rfl rfl
        have fr1 : ∀ {c' : U}, evalE (runF defs (k + (d + 1) + 2)) (ρ.length + 1) (.slc false (.var 1) (.bin false .add (.var 3) (.int 1)) .non) σ (c' :: ρ) = some (.tup (xs.drop (at_ + 1)), c' :: ρ) := fun {c'} => by
          rw [← cutU_from]; exact ev_slcT (l := I (at_ + 1)) (ev_var rfl) (ev_bin (ev_var rfl) ev_int rfl) ev_non rfl rfl
        have pt : ∀ m, ∀ u ∈ xs.take m, Pl B d u := fun m u hu => h u (List.mem_of_mem_take hu)
        have pd : ∀ m, ∀ u ∈ xs.drop m, Pl B d u := fun m u hu => h u (List.mem_of_mem_drop hu)
        have fin : ∀ {w : U} {c' : U}, exL (runF defs (k + (d + 1) + 2)) (ρ.length + 1) b__law_bent [some (.ob 0), some (.tup xs), none, none, none] (c :: ρ) = some (.rt w (c' :: ρ)) → Pl (B + 1) (d + 1 + 2) w → Cup c' → ∃ v' c', runF defs (k + (d + 1) + 3) 35 [.ob 0, .tup xs] (c :: ρ) = some (v', c' :: ρ) ∧ Pl (B + 1) (d + 1 + 2) v' ∧ Cup c' := fun {w c'} b p C' => by
          refine ⟨w, c', ?_, p, C'⟩
          rw [run__law_bent]
          exact (if_pos rfl).trans (run_rt b (fin_cut (frz_pl p _ _ (by unfold D0; omega)) (by simp)))
        have lt := List.length_take_le at_ xs
        by_cases w0 : way = 0
        · refine fin (w := .tup (xs.take at_ ++ xs.drop (at_ + 1))) (c' := c3) ?_ (.tup (by simp; omega) fun u hu => ?_) C3
          · unfold b__law_bent
            refine head.trans ?_
            have := wj 0
            rw [decide_eq_true w0] at this
            exact ex_bad this (ev_addT to fr1 (by simp; unfold SZ; omega))
          · rcases List.mem_append.mp hu with z | z
            · exact (pt _ u z).up (by omega) (by omega)
            · exact (pd _ u z).up (by omega) (by omega)
        have w0' := wj 0
        rw [decide_eq_false w0] at w0'
        by_cases w1 : way = 1
        · refine fin (w := .tup (xs.take (at_ + 1) ++ xs.drop at_)) (c' := c3) ?_ (.tup (by simp; omega) fun u hu => ?_) C3
          · unfold b__law_bent
            refine head.trans ((ex_seq ((ex_ifF w0' rfl).trans ex_nil)).trans ?_)
            have := wj 1
            rw [decide_eq_true w1] at this
            exact ex_bad this (ev_addT to1 fr (by simp; unfold SZ; omega))
          · rcases List.mem_append.mp hu with z | z
            · exact (pt _ u z).up (by omega) (by omega)
            · exact (pd _ u z).up (by omega) (by omega)
        have w1' := wj 1
        rw [decide_eq_false w1] at w1'
        by_cases w2 : way = 2
        · refine fin (w := .lst xs) (c' := c3) ?_ (.lst (by omega) fun u hu => (h u hu).up (by omega) (by omega)) C3
          unfold b__law_bent
          refine head.trans ((ex_seq ((ex_ifF w0' rfl).trans ex_nil)).trans ((ex_seq ((ex_ifF w1' rfl).trans ex_nil)).trans ?_))
          have := wj 2
          rw [decide_eq_true w2] at this
          exact ex_bad this (ev_col (ev_l1 (ev_var rfl)) (xs := xs) rfl rfl)
        have w2' := wj 2
        rw [decide_eq_false w2] at w2'
        by_cases w3 : way = 3
        · refine fin (w := .tup xs.reverse) (c' := c3) ?_ (.tup (by simp; omega) fun u hu => (h u (by simpa using hu)).up (by omega) (by omega)) C3
          unfold b__law_bent
          refine head.trans ((ex_seq ((ex_ifF w0' rfl).trans ex_nil)).trans ((ex_seq ((ex_ifF w1' rfl).trans ex_nil)).trans ((ex_seq ((ex_ifF w2' rfl).trans ex_nil)).trans ?_)))
          have := wj 3
          rw [decide_eq_true w3] at this
          exact ex_bad this (ev_revT (ev_var rfl))
        have w3' := wj 3
        rw [decide_eq_false w3] at w3'
        refine fin (w := .tup (xs.take at_ ++ [v4] ++ xs.drop (at_ + 1))) (c' := c4) ?_ (.tup (by simp; omega) fun u hu => ?_) C4
        · unfold b__law_bent
          refine head.trans ((ex_seq ((ex_ifF w0' rfl).trans ex_nil)).trans ((ex_seq ((ex_ifF w1' rfl).trans ex_nil)).trans ((ex_seq ((ex_ifF w2' rfl).trans ex_nil)).trans ((ex_seq ((ex_ifF w3' rfl).trans ex_nil)).trans ?_))))
          refine ex_ret (ev_addT (ev_addT to (ev_tup (ev_l1 (ev_call (us := [.ob 0, xs[at_]]) (ev_l2 (ev_var rfl) (ev_idxT (ev_var rfl) (ev_var rfl) (atI_of (by simp [ha])))) ?_)) (show 1 ≤ SZ by decide)) (by simp; unfold SZ; omega)) fr1 (by simp; unfold SZ; omega))
          rw [show k + (d + 1) + 2 = k + d + 3 by omega]
          exact e4
        · rcases List.mem_append.mp hu with z | z
          · rcases List.mem_append.mp z with z | z
            · exact (pt _ u z).up (by omega) (by omega)
            · rw [List.mem_singleton] at z
              subst z
              exact p4.up (by omega) (by omega)
          · exact (pd _ u z).up (by omega) (by omega)
end K04

set_option Elab.async false
set_option linter.all false
set_option maxRecDepth 100000
set_option maxHeartbeats 4000000
namespace K04
open PySem L2 R
/-! ### who knows whom, as pairs -/
def prsI (n i : Nat) (K : Kn) : List (Nat × Nat) := (List.range i).flatMap fun h => ((List.range n).filter (K h)).map fun o => (h, o)
theorem prsI_succ (n i : Nat) (K : Kn) : prsI n (i + 1) K = prsI n i K ++ ((List.range n).filter (K i)).map fun o => (i, o) := by
  unfold prsI
  rw [List.range_succ, List.flatMap_append]
  simp
theorem prsI_len (n i : Nat) (K : Kn) : (prsI n i K).length ≤ i * n := by
  induction i with
  | zero => simp [prsI]
  | succ i ih =>
    rw [prsI_succ, List.length_append, List.length_map]
    have := List.length_filter_le (K i) (List.range n)
    rw [List.length_range] at this
    rw [Nat.succ_mul]
    omega
theorem prsI_mem {n i : Nat} {K : Kn} {p : Nat × Nat} : p ∈ prsI n i K ↔ p.1 < i ∧ p.2 < n ∧ K p.1 p.2 = true := by
  unfold prsI
  rw [List.mem_flatMap]
  constructor
  · rintro ⟨h, hh, hp⟩
    obtain ⟨o, ho, rfl⟩ := List.mem_map.mp hp
    simp at hh ho
    exact ⟨hh, ho.1, ho.2⟩
  · rintro ⟨a, b, c⟩
    exact ⟨p.1, by simpa using a, List.mem_map.mpr ⟨p.2, by simp [b, c], rfl⟩⟩
theorem prsI_nd (n i : Nat) (K : Kn) : (prsI n i K).Nodup := by
  induction i with
  | zero => simp [prsI]
  | succ i ih =>
    rw [prsI_succ, List.nodup_append]
    refine ⟨ih, ?_, fun a ha b hb e => ?_⟩
    · refine List.Pairwise.map _ (fun a b h e => h (by injection e)) (List.Pairwise.filter _ List.nodup_range)
    · subst e
      have := (prsI_mem.mp ha).1
      obtain ⟨o, _, rfl⟩ := List.mem_map.mp hb
      simp at this
theorem kL_range (n : Nat) (row : List (Nat × Nat)) : kL n row = .lst ((List.range n).map fun h => lU ((List.range n).filter (kn row h))) := by
  simp only [kL, tab, List.map_map]
  rfl
theorem pairs_ok (k : Nat) (μ : Mu) {n : Nat} (hn : n ≤ 12) (row : List (Nat × Nat)) : runF defs (k + 1) 40 [kL n row] μ = some (.lst ((prsI n n (kn row)).map pU), μ) := by
  rw [run__law_pairs]
  have sz : ∀ i, i ≤ n → (prsI n i (kn row)).length ≤ 144 := fun i hi => by
    have := prsI_len n i (kn row)
    have h2 : i * n ≤ 12 * 12 := Nat.mul_le_mul (by omega) hn
    omega
  obtain ⟨σ', μ', e, y2, y3, rfl, rfl⟩ := forL_inv0 (step := fstep (runF defs k) μ.length (.tup [(.slot 2), (.slot 3)]) lb__law_pairs_1) (xs := (List.range n).map fun h => .tup [I h, lU ((List.range n).filter (kn row h))])
    (fun i σ μ' => ∃ y2 y3, σ = [some (kL n row), some (.lst ((prsI n i (kn row)).map pU)), y2, y3, none] ∧ μ' = μ) (σ := [some (kL n row), some (.lst []), none, none, none]) (μ := μ)
    ⟨none, none, by simp [prsI], rfl⟩ (fun i x σ μ' hx hp => by
      obtain ⟨y2, y3, rfl, rfl⟩ := hp
      obtain ⟨h, h1, h2, rfl⟩ := map_at hx
      have h3 := List.getElem?_eq_some_iff.mp h1
      obtain ⟨h4, h5⟩ := h3
      simp at h4 h5
      subst h5
      refine ⟨[some (kL n row), some (.lst ((prsI n (i + 1) (kn row)).map pU)), some (I i), some (lU ((List.range n).filter (kn row i))), none], μ', .inl ?_, _, _, rfl, rfl⟩
      show exL (runF defs k) μ'.length lb__law_pairs_1 [some (kL n row), some (.lst ((prsI n i (kn row)).map pU)), some (I i), some (lU ((List.range n).filter (kn row i))), none] μ' = _
      have c : evalE (runF defs k) μ'.length c__law_pairs_0 [some (kL n row), some (.lst ((prsI n i (kn row)).map pU)), some (I i), some (lU ((List.range n).filter (kn row i))), none] μ' = some (.lst ((((List.range n).filter (kn row i)).map fun o => (i, o)).map pU), μ') := by
        refine (ev_comp (us := [lU ((List.range n).filter (kn row i))]) (μ1 := μ') (xs := ((List.range n).filter (kn row i)).map I) (ev_l1 (ev_var rfl)) rfl (compL_all (enc := I) (g := fun o => pU (i, o)) (fun o _ => cs_yes rfl (ev_tup (ev_l2 (ev_var rfl) (ev_var rfl)) (show 2 ≤ SZ by decide))) ?_)).trans ?_
        · have := List.length_filter_le (kn row i) (List.range n)
          simp at this ⊢
          unfold SZ
          omega
        · rw [List.map_map]
          rfl
      have s := sz (i + 1) (by omega)
      rw [prsI_succ] at s ⊢
      refine (ex_seq (ex_set (u := .lst ((prsI n i (kn row) ++ ((List.range n).filter (kn row i)).map fun o => (i, o)).map pU)) ?_)).trans ex_nil
      rw [List.map_append]
      exact ev_addL (ev_var rfl) c (by rw [List.length_append] at s; rw [List.length_map, List.length_map]; unfold SZ; omega))
  rw [List.length_map, List.length_range] at e
  have b : exL (runF defs k) μ'.length b__law_pairs [some (kL n row), none, none, none, none] μ' = some (.rt (.lst ((prsI n n (kn row)).map pU)) μ') := by
    unfold b__law_pairs
    refine (ex_seq (ex_set (ev_lst ev_lnil (show 0 ≤ SZ by decide)))).trans ?_
    refine (ex_seq (((show exS _ _ l__law_pairs_1 _ _ = _ from ex_for (us := [kL n row]) (xs := (List.range n).map fun h => .tup [I h, lU ((List.range n).filter (kn row h))]) (ev_l1 (ev_var rfl)) (by rw [kL_range]; simp only [walk, enum_range])).trans e))).trans ?_
    exact ex_ret (ev_var rfl)
  refine (if_pos rfl).trans (run_rt b (fin_cut ?_ (by simp)))
  have p : Pl 144 2 (.lst ((prsI n n (kn row)).map pU)) := .lst (by rw [List.length_map]; exact sz n (Nat.le_refl _)) fun u hu => by
    obtain ⟨p, _, rfl⟩ := List.mem_map.mp hu
    exact pl_pU p (by omega)
  exact frz_pl p _ _ (by decide)
/-- the pairs behind the row turned over, turned over -/
theorem prs_rev (n : Nat) (row : List (Nat × Nat)) : srtP (prsI n n (kn row)) = srtP ((prsI n n (kn row.reverse)).map fun p => (p.2, p.1)) := by
  refine srtP_eq ((List.perm_ext_iff_of_nodup (prsI_nd _ _ _) ?_).mpr fun p => ?_)
  · exact List.Pairwise.map _ (fun a b h e => h (by injection e with e1 e2; exact Prod.ext e2 e1)) (prsI_nd _ _ _)
  · rw [prsI_mem, List.mem_map]
    constructor
    · rintro ⟨a, b, c⟩
      exact ⟨(p.2, p.1), prsI_mem.mpr ⟨b, a, by rw [kn_rev]; exact c⟩, rfl⟩
    · rintro ⟨q, hq, rfl⟩
      obtain ⟨a, b, c⟩ := prsI_mem.mp hq
      exact ⟨b, a, by rw [← kn_rev]; exact c⟩
/-! ### lines, rings, stars -/
def lineE (n : Nat) : List (Nat × Nat) := (List.range (n - 1)).map fun i => (i, i + 1)
def starE (n : Nat) : List (Nat × Nat) := (List.range (n - 1)).map fun i => (0, 1 + i)
theorem frz_tU (m : Nat) (μ : Mu) (n : Nat) {es : List (Nat × Nat)} (h : es.length ≤ 400) : frz m μ D0 (tU n es) = some (tU n es) := frz_pl (pl_tU (B := 400) (d := 0) (by omega) h) _ _ (by decide)
theorem line_ok (k : Nat) (μ : Mu) {n : Nat} (h1 : 1 ≤ n) (hn : n ≤ 12) : runF defs (k + 1) 36 [I n] μ = some (tU n (lineE n), μ) := by
  rw [run__law_line]
  have c : evalE (runF defs k) μ.length c__law_line_0 [some (I n), none] μ = some (.lst ((lineE n).map pU), μ) := by
    unfold lineE
    rw [List.map_map]
    refine (ev_comp (us := [I (n - 1)]) (μ1 := μ) (xs := (List.range (n - 1)).map I) (ev_l1 (ev_bin (ev_var rfl) ev_int (by simp only [evBin]; congr 3; omega))) (walk_rng (by omega)) (compL_all (enc := I) (g := fun i => pU (i, i + 1)) (fun i _ => ?_) (by simp; unfold SZ; omega))).trans rfl
    exact cs_yes rfl (ev_tup (ev_l2 (ev_var rfl) (ev_bin (ev_var rfl) ev_int rfl)) (show 2 ≤ SZ by decide))
  exact (if_pos rfl).trans (run_rt (ex_ret (ev_tup (ev_l2 (ev_var rfl) (ev_col (ev_l1 c) rfl rfl)) (show 2 ≤ SZ by decide))) (fin_cut (frz_tU _ _ _ (by simp [lineE]; omega)) (by simp)))
theorem star_ok (k : Nat) (μ : Mu) {n : Nat} (h1 : 1 ≤ n) (hn : n ≤ 12) : runF defs (k + 1) 38 [I n] μ = some (tU n (starE n), μ) := by
  rw [run__law_star]
  have c : evalE (runF defs k) μ.length c__law_star_0 [some (I n), none] μ = some (.lst ((starE n).map pU), μ) := by
    unfold starE
    rw [List.map_map]
    refine (ev_comp (us := [.int 1, I n]) (μ1 := μ) (xs := (List.range (n - 1)).map fun i => I (1 + i)) (ev_l2 ev_int (ev_var rfl)) (walk_1 (by omega)) (compL_all (enc := fun i => I (1 + i)) (g := fun i => pU (0, 1 + i)) (fun i _ => ?_) (by simp; unfold SZ; omega))).trans rfl
    exact cs_yes rfl (ev_tup (ev_l2 ev_int (ev_var rfl)) (show 2 ≤ SZ by decide))
  exact (if_pos rfl).trans (run_rt (ex_ret (ev_tup (ev_l2 (ev_var rfl) (ev_col (ev_l1 c) rfl rfl)) (show 2 ≤ SZ by decide))) (fin_cut (frz_tU _ _ _ (by simp [starE]; omega)) (by simp)))
abbrev ring4 : List (Nat × Nat) := [(0, 1), (0, 3), (1, 2), (2, 3)]
theorem ring_ok (k : Nat) (μ : Mu) : runF defs (k + 1) 37 [.int 4] μ = some (tU 4 ring4, μ) := by
  rw [run__law_ring]
  have c : evalE (runF defs k) μ.length c__law_ring_0 [some (I 4), none] μ = some (.lst ((lineE 4).map pU), μ) := by
    unfold lineE
    rw [List.map_map]
    refine (ev_comp (us := [I 3]) (μ1 := μ) (xs := (List.range 3).map I) (ev_l1 (ev_bin (ev_var rfl) ev_int rfl)) (walk_rng (by omega)) (compL_all (enc := I) (g := fun i => pU (i, i + 1)) (xs := List.range 3) (fun i _ => ?_) (by decide))).trans rfl
    exact cs_yes rfl (ev_tup (ev_l2 (ev_var rfl) (ev_bin (ev_var rfl) ev_int rfl)) (show 2 ≤ SZ by decide))
  have s : evalE (runF defs k) μ.length (.bin false .add c__law_ring_0 (.lst false [(.tup [(.int 0), (.bin false .sub (.var 0) (.int 1))])])) [some (I 4), none] μ = some (.lst ((lineE 4 ++ [(0, 3)]).map pU), μ) := by
    rw [List.map_append]
    exact ev_addL c (ev_lst (us := [pU (0, 3)]) (ev_l1 (ev_tup (ev_l2 ev_int (ev_bin (ev_var rfl) ev_int rfl)) (show 2 ≤ SZ by decide))) (show 1 ≤ SZ by decide)) (by decide)
  have so : srtP (lineE 4 ++ [(0, 3)]) = ring4 := by
    rw [← srtP_self (K := ring4) (by decide)]
    exact srtP_eq ((List.perm_ext_iff_of_nodup (by decide) (by decide)).mpr fun p => by simp [lineE, ring4, List.range, List.range.loop]; constructor <;> (intro h; rcases h with rfl | rfl | rfl | rfl <;> simp))
  have b : exL (runF defs k) μ.length b__law_ring [some (I 4), none] μ = some (.rt (tU 4 ring4) μ) := by
    unfold b__law_ring
    refine ex_ret (ev_tup (ev_l2 (ev_var rfl) (ev_col (us := [.lst (ring4.map pU)]) (xs := ring4.map pU) (ev_l1 (ev_col (xs := (lineE 4 ++ [(0, 3)]).map pU) (ev_l1 s) rfl ?_)) rfl rfl)) (show 2 ≤ SZ by decide))
    simp only [evCol, srtd_pU _ (lineE 4 ++ [(0, 3)]) (by decide), so]
    rfl
  exact (if_pos rfl).trans (run_rt b (fin_cut (frz_tU _ _ _ (by decide)) (by simp)))
end K04

set_option Elab.async false
set_option linter.all false
set_option maxRecDepth 100000
set_option maxHeartbeats 4000000
namespace K04
open PySem L2 R
/-! ### friends by lot -/
theorem min2_I (μ : Mu) (a b : Nat) : evBi μ .min2 [I a, I b] = some (I (min a b)) := by
  simp only [evBi]
  congr 2
  split <;> omega
theorem max2_I (μ : Mu) (a b : Nat) : evBi μ .max2 [I a, I b] = some (I (max a b)) := by
  simp only [evBi]
  congr 2
  split <;> omega
theorem ev_pop1 {cal : Nat → List U → Mu → Option (U × Mu)} {n0 : Nat} {σ : R.Env} {μ μ1 : Mu} {al : Bool} {a e : E} {i j : Nat} {u : U} {xs : List U} (ha : evalE cal n0 a σ μ = some (.ob i, μ)) (hs : (asL μ (.ob i)).isSome = true) (he : evalE cal n0 e σ μ = some (I j, μ1)) (h : μ1[i]? = some (.lst xs)) (hj : j < xs.length) (hj2 : j < 1000) (hx : xs[j]? = some u) :
    evalE cal n0 (.me al .pop1 a [e]) σ μ = some (u, μ1.set i (.lst (xs.eraseIdx j))) := by
  simp only [evalE, evalL, ha, he, okm, hs, evMe, h]
  rw [if_pos (by omega)]
  simp only [L2.ixN]
  rw [if_pos (by omega), if_pos (by omega)]
  simp only [Int.toNat_natCast, hx]
section
variable (c : U) (ρ : Mu) (A B P A' B' P' : U)
theorem t1a : (c :: (ρ ++ [A]))[ρ.length + 1]? = some A := by simp
theorem t1s : (c :: (ρ ++ [A])).set (ρ.length + 1) A' = c :: (ρ ++ [A']) := by simp
theorem t2a : (c :: (ρ ++ [A, B]))[ρ.length + 1]? = some A := by simp
theorem t2b : (c :: (ρ ++ [A, B]))[ρ.length + 2]? = some B := by simp
theorem t2s : (c :: (ρ ++ [A, B])).set (ρ.length + 1) A' = c :: (ρ ++ [A', B]) := by simp
theorem t2t : (c :: (ρ ++ [A, B])).set (ρ.length + 2) B' = c :: (ρ ++ [A, B']) := by simp
theorem t3b : (c :: (ρ ++ [A, B, P]))[ρ.length + 2]? = some B := by simp
theorem t3c : (c :: (ρ ++ [A, B, P]))[ρ.length + 3]? = some P := by simp
theorem t3u : (c :: (ρ ++ [A, B, P])).set (ρ.length + 3) P' = c :: (ρ ++ [A, B, P']) := by simp
end
abbrev nL (l : List Nat) : U := .lst (l.map I)
theorem erase_map {α β : Type} (f : α → β) : ∀ (l : List α) (r : Nat), (l.map f).eraseIdx r = (l.eraseIdx r).map f
  | [], _ => rfl
  | _ :: _, 0 => rfl
  | a :: l, r + 1 => by simp [erase_map f l r]
theorem tree_loop1 (k : Nat) (ρ : Mu) {c : U} (C : Cup c) {n : Nat} (hn : n ≤ 12) (x2 x3 x4 x7 x8 : Option U) :
    ∃ c' m y2, forL (fstep (runF defs (k + 1)) (ρ.length + 1) (.slot 2) lb__law_tree_0) ((List.range n).map I) [some (.ob 0), some (I n), x2, x3, x4, some (.ob (ρ.length + 1)), some (.ob (ρ.length + 2)), x7, x8] (c :: (ρ ++ [nL (List.range n), nL []])) =
      some (.nx [some (.ob 0), some (I n), y2, x3, x4, some (.ob (ρ.length + 1)), some (.ob (ρ.length + 2)), x7, x8] (c' :: (ρ ++ [nL [], nL m]))) ∧ Cup c' ∧ m.length = n ∧ m.Nodup ∧ ∀ x ∈ m, x < n := by
  obtain ⟨σ', μ', e, y2, c', l, m, rfl, rfl, C', h1, h2, h3, h4⟩ := forL_inv0 (step := fstep (runF defs (k + 1)) (ρ.length + 1) (.slot 2) lb__law_tree_0) (xs := (List.range n).map I)
    (fun i σ μ' => ∃ y2 c l m, σ = [some (.ob 0), some (I n), y2, x3, x4, some (.ob (ρ.length + 1)), some (.ob (ρ.length + 2)), x7, x8] ∧ μ' = c :: (ρ ++ [nL l, nL m]) ∧ Cup c ∧ l.length = n - i ∧ m.length = i ∧ (l ++ m).Nodup ∧ ∀ x ∈ l ++ m, x < n)
    (σ := [some (.ob 0), some (I n), x2, x3, x4, some (.ob (ρ.length + 1)), some (.ob (ρ.length + 2)), x7, x8]) (μ := c :: (ρ ++ [nL (List.range n), nL []]))
    ⟨x2, c, List.range n, [], rfl, rfl, C, by simp, rfl, by simpa using List.nodup_range, by simp⟩ (fun i x σ μ' hx hp => by
      obtain ⟨y2, c, l, m, rfl, rfl, C, h1, h2, h3, h4⟩ := hp
      obtain ⟨hi, rfl⟩ := rng_at hx
      obtain ⟨r, c', er, hr, C'⟩ := roll_ok k (ρ ++ [nL l, nL m]) C (many := l.length) (by omega) (by omega)
      have pm : (l.eraseIdx r ++ (m ++ [l[r]])).Perm (l ++ m) := by
        have e1 : l = l.take r ++ l[r] :: l.drop (r + 1) := by rw [← List.drop_eq_getElem_cons hr, List.take_append_drop]
        have e2 : l.eraseIdx r = l.take r ++ l.drop (r + 1) := List.eraseIdx_eq_take_drop_succ ..
        rw [e2]
        conv => rhs; rw [e1]
        rw [← List.append_assoc]
        refine (List.perm_append_comm).trans ?_
        refine (List.Perm.trans (by rw [List.singleton_append]) (?_ : (l[r] :: (l.take r ++ l.drop (r + 1) ++ m)).Perm _))
        simp only [List.append_assoc, List.cons_append]
        exact List.perm_middle.symm
      refine ⟨[some (.ob 0), some (I n), some (I i), x3, x4, some (.ob (ρ.length + 1)), some (.ob (ρ.length + 2)), x7, x8], c' :: (ρ ++ [nL (l.eraseIdx r), nL (m ++ [l[r]])]), .inl ?_, some (I i), c', l.eraseIdx r, m ++ [l[r]], rfl, rfl, C', by rw [List.length_eraseIdx_of_lt hr]; omega, by simp [h2], pm.nodup_iff.mpr h3, fun x hx => h4 x (pm.mem_iff.mp hx)⟩
      show exL (runF defs (k + 1)) (ρ.length + 1) lb__law_tree_0 [some (.ob 0), some (I n), some (I i), x3, x4, some (.ob (ρ.length + 1)), some (.ob (ρ.length + 2)), x7, x8] (c :: (ρ ++ [nL l, nL m])) = _
      unfold lb__law_tree_0
      have a1 := t2a c ρ (nL l) (nL m)
      have b1 := t2b c ρ (nL l) (nL m)
      have pop := ev_pop1 (cal := runF defs (k + 1)) (n0 := ρ.length + 1) (σ := [some (.ob 0), some (I n), some (I i), x3, x4, some (.ob (ρ.length + 1)), some (.ob (ρ.length + 2)), x7, x8]) (μ := c :: (ρ ++ [nL l, nL m])) (μ1 := c' :: (ρ ++ [nL l, nL m])) (al := false) (a := .var 5) (e := .call 24 [(.var 0), (.bi .len [(.var 5)])]) (i := ρ.length + 1) (j := r) (u := I l[r]) (xs := l.map I) (ev_var rfl) (by simp only [asL, a1]; rfl) (ev_call (us := [.ob 0, I l.length]) (ev_l2 (ev_var rfl) (ev_bi (ev_l1 (ev_var rfl)) (by simp only [evBi, cont, a1, List.length_map]))) er) (t2a c' ρ (nL l) (nL m)) (by simpa using hr) (by omega) (by simp [hr])
      rw [t2s] at pop
      refine (ex_seq (ex_appendA (ev_var rfl) (by simp only [asL, b1]; rfl) pop (t2b c' ρ _ (nL m)) (by simp [h2]; unfold SZ; omega) (by simp [okw, nomut]))).trans ?_
      rw [t2t, ex_nil]
      simp only [nL, List.map_append, List.map_singleton, erase_map])
  rw [List.length_map, List.length_range] at h1 h2
  have hl : l = [] := List.eq_nil_of_length_eq_zero (by omega)
  subst hl
  exact ⟨c', m, y2, e, C', h2, by simpa using h3, fun x hx => h4 x (by simpa using hx)⟩
theorem tree_loop2 (k : Nat) (ρ : Mu) {c : U} (C : Cup c) {n : Nat} (hn : n ≤ 12) (A : U) {m : List Nat} (hm : m.length = n) (nd : m.Nodup) (hlt : ∀ x ∈ m, x < n) (x2 x4 x7 x8 : Option U) :
    ∃ (c' : U) (ps : List (Nat × Nat)) (y4 y7 y8 : Option U), forL (fstep (runF defs (k + 2)) (ρ.length + 1) (.slot 4) lb__law_tree_2) ((List.range (n - 1)).map fun i => I (1 + i)) [some (.ob 0), some (I n), x2, some (.ob (ρ.length + 3)), x4, some (.ob (ρ.length + 1)), some (.ob (ρ.length + 2)), x7, x8] (c :: (ρ ++ [A, nL m, .lst []])) =
      some (.nx [some (.ob 0), some (I n), x2, some (.ob (ρ.length + 3)), y4, some (.ob (ρ.length + 1)), some (.ob (ρ.length + 2)), y7, y8] (c' :: (ρ ++ [A, nL m, .lst (ps.map pU)]))) ∧ Cup c' ∧ ps.length = n - 1 ∧ ∀ p ∈ ps, p.1 < p.2 ∧ p.2 < n := by
  obtain ⟨σ', μ', e, y4, y7, y8, c', ps, rfl, rfl, C', h1, h2⟩ := forL_inv0 (step := fstep (runF defs (k + 2)) (ρ.length + 1) (.slot 4) lb__law_tree_2) (xs := (List.range (n - 1)).map fun i => I (1 + i))
    (fun i σ μ' => ∃ (y4 y7 y8 : Option U) (c : U) (ps : List (Nat × Nat)), σ = [some (.ob 0), some (I n), x2, some (.ob (ρ.length + 3)), y4, some (.ob (ρ.length + 1)), some (.ob (ρ.length + 2)), y7, y8] ∧ μ' = c :: (ρ ++ [A, nL m, .lst (ps.map pU)]) ∧ Cup c ∧ ps.length = i ∧ ∀ p ∈ ps, p.1 < p.2 ∧ p.2 < n)
    (σ := [some (.ob 0), some (I n), x2, some (.ob (ρ.length + 3)), x4, some (.ob (ρ.length + 1)), some (.ob (ρ.length + 2)), x7, x8]) (μ := c :: (ρ ++ [A, nL m, .lst []]))
    ⟨x4, x7, x8, c, [], rfl, rfl, C, rfl, by simp⟩ (fun i x σ μ' hx hp => by
      obtain ⟨y4, y7, y8, c, ps, rfl, rfl, C, h1, h2⟩ := hp
      obtain ⟨i', h3, _, rfl⟩ := map_at hx
      obtain ⟨h4, h5⟩ := List.getElem?_eq_some_iff.mp h3
      simp at h4 h5
      subst h5
      obtain ⟨r, c1, er, hr, C1⟩ := roll_ok (k + 1) (ρ ++ [A, nL m, .lst (ps.map pU)]) C (many := 1 + i) (by omega) (by omega)
      obtain ⟨w, c2, es, hw, C2⟩ := some_ok k (ρ ++ [A, nL m, .lst (ps.map pU)]) C1 (u := nL [r, i]) (xs := [r, i].map I) (.inl rfl) (fun _ => trivial) (by simp) (by simp) fun x hx c' => by
        simp at hx
        rcases hx with rfl | rfl <;> rfl
      obtain ⟨j, hj, rfl⟩ : ∃ j, j < 1 + i ∧ w = I j := by
        simp at hw
        rcases hw with rfl | rfl
        · exact ⟨r, hr, rfl⟩
        · exact ⟨i, by omega, rfl⟩
      have hne : m[j] ≠ m[1 + i] := List.pairwise_iff_getElem.mp nd j (1 + i) (by omega) (by omega) hj
      have l1 := hlt _ (List.getElem_mem (show 1 + i < m.length by omega))
      have l2 := hlt _ (List.getElem_mem (show j < m.length by omega))
      let q : Nat × Nat := (min m[1 + i] m[j], max m[1 + i] m[j])
      refine ⟨[some (.ob 0), some (I n), x2, some (.ob (ρ.length + 3)), some (I (1 + i)), some (.ob (ρ.length + 1)), some (.ob (ρ.length + 2)), some (I m[1 + i]), some (I m[j])], c2 :: (ρ ++ [A, nL m, .lst ((ps ++ [q]).map pU)]), .inl ?_, _, _, _, c2, ps ++ [q], rfl, rfl, C2, by simp [h1], fun p hp => ?_⟩
      · show exL (runF defs (k + 2)) (ρ.length + 1) lb__law_tree_2 [some (.ob 0), some (I n), x2, some (.ob (ρ.length + 3)), some (I (1 + i)), some (.ob (ρ.length + 1)), some (.ob (ρ.length + 2)), y7, y8] (c :: (ρ ++ [A, nL m, .lst (ps.map pU)])) = _
        unfold lb__law_tree_2
        have cb : ∀ c, cont (c :: (ρ ++ [A, nL m, .lst (ps.map pU)])) (.ob (ρ.length + 2)) = some (nL m) := fun c => by simp only [cont, t3b]
        have ai : ∀ a (h : a < m.length), atI (m.map I) (a : Int) = some (I m[a]) := fun a h => atI_of (by simp [h])
        refine (ex_seq (ex_par (us := [I m[1 + i], I m[j]]) (μ' := c2 :: (ρ ++ [A, nL m, .lst (ps.map pU)])) (ev_l2 (ev_idxL1 (ev_var rfl) (ev_var rfl) (cb c) (ai (1 + i) (by omega)))
          (ev_idxL1 (ev_var rfl) (ev_call (us := [.ob 0, nL [r, i]]) (ev_l2 (ev_var rfl) (ev_lst (us := [I r, I i]) (ev_l2 (ev_call (us := [.ob 0, I (1 + i)]) (ev_l2 (ev_var rfl) (ev_var rfl)) er) (ev_bin (ev_var rfl) ev_int (by simp only [evBin]; congr 3; omega))) (show 2 ≤ SZ by decide))) es) (cb c2) (ai j (by omega)))) rfl)).trans ?_
        have lc := t3c c2 ρ A (nL m) (.lst (ps.map pU))
        refine (ex_seq (ex_appendA (u := pU q) (ev_var rfl) (by simp only [asL, lc]; rfl) (ev_tup (ev_l2 (ev_bi (ev_l2 (ev_var rfl) (ev_var rfl)) (min2_I _ _ _)) (ev_bi (ev_l2 (ev_var rfl) (ev_var rfl)) (max2_I _ _ _))) (show 2 ≤ SZ by decide)) lc (by simp [h1]; unfold SZ; omega) (by simp [okw, nomut, nomuts]))).trans ?_
        rw [t3u, ex_nil]
        simp only [List.map_append, List.map_singleton]
        rfl
      · rcases List.mem_append.mp hp with z | z
        · exact h2 p z
        · rw [List.mem_singleton] at z
          subst z
          show min m[1 + i] m[j] < max m[1 + i] m[j] ∧ max m[1 + i] m[j] < n
          omega)
  rw [List.length_map, List.length_range] at h1
  exact ⟨c', ps, y4, y7, y8, e, C', h1, h2⟩
theorem tree_ok (k : Nat) (ρ : Mu) {c : U} (C : Cup c) {n : Nat} (h1 : 1 ≤ n) (hn : n ≤ 12) : ∃ c' ps, runF defs (k + 3) 28 [.ob 0, I n] (c :: ρ) = some (tU n (srtP ps), c' :: ρ) ∧ Cup c' ∧ ps.length = n - 1 ∧ ∀ p ∈ ps, p.1 < p.2 ∧ p.2 < n := by
  obtain ⟨c1, m, y2, e1, C1, hm, nd, hlt⟩ := tree_loop1 (k + 1) ρ C hn none none none none none
  obtain ⟨c2, ps, y4, y7, y8, e2, C2, hp, hv⟩ := tree_loop2 k ρ C1 hn (nL []) hm nd hlt y2 none none none
  refine ⟨c2, ps, ?_, C2, hp, hv⟩
  rw [run__law_tree]
  have b : exL (runF defs (k + 2)) (ρ.length + 1) b__law_tree [some (.ob 0), some (I n), none, none, none, none, none, none, none] (c :: ρ) = some (.rt (tU n (srtP ps)) (c2 :: (ρ ++ [nL [], nL m, .lst (ps.map pU)]))) := by
    unfold b__law_tree
    refine (ex_seq (ex_par (us := [.ob (ρ.length + 1), .ob (ρ.length + 2)]) (μ' := c :: (ρ ++ [nL (List.range n), nL []])) (ev_l2 (ev_col (us := [I n]) (xs := (List.range n).map I) (μ1 := c :: ρ) (r := (.ob (ρ.length + 1), c :: (ρ ++ [nL (List.range n)]))) (ev_l1 (ev_var rfl)) ?_ ?_) ?_) rfl)).trans ?_
    · simp only [items]
      rw [if_pos (by omega), rgn_nat]
    · simp [evCol, R.fresh]
    · have := ev_lstA (cal := runF defs (k + 2)) (n0 := ρ.length + 1) (σ := [some (.ob 0), some (I n), none, none, none, none, none, none, none]) (μ := c :: (ρ ++ [nL (List.range n)])) (es := []) ev_lnil (show 0 ≤ SZ by decide)
      refine this.trans ?_
      simp
    · refine (ex_seq (((show exS _ _ l__law_tree_0 _ _ = _ from ex_for (us := [I n]) (xs := (List.range n).map I) (ev_l1 (ev_var rfl)) (walk_rng (by omega))).trans e1))).trans ?_
      refine (ex_seq (ex_set (u := .ob (ρ.length + 3)) (μ' := c1 :: (ρ ++ [nL [], nL m, .lst []])) ?_)).trans ?_
      · refine (ev_lstA ev_lnil (show 0 ≤ SZ by decide)).trans ?_
        simp
      · refine (ex_seq (((show exS _ _ l__law_tree_2 _ _ = _ from ex_for (us := [.int 1, I n]) (xs := (List.range (n - 1)).map fun i => I (1 + i)) (ev_l2 ev_int (ev_var rfl)) (walk_1 (by omega))).trans e2))).trans ?_
        refine ex_ret (ev_tup (ev_l2 (ev_var rfl) (ev_col (us := [.lst ((srtP ps).map pU)]) (xs := (srtP ps).map pU) (ev_l1 (ev_col (us := [.ob (ρ.length + 3)]) (xs := ps.map pU) (ev_l1 (ev_var rfl)) ?_ ?_)) rfl rfl)) (show 2 ≤ SZ by decide))
        · simp only [items, asS, asL, t3c]
        · simp only [evCol, srtd_pU _ ps (by rw [hp]; unfold SZ; omega)]
          rfl
  exact (if_pos rfl).trans (run_rt b (fin_cut (frz_tU _ _ _ (by rw [srtP_len, hp]; omega)) (by simp)))
end K04

set_option Elab.async false
set_option linter.all false
set_option maxRecDepth 100000
set_option maxHeartbeats 4000000
namespace K04
open PySem L2 R
theorem other_ne {n a r : Nat} (ha : a < n) (hr : r < n - 1) : (a + 1 + r) % n ≠ a ∧ (a + 1 + r) % n < n := by
  refine ⟨?_, Nat.mod_lt _ (by omega)⟩
  by_cases h : a + 1 + r < n
  · rw [Nat.mod_eq_of_lt h]; omega
  · rw [Nat.mod_eq_sub_mod (by omega), Nat.mod_eq_of_lt (by omega)]; omega
structure KInv (n m : Nat) (K : List (Nat × Nat)) : Prop where
  nd : K.Nodup
  lt : ∀ p ∈ K, p.1 < p.2 ∧ p.2 < n
  len : K.length ≤ m
theorem KInv.add {n m : Nat} {K : List (Nat × Nat)} (V : KInv n m K) {q : Nat × Nat} (h : q.1 < q.2 ∧ q.2 < n) : KInv n (m + 1) (ins K q) :=
  ⟨ins_nd V.nd, fun p hp => by
    rcases ins_mem.mp hp with z | z
    · exact V.lt p z
    · subst z; exact h, by have := @ins_len K q; have := V.len; omega⟩
theorem KInv.town {n m : Nat} {K : List (Nat × Nat)} (V : KInv n m K) (h1 : 1 ≤ n) (hn : n ≤ 12) (hm : m ≤ 400) : Town n (srtP K) where
  n1 := h1
  n12 := hn
  len := by rw [srtP_len]; have := V.len; omega
  lt := fun p hp => V.lt p ((srtP_mem K p).mp hp)
  asc := srtP_asc V.nd
theorem friends_loop (k : Nat) (ρ : Mu) {c : U} (C : Cup c) {n : Nat} (h2 : 2 ≤ n) (hn : n ≤ 12) {m t : Nat} (hm : m + t ≤ 100) {K : List (Nat × Nat)} (V : KInv n m K) (x2 x4 x5 x6 x7 : Option U) :
    ∃ (c' : U) (K' : List (Nat × Nat)) (y4 y5 y6 : Option U), forL (fstep (runF defs (k + 1)) (ρ.length + 1) (.slot 4) lb__law_friends_1) ((List.range t).map I) [some (.ob 0), some (I n), x2, some (.ob (ρ.length + 1)), x4, x5, x6, x7] (c :: (ρ ++ [dtK K])) =
      some (.nx [some (.ob 0), some (I n), x2, some (.ob (ρ.length + 1)), y4, y5, y6, x7] (c' :: (ρ ++ [dtK K']))) ∧ Cup c' ∧ KInv n (m + t) K' := by
  obtain ⟨σ', μ', e, y4, y5, y6, c', K', rfl, rfl, C', V'⟩ := forL_inv0 (step := fstep (runF defs (k + 1)) (ρ.length + 1) (.slot 4) lb__law_friends_1) (xs := (List.range t).map I)
    (fun i σ μ' => ∃ (y4 y5 y6 : Option U) (c : U) (K : List (Nat × Nat)), σ = [some (.ob 0), some (I n), x2, some (.ob (ρ.length + 1)), y4, y5, y6, x7] ∧ μ' = c :: (ρ ++ [dtK K]) ∧ Cup c ∧ KInv n (m + i) K)
    (σ := [some (.ob 0), some (I n), x2, some (.ob (ρ.length + 1)), x4, x5, x6, x7]) (μ := c :: (ρ ++ [dtK K]))
    ⟨x4, x5, x6, c, K, rfl, rfl, C, V⟩ (fun i x σ μ' hx hp => by
      obtain ⟨y4, y5, y6, c, K, rfl, rfl, C, V⟩ := hp
      obtain ⟨hi, rfl⟩ := rng_at hx
      obtain ⟨a, c1, ea, ha, C1⟩ := roll_ok k (ρ ++ [dtK K]) C (many := n) (by omega) (by omega)
      obtain ⟨r, c2, er, hr, C2⟩ := roll_ok k (ρ ++ [dtK K]) C1 (many := n - 1) (by omega) (by omega)
      obtain ⟨o1, o2⟩ := other_ne ha hr
      generalize hb : (a + 1 + r) % n = b at o1 o2
      have hbz : ((a : Int) + 1 + r) % n = (b : Int) := by
        rw [← hb, Int.natCast_emod]
        push_cast
        rfl
      refine ⟨[some (.ob 0), some (I n), x2, some (.ob (ρ.length + 1)), some (I i), some (I a), some (I b), x7], c2 :: (ρ ++ [dtK (ins K (min a b, max a b))]), .inl ?_, _, _, _, c2, ins K (min a b, max a b), rfl, rfl, C2, V.add (by simp only; omega)⟩
      show exL (runF defs (k + 1)) (ρ.length + 1) lb__law_friends_1 [some (.ob 0), some (I n), x2, some (.ob (ρ.length + 1)), some (I i), y5, y6, x7] (c :: (ρ ++ [dtK K])) = _
      unfold lb__law_friends_1
      refine (ex_seq (ex_set (u := I a) (ev_call (us := [.ob 0, I n]) (ev_l2 (ev_var rfl) (ev_var rfl)) ea))).trans ?_
      refine (ex_seq (ex_set (u := I b) (μ' := c2 :: (ρ ++ [dtK K])) (ev_bin (u := .int ((a : Int) + 1 + r)) (v := I n) (μ1 := c2 :: (ρ ++ [dtK K])) (μ2 := c2 :: (ρ ++ [dtK K])) (ev_bi (us := [.int ((a : Int) + 1 + r)]) (ev_l1 (ev_bin (u := .int ((a : Int) + 1)) (v := I r) (μ1 := c1 :: (ρ ++ [dtK K])) (ev_bin (ev_var rfl) ev_int rfl) (ev_call (us := [.ob 0, I (n - 1)]) (ev_l2 (ev_var rfl) (ev_bin (ev_var rfl) ev_int (by simp only [evBin]; congr 3; omega))) er) rfl)) rfl) (ev_var rfl) ?_))).trans ?_
      · simp only [evBin]
        rw [if_pos (by omega), hbz]
      · refine (ex_seq (ex_subT1 (i := ρ.length + 1) (q := kP (min a b, max a b)) (μ1 := c2 :: (ρ ++ [dtK K])) (v := pU (min a b, max a b)) ev_bl (ev_var rfl) (ev_tup (ev_l2 (ev_bi (ev_l2 (ev_var rfl) (ev_var rfl)) (min2_I _ _ _)) (ev_bi (ev_l2 (ev_var rfl) (ev_var rfl)) (max2_I _ _ _))) (show 2 ≤ SZ by decide)) rfl (t1a c2 ρ (dtK K)) (by rw [List.length_map]; have := V.len; unfold SZ; omega) (Nat.le_refl _))).trans ?_
        rw [t1s, dtK_put, ex_nil]
        rfl)
  rw [List.length_map, List.length_range] at V'
  exact ⟨c', K', y4, y5, y6, e, C', V'⟩
theorem law_friends_ok (k : Nat) (ρ : Mu) {c : U} (C : Cup c) {n : Nat} (h1 : 1 ≤ n) (hn : n ≤ 12) {more : Nat} (hm : more ≤ 50) : ∃ (c' : U) (es : List (Nat × Nat)), runF defs (k + 4) 29 [.ob 0, I n, I more] (c :: ρ) = some (tU n es, c' :: ρ) ∧ Cup c' ∧ Town n es := by
  obtain ⟨c1, ps, e1, C1, hp, hv⟩ := tree_ok k ρ C h1 hn
  have V0 : KInv n 11 ((srtP ps).foldl ins []) := ⟨foldl_ins_nd _ _ List.nodup_nil, fun p hp => hv p ((srtP_mem ps p).mp (by simpa using (foldl_ins_mem _ _ _).mp hp)), by
    have := sub_len (l := (srtP ps).foldl ins []) (q := srtP ps) (foldl_ins_nd _ _ List.nodup_nil) fun x hx => by simpa using (foldl_ins_mem _ _ _).mp hx
    rw [srtP_len, hp] at this
    omega⟩
  have loop : ∃ (c2 : U) (K : List (Nat × Nat)) (y4 y5 y6 : Option U), exS (runF defs (k + 3)) (ρ.length + 1) l__law_friends_1 [some (.ob 0), some (I n), some (I more), some (.ob (ρ.length + 1)), none, none, none, none] (c1 :: (ρ ++ [dtK ((srtP ps).foldl ins [])])) =
      some (.nx [some (.ob 0), some (I n), some (I more), some (.ob (ρ.length + 1)), y4, y5, y6, none] (c2 :: (ρ ++ [dtK K]))) ∧ Cup c2 ∧ KInv n 100 K := by
    by_cases h2 : 2 ≤ n
    · obtain ⟨t, c2, et, ht, C2⟩ := roll_ok (k + 2) (ρ ++ [dtK ((srtP ps).foldl ins [])]) C1 (many := more + 1) (by omega) (by omega)
      obtain ⟨c3, K, y4, y5, y6, e, C3, V⟩ := friends_loop (k + 2) ρ C2 h2 hn (m := 11) (t := t) (by omega) V0 (some (I more)) none none none none
      refine ⟨c3, K, y4, y5, y6, ?_, C3, ⟨V.nd, V.lt, by have := V.len; omega⟩⟩
      refine (ex_for (us := [I t]) (xs := (List.range t).map I) (ev_l1 (ev_iteT (u := .bl true) (ev_cmp (d := true) (u := I n) (v := I 1) (ev_var rfl) ev_int (gt_I.trans (by rw [decide_eq_true (by omega)]))) rfl (ev_call (us := [.ob 0, I (more + 1)]) (ev_l2 (ev_var rfl) (ev_bin (ev_var rfl) ev_int rfl)) et))) (walk_rng (by omega))).trans e
    · refine ⟨c1, _, none, none, none, ?_, C1, ⟨V0.nd, V0.lt, by have := V0.len; omega⟩⟩
      refine (ex_for (us := [I 0]) (xs := (List.range 0).map I) (ev_l1 (ev_iteF (u := .bl false) (ev_cmp (d := false) (u := I n) (v := I 1) (ev_var rfl) ev_int (gt_I.trans (by rw [decide_eq_false (by omega)]))) rfl ev_int)) (walk_rng (by omega))).trans rfl
  obtain ⟨c2, K, y4, y5, y6, e2, C2, V⟩ := loop
  refine ⟨c2, srtP K, ?_, C2, V.town h1 hn (by omega)⟩
  rw [run__law_friends]
  have b : exL (runF defs (k + 3)) (ρ.length + 1) b__law_friends [some (.ob 0), some (I n), some (I more), none, none, none, none, none] (c :: ρ) = some (.rt (tU n (srtP K)) (c2 :: (ρ ++ [dtK K]))) := by
    unfold b__law_friends
    have c0 : evalE (runF defs (k + 3)) (ρ.length + 1) c__law_friends_0 [some (.ob 0), some (I n), some (I more), none, none, none, none, none] (c :: ρ) = some (.lst ((srtP ps).map fun p => .tup [pU p, .bl true]), c1 :: ρ) := by
      refine (ev_comp (us := [.tup ((srtP ps).map pU)]) (μ1 := c1 :: ρ) (xs := (srtP ps).map pU) (ev_l1 (ev_idxT1 (ev_call (us := [.ob 0, I n]) (ev_l2 (ev_var rfl) (ev_var rfl)) e1) ev_int (atI_of (j := 1) rfl))) rfl (compL_all (enc := pU) (g := fun p => .tup [pU p, .bl true]) (fun p _ => cs_yes rfl (ev_tup (ev_l2 (ev_var rfl) ev_bl) (show 2 ≤ SZ by decide))) (by simp [srtP_len, hp]; unfold SZ; omega))).trans rfl
    refine (ex_seq (ex_set (u := .ob (ρ.length + 1)) (μ' := c1 :: (ρ ++ [dtK ((srtP ps).foldl ins [])])) (ev_col (ev_l1 c0) rfl ?_))).trans ?_
    · simp only [evCol]
      rw [mapO_map (f := pairKV) (h := fun p => (pU p, U.bl true)) fun x _ => rfl]
      simp only
      have := merge_dtK (srtP ps) [] (by simp [srtP_len, hp]; unfold SZ; omega)
      simp only [dtK, List.map_nil] at this
      rw [this]
      simp [R.fresh]
    · refine (ex_seq e2).trans ?_
      refine ex_ret (ev_tup (ev_l2 (ev_var rfl) (ev_col (us := [.lst ((srtP K).map pU)]) (xs := (srtP K).map pU) (ev_l1 (ev_col (us := [.ob (ρ.length + 1)]) (xs := K.map pU) (ev_l1 (ev_var rfl)) ?_ ?_)) rfl rfl)) (show 2 ≤ SZ by decide))
      · simp only [items, asS, asL, cont, t1a, List.map_map]
        rfl
      · simp only [evCol, srtd_pU _ K (by have := V.len; unfold SZ; omega)]
        rfl
  exact (if_pos rfl).trans (run_rt b (fin_cut (frz_tU _ _ _ (by rw [srtP_len]; have := V.len; omega)) (by simp)))
/-! ### friends apart, rows by lot -/
theorem compL_sub {α : Type} {step : U → Mu → Option (Option U × Mu)} {enc : α → U} {Inv : Mu → Prop} : ∀ {xs : List α} {acc : List U} {μ : Mu}, Inv μ → (∀ x ∈ xs, ∀ μ, Inv μ → ∃ μ', Inv μ' ∧ (step (enc x) μ = some (some (enc x), μ') ∨ step (enc x) μ = some (none, μ'))) → acc.length + xs.length ≤ SZ →
    ∃ (ys : List α) (μ' : Mu), compL step (xs.map enc) acc μ = some (acc ++ ys.map enc, μ') ∧ Inv μ' ∧ ys.Sublist xs
  | [], acc, μ, h, _, _ => ⟨[], μ, by simp [compL], h, List.Sublist.refl _⟩
  | x :: xs, acc, μ, h, hs, hl => by
    obtain ⟨μ1, h1, e⟩ := hs x (by simp) μ h
    simp only [List.length_cons] at hl
    rcases e with e | e
    · obtain ⟨ys, μ2, e2, h2, s⟩ := compL_sub (xs := xs) (acc := acc ++ [enc x]) h1 (fun y hy => hs y (by simp [hy])) (by simp; omega)
      refine ⟨x :: ys, μ2, ?_, h2, s.cons_cons x⟩
      simp only [List.map_cons, compL, e]
      rw [if_pos (by omega), e2]
      simp
    · obtain ⟨ys, μ2, e2, h2, s⟩ := compL_sub (xs := xs) (acc := acc) h1 (fun y hy => hs y (by simp [hy])) (by omega)
      refine ⟨ys, μ2, ?_, h2, s.cons x⟩
      simp only [List.map_cons, compL, e]
      exact e2
theorem Town.sub {n : Nat} {es es' : List (Nat × Nat)} (T : Town n es) (s : es'.Sublist es) : Town n es' :=
  ⟨T.n1, T.n12, by have := s.length_le; have := T.len; omega, fun p hp => T.lt p (s.subset hp), T.asc.sublist s⟩
theorem apart_ok (k : Nat) (ρ : Mu) {c : U} (C : Cup c) {n : Nat} {es : List (Nat × Nat)} (T : Town n es) : ∃ (c' : U) (es' : List (Nat × Nat)), runF defs (k + 2) 30 [.ob 0, tU n es] (c :: ρ) = some (tU n es', c' :: ρ) ∧ Cup c' ∧ Town n es' := by
  obtain ⟨es', μ', e, ⟨c', rfl, C'⟩, s⟩ := compL_sub (step := cstep (runF defs (k + 1)) (ρ.length + 1) (.slot 2) (.cmp .gt (.call 24 [(.var 0), (.int 4)]) (.int 0)) (.var 2) [2] [some (.ob 0), some (tU n es), none]) (enc := pU) (Inv := fun μ => ∃ c, μ = c :: ρ ∧ Cup c) (xs := es) (acc := []) (μ := c :: ρ) ⟨c, rfl, C⟩ (fun p _ μ h => by
    obtain ⟨c, rfl, C⟩ := h
    obtain ⟨r, c', er, hr, C'⟩ := roll_ok k ρ C (many := 4) (by omega) (by omega)
    have e1 : evalE (runF defs (k + 1)) (ρ.length + 1) (.cmp .gt (.call 24 [(.var 0), (.int 4)]) (.int 0)) [some (.ob 0), some (tU n es), some (pU p)] (c :: ρ) = some (.bl (decide (0 < r)), c' :: ρ) := ev_cmp (u := I r) (v := I 0) (ev_call (us := [.ob 0, I 4]) (ev_l2 (ev_var rfl) ev_int) er) ev_int gt_I
    refine ⟨c' :: ρ, ⟨c', rfl, C'⟩, ?_⟩
    by_cases h : 0 < r
    · rw [decide_eq_true h] at e1
      exact .inl (cs_if rfl e1 rfl (ev_var rfl))
    · rw [decide_eq_false h] at e1
      exact .inr (cs_no rfl e1 rfl)) (by have := T.len; simp; unfold SZ; omega)
  have T' := T.sub s
  refine ⟨c', es', ?_, C', T'⟩
  rw [run__law_apart]
  refine (if_pos rfl).trans (run_rt (μ1 := c' :: ρ) (u := tU n es') ?_ (fin_cut (frz_tU _ _ _ T'.len) (by simp)))
  have cc : evalE (runF defs (k + 1)) (ρ.length + 1) c__law_apart_0 [some (.ob 0), some (tU n es), none] (c :: ρ) = some (.lst (es'.map pU), c' :: ρ) := (ev_comp (us := [.tup (es.map pU)]) (μ1 := c :: ρ) (xs := es.map pU) (ev_l1 (ev_idxT (ev_var rfl) ev_int (atI_of (j := 1) rfl))) rfl e).trans rfl
  exact ex_ret (ev_tup (ev_l2 (ev_idxT (ev_var rfl) ev_int (w := I n) (atI_of (j := 0) rfl)) (ev_col (ev_l1 cc) rfl rfl)) (show 2 ≤ SZ by decide))
theorem all_pairs {es : List (Nat × Nat)} : ∀ {ys : List U}, (∀ y ∈ ys, ∃ p ∈ es, y = pU p) → ∃ row : List (Nat × Nat), ys = row.map pU ∧ ∀ p ∈ row, p ∈ es
  | [], _ => ⟨[], rfl, by simp⟩
  | y :: ys, h => by
    obtain ⟨p, hp, rfl⟩ := h y (by simp)
    obtain ⟨row, rfl, hr⟩ := all_pairs (ys := ys) fun z hz => h z (by simp [hz])
    refine ⟨p :: row, rfl, fun q hq => ?_⟩
    rcases List.mem_cons.mp hq with z | z
    · exact z ▸ hp
    · exact hr q z
theorem row_ok (k : Nat) (ρ : Mu) {c : U} (C : Cup c) {n : Nat} {es : List (Nat × Nat)} (T : Town n es) {many : Nat} (hm : many ≤ 20) : ∃ (c' : U) (row : List (Nat × Nat)), runF defs (k + 3) 31 [.ob 0, tU n es, I many] (c :: ρ) = some (rU row, c' :: ρ) ∧ Cup c' ∧ Row n es row ∧ row.length ≤ 20 := by
  have a1 : ∀ {μ : Mu}, evalE (runF defs (k + 2)) (ρ.length + 1) (.idx (.var 1) (.int 1)) [some (.ob 0), some (tU n es), some (I many), none] μ = some (.tup (es.map pU), μ) := ev_idxT (ev_var rfl) ev_int (atI_of (j := 1) rfl)
  have ne : evalE (runF defs (k + 2)) (ρ.length + 1) (.cmp .ne (.idx (.var 1) (.int 1)) (.tup [])) [some (.ob 0), some (tU n es), some (I many), none] (c :: ρ) = some (.bl (!(es.map pU).isEmpty), c :: ρ) := by
    refine ev_cmp a1 (ev_tup ev_lnil (show 0 ≤ SZ by decide)) ?_
    have := eq_nilT (c :: ρ) (B := 2) (d := 1) (xs := es.map pU) (fun u hu => by obtain ⟨p, _, rfl⟩ := List.mem_map.mp hu; exact pl_pU p (by omega)) (by decide)
    simp only [evCmp] at this ⊢
    rw [this]
    rfl
  have turns : ∃ (t : Nat) (c1 : U), evalE (runF defs (k + 2)) (ρ.length + 1) (.ite (.cmp .ne (.idx (.var 1) (.int 1)) (.tup [])) (.call 24 [(.var 0), (.bin false .add (.var 2) (.int 1))]) (.int 0)) [some (.ob 0), some (tU n es), some (I many), none] (c :: ρ) = some (I t, c1 :: ρ) ∧ Cup c1 ∧ t ≤ many ∧ (es = [] → t = 0) := by
    cases es with
    | nil => exact ⟨0, c, ev_iteF ne rfl ev_int, C, Nat.zero_le _, fun _ => rfl⟩
    | cons p es =>
      obtain ⟨t, c1, et, ht, C1⟩ := roll_ok (k + 1) ρ C (many := many + 1) (by omega) (by omega)
      exact ⟨t, c1, ev_iteT ne rfl (ev_call (us := [.ob 0, I (many + 1)]) (ev_l2 (ev_var rfl) (ev_bin (ev_var rfl) ev_int rfl)) et), C1, by omega, fun z => by cases z⟩
  obtain ⟨t, c1, et, C1, ht, h0⟩ := turns
  obtain ⟨ys, μ', e, ⟨c', rfl, C'⟩, yl, yp⟩ := compL_ex (step := cstep (runF defs (k + 2)) (ρ.length + 1) (.slot 3) (.bl true) (.call 25 [(.var 0), (.idx (.var 1) (.int 1))]) [3] [some (.ob 0), some (tU n es), some (I many), none]) (Inv := fun μ => ∃ c, μ = c :: ρ ∧ Cup c) (P := fun _ y => ∃ p ∈ es, y = pU p) (xs := (List.range t).map I) (acc := []) (μ := c1 :: ρ) ⟨c1, rfl, C1⟩ (fun x hx μ h => by
    obtain ⟨c, rfl, C⟩ := h
    have hne : 1 ≤ es.length := by
      cases es with
      | nil => rw [h0 rfl] at hx; simp at hx
      | cons => simp
    obtain ⟨w, c', ew, hw, C'⟩ := some_ok k ρ C (u := .tup (es.map pU)) (xs := es.map pU) (.inr rfl) (fun _ => trivial) (by simpa using hne) (by have := T.len; simp; omega) fun x hx c' => by
      obtain ⟨p, _, rfl⟩ := List.mem_map.mp hx
      exact frz_pl (pl_pU (B := 2) (d := 0) p (by omega)) _ _ (by decide)
    obtain ⟨p, hp, rfl⟩ := List.mem_map.mp hw
    exact ⟨pU p, c' :: ρ, cs_yes rfl (ev_call (us := [.ob 0, .tup (es.map pU)]) (ev_l2 (ev_var rfl) (ev_idxT (ev_var rfl) ev_int (atI_of (j := 1) rfl))) ew), ⟨c', rfl, C'⟩, p, hp, rfl⟩) (by simp; unfold SZ; omega)
  obtain ⟨row, rfl, hr⟩ := all_pairs fun y hy => by
    obtain ⟨_, _, p, hp, e⟩ := yp y hy
    exact ⟨p, hp, e⟩
  simp only [List.length_map, List.length_range] at yl
  refine ⟨c', row, ?_, C', ⟨hr, by omega⟩, by omega⟩
  rw [run__law_row]
  refine (if_pos rfl).trans (run_rt (μ1 := c' :: ρ) (u := rU row) ?_ (fin_cut (frz_pl (pl_row (B := 200) (d := 0) (by omega) (by omega)) _ _ (by decide)) (by simp)))
  have cc : evalE (runF defs (k + 2)) (ρ.length + 1) c__law_row_0 [some (.ob 0), some (tU n es), some (I many), none] (c :: ρ) = some (.lst (row.map pU), c' :: ρ) := (ev_comp (us := [I t]) (μ1 := c1 :: ρ) (xs := (List.range t).map I) (ev_l1 et) (walk_rng (by omega)) e).trans rfl
  exact ex_ret (ev_col (ev_l1 cc) rfl rfl)
end K04

set_option Elab.async false
set_option linter.all false
set_option maxRecDepth 100000
set_option maxHeartbeats 4000000
namespace K04
open PySem L2 R
/-! ### one friends, one row -/
theorem fold_max : ∀ (l : List Nat) (a : Nat), ∃ M : Nat, (l.map fun x : Nat => (x : Int)).foldl (fun a b => if a < b then b else a) (a : Int) = (M : Int) ∧ (M = a ∨ M ∈ l) ∧ a ≤ M ∧ ∀ x ∈ l, x ≤ M
  | [], a => ⟨a, rfl, .inl rfl, Nat.le_refl _, by simp⟩
  | b :: l, a => by
    simp only [List.map_cons, List.foldl_cons]
    by_cases h : a < b
    · rw [if_pos (by omega)]
      obtain ⟨M, e, m, h1, h2⟩ := fold_max l b
      refine ⟨M, e, .inr ?_, by omega, fun x hx => ?_⟩
      · rcases m with rfl | m
        · simp
        · simp [m]
      · rcases List.mem_cons.mp hx with rfl | hx
        · exact h1
        · exact h2 x hx
    · rw [if_neg (by omega)]
      obtain ⟨M, e, m, h1, h2⟩ := fold_max l a
      refine ⟨M, e, ?_, h1, fun x hx => ?_⟩
      · rcases m with rfl | m
        · exact .inl rfl
        · exact .inr (by simp [m])
      · rcases List.mem_cons.mp hx with rfl | hx
        · omega
        · exact h2 x hx
theorem max_ok (μ : Mu) {l : List Nat} (h : l ≠ []) : ∃ M : Nat, evBi μ .max1 [bU l] = some (I M) ∧ M ∈ l ∧ ∀ x ∈ l, x ≤ M := by
  cases l with
  | nil => exact absurd rfl h
  | cons a l =>
    obtain ⟨M, e, m, h1, h2⟩ := fold_max l a
    refine ⟨M, ?_, ?_, fun x hx => ?_⟩
    · have mi : mapO asInt ((a :: l).map I) = some ((a :: l).map fun x : Nat => (x : Int)) := mapO_map fun x _ => rfl
      rw [List.map_cons, List.map_cons] at mi
      simp only [evBi, intT, asS, asL, bU, List.map_cons, mi, Option.bind_some, maxL]
      rw [e]
      rfl
    · rcases m with rfl | m
      · simp
      · simp [m]
    · rcases List.mem_cons.mp hx with rfl | hx
      · exact h1
      · exact h2 x hx
theorem max_full {n M : Nat} {K : Kn} (hm : M ∈ (tab n K).map List.length) (hx : ∀ x ∈ (tab n K).map List.length, x ≤ M) : decide (M = n) = someFull n K := by
  rw [Bool.eq_iff_iff, decide_eq_true_eq]
  unfold someFull
  rw [List.any_eq_true]
  constructor
  · intro e
    obtain ⟨l, hl, rfl⟩ := List.mem_map.mp hm
    obtain ⟨h, hh, rfl⟩ := List.mem_map.mp hl
    exact ⟨h, hh, rowFull_len.mpr e⟩
  · rintro ⟨h, hh, e⟩
    have h1 := rowFull_len.mp e
    have h2 := hx _ (List.mem_map.mpr ⟨_, List.mem_map.mpr ⟨h, hh, rfl⟩, rfl⟩)
    rw [h1] at h2
    obtain ⟨l, hl, rfl⟩ := List.mem_map.mp hm
    have := tab_row_len hl
    omega
theorem in_ob (μ : Mu) (i j : Nat) (l : List Nat) (h : μ[j]? = some (bU l)) : evIn μ (I i) (.ob j) = some (decide (i ∈ l)) := by
  have e := in_bU μ i l
  have m : dat μ D0 (.ob j) = dat μ 11 (bU l) := by
    rw [show D0 = 11 + 1 from rfl]
    simp only [dat, h]
  have m2 : dat μ D0 (bU l) = dat μ 11 (bU l) := by
    rw [show D0 = 11 + 1 from rfl, dat_tp μ (pl_ints (B := l.length) (d := 0) (Nat.le_refl _)).2 (show 0 + 1 ≤ 11 + 1 by omega), dat_tp μ (pl_ints (B := l.length) (d := 0) (Nat.le_refl _)).2 (show 0 + 1 ≤ 11 by omega)]
  have c1 : cont μ (.ob j) = some (bU l) := by simp only [cont, h]
  have c2 : cont μ (bU l) = some (bU l) := rfl
  simp only [evIn, c1]
  simp only [evIn, c2] at e
  rw [m, ← m2]
  exact e
def firstI (n : Nat) (row : List (Nat × Nat)) (i : Nat) : Option Nat := (List.range i).find? fun i => someFull n (kn (row.take i))
theorem firstI_succ (n : Nat) (row : List (Nat × Nat)) (i : Nat) : firstI n row (i + 1) = match firstI n row i with
    | some a => some a
    | none => if someFull n (kn (row.take i)) then some i else none := by
  unfold firstI
  rw [List.range_succ, List.find?_append]
  cases (List.range i).find? fun i => someFull n (kn (row.take i)) with
  | some a => rfl
  | none =>
    simp only [Option.none_or, List.find?_cons, List.find?_nil]
    cases someFull n (kn (row.take i)) <;> rfl
def idlesI (n : Nat) (row : List (Nat × Nat)) (i : Nat) : List Nat := (List.range (min i row.length)).filter (idle n row)
theorem idlesI_succ (n : Nat) (row : List (Nat × Nat)) {i : Nat} (h : i < row.length) : idlesI n row (i + 1) = idlesI n row i ++ if idle n row i then [i] else [] := by
  unfold idlesI
  rw [Nat.min_eq_left (by omega), Nat.min_eq_left (by omega), List.range_succ, List.filter_append]
  congr 1
  cases hh : idle n row i <;> simp [hh]
abbrev sR (n : Nat) (es row : List (Nat × Nat)) (x4 x5 x6 x7 x8 x9 x12 x13 x14 : Option U) : R.Env :=
  [some (.ob 0), some (tU n es), some (rU row), some (I n), x4, x5, x6, x7, x8, x9, some (kL n row), some (rU row.reverse), x12, x13, x14, none, none, none, none]
section
variable {n : Nat} {es row : List (Nat × Nat)}
theorem right_loop (k : Nat) {c : U} (T : Town n es) (r : Row n es row) (x4 x5 x6 x7 x8 x9 x14 : Option U) :
    ∃ (y6 y14 : Option U), forL (fstep (runF defs (k + 11)) 1 (.slot 6) lb__law_right_2) ((List.range (row.length + 1)).map I) (sR n es row x4 x5 x6 x7 x8 x9 (some (.ob 1)) (some .non) x14) [c, bU []] =
      some (.nx (sR n es row x4 x5 y6 x7 x8 x9 (some (.ob 1)) (some (oU (firstF n row))) y14) [c, bU (idles n row)]) := by
  have hr := r.inN T
  have hn := T.n12
  have hl := r.len
  obtain ⟨σ', μ', e, y6, y14, rfl, rfl⟩ := forL_inv0 (step := fstep (runF defs (k + 11)) 1 (.slot 6) lb__law_right_2) (xs := (List.range (row.length + 1)).map I)
    (fun i σ μ' => ∃ (y6 y14 : Option U), σ = sR n es row x4 x5 y6 x7 x8 x9 (some (.ob 1)) (some (oU (firstI n row i))) y14 ∧ μ' = [c, bU (idlesI n row i)])
    (σ := sR n es row x4 x5 x6 x7 x8 x9 (some (.ob 1)) (some .non) x14) (μ := [c, bU []])
    ⟨x6, x14, rfl, by simp [idlesI]⟩ (fun i x σ μ' hx hp => by
      obtain ⟨y6, y14, rfl, rfl⟩ := hp
      obtain ⟨hi, rfl⟩ := rng_at hx
      have tk : ∀ {σ : R.Env} {μ : Mu} (j : Nat) (e : E), σ[2]? = some (some (rU row)) → evalE (runF defs (k + 11)) 1 e σ μ = some (I j, μ) → evalE (runF defs (k + 11)) 1 (.slc false (.var 2) .non e) σ μ = some (rU (row.take j), μ) := fun j e h he => by
        have := ev_slcT (cal := runF defs (k + 11)) (n0 := 1) (a := .var 2) (lo := .non) (hi := e) (ev_var h) ev_non he (l' := none) rfl rfl
        rw [cutU_to, ← List.map_take] at this
        exact this
      let μ0 : Mu := [c, bU (idlesI n row i)]
      have kt := law_known_ok (k + 10) μ0 hn (hr.take i) (r.take i).len
      let σ1 : R.Env := sR n es row x4 x5 (some (I i)) x7 x8 x9 (some (.ob 1)) (some (oU (firstI n row i))) (some (kL n (row.take i)))
      have s1 : exS (runF defs (k + 11)) 1 (.set 14 (.call 32 [(.var 3), (.slc false (.var 2) .non (.var 6))])) (sR n es row x4 x5 (some (I i)) x7 x8 x9 (some (.ob 1)) (some (oU (firstI n row i))) y14) μ0 = some (.nx σ1 μ0) := ex_set (ev_call (ev_l2 (ev_var rfl) (tk i (.var 6) rfl (ev_var rfl))) kt)
      have lens : evalE (runF defs (k + 11)) 1 c__law_right_1 σ1 μ0 = some (bU ((tab n (kn (row.take i))).map List.length), μ0) := by
        refine (ev_comp (us := [kL n (row.take i)]) (μ1 := μ0) (xs := (tab n (kn (row.take i))).map lU) (ev_l1 (ev_var rfl)) rfl (compL_all (enc := lU) (g := fun l => I l.length) (fun l _ => cs_yes rfl (ev_bi (ev_l1 (ev_var rfl)) (by simp [evBi, cont]))) (by simp [tab_len]; unfold SZ; omega))).trans ?_
        rw [List.nil_append, bU, List.map_map]
        rfl
      obtain ⟨M, em, m1, m2⟩ := max_ok μ0 (l := (tab n (kn (row.take i))).map List.length) (by
        intro z
        have := congrArg List.length z
        simp [tab_len] at this
        have := T.n1
        omega)
      have emx : evalE (runF defs (k + 11)) 1 (.cmp .eq (.bi .max1 [c__law_right_1]) (.var 3)) σ1 μ0 = some (.bl (someFull n (kn (row.take i))), μ0) := by
        have := ev_cmp (op := .eq) (ev_bi (ev_l1 lens) em) (show evalE (runF defs (k + 11)) 1 (.var 3) σ1 μ0 = some (I n, μ0) from ev_var rfl) eq_I
        rw [max_full m1 m2] at this
        exact this
      let σ2 : R.Env := sR n es row x4 x5 (some (I i)) x7 x8 x9 (some (.ob 1)) (some (oU (firstI n row (i + 1)))) (some (kL n (row.take i)))
      have s2 : exS (runF defs (k + 11)) 1 (.iff (.bool true [(.cmp .is_ (.var 13) .non), (.cmp .eq (.bi .max1 [c__law_right_1]) (.var 3))]) [.set 13 (.var 6)] []) σ1 μ0 = some (.nx σ2 μ0) := by
        have fs := firstI_succ n row i
        cases hf : firstI n row i with
        | some a =>
          rw [hf] at fs
          have z : evalE (runF defs (k + 11)) 1 (.cmp .is_ (.var 13) .non) σ1 μ0 = some (.bl false, μ0) := ev_cmp (u := oU (firstI n row i)) (ev_var rfl) ev_non (by rw [hf]; rfl)
          have e2 : σ2 = σ1 := by simp only [σ2, σ1, fs, hf]
          rw [e2]
          exact (ex_ifF (ev_andF z) rfl).trans ex_nil
        | none =>
          rw [hf] at fs
          have z : evalE (runF defs (k + 11)) 1 (.cmp .is_ (.var 13) .non) σ1 μ0 = some (.bl true, μ0) := ev_cmp (u := oU (firstI n row i)) (ev_var rfl) ev_non (by rw [hf]; rfl)
          cases hs : someFull n (kn (row.take i)) with
          | true =>
            rw [hs] at emx fs
            have e2 : σ2 = σ1.set 13 (some (I i)) := by simp only [σ2, σ1, fs]; rfl
            rw [e2]
            exact (ex_ifT (ev_andT z (ev_b1 emx)) rfl).trans ((ex_seq (ex_set (ev_var rfl))).trans ex_nil)
          | false =>
            rw [hs] at emx fs
            have e2 : σ2 = σ1 := by simp only [σ2, σ1, fs, hf]; rfl
            rw [e2]
            exact (ex_ifF (ev_andT z (ev_b1 emx)) rfl).trans ex_nil
      have lt : evalE (runF defs (k + 11)) 1 (.cmp .lt (.var 6) (.bi .len [(.var 2)])) σ2 μ0 = some (.bl (decide (i < row.length)), μ0) := ev_cmp (u := I i) (v := I row.length) (ev_var rfl) (ev_bi (ev_l1 (ev_var rfl)) (by simp [evBi, cont])) lt_I
      refine ⟨σ2, [c, bU (idlesI n row (i + 1))], .inl ?_, _, _, rfl, rfl⟩
      show exL (runF defs (k + 11)) 1 lb__law_right_2 (sR n es row x4 x5 (some (I i)) x7 x8 x9 (some (.ob 1)) (some (oU (firstI n row i))) y14) μ0 = _
      unfold lb__law_right_2
      refine (ex_seq s1).trans ((ex_seq s2).trans ?_)
      by_cases h : i < row.length
      · rw [decide_eq_true h] at lt
        have kt2 := law_known_ok (k + 10) μ0 hn (hr.take (i + 1)) (r.take (i + 1)).len
        have eq : evalE (runF defs (k + 11)) 1 (.cmp .eq (.var 14) (.call 32 [(.var 3), (.slc false (.var 2) .non (.bin false .add (.var 6) (.int 1)))])) σ2 μ0 = some (.bl (idle n row i), μ0) := by
          refine ev_cmp (u := kL n (row.take i)) (ev_var rfl) (ev_call (ev_l2 (ev_var rfl) (tk (i + 1) _ rfl (ev_bin (ev_var rfl) ev_int rfl))) kt2) ?_
          rw [kL_eq]
          rfl
        rw [idlesI_succ n row h]
        cases hid : idle n row i with
        | true =>
          rw [hid] at eq
          rw [if_pos rfl]
          refine (ex_seq ((ex_ifT (ev_andT lt (ev_b1 eq)) rfl).trans ((ex_seq (ex_append (i := 1) (u := I i) (xs := (idlesI n row i).map I) (ev_var rfl) (ev_var rfl) rfl (by
            have := List.length_filter_le (idle n row) (List.range (min i row.length))
            simp only [idlesI, List.length_map, List.length_range] at this ⊢
            unfold SZ
            omega) (Nat.le_refl _))).trans ex_nil))).trans ex_nil |>.trans ?_
          simp only [bU, List.map_append]
          rfl
        | false =>
          rw [hid] at eq
          rw [if_neg (by simp), List.append_nil]
          exact (ex_seq ((ex_ifF (ev_andT lt (ev_b1 eq)) rfl).trans ex_nil)).trans ex_nil
      · rw [decide_eq_false h] at lt
        have e3 : idlesI n row (i + 1) = idlesI n row i := by
          unfold idlesI
          rw [Nat.min_eq_right (by omega), Nat.min_eq_right (by omega)]
        rw [e3]
        exact (ex_seq ((ex_ifF (ev_andF lt) rfl).trans ex_nil)).trans ex_nil)
  refine ⟨y6, y14, ?_⟩
  rw [e, List.length_map, List.length_range]
  have e4 : idlesI n row (row.length + 1) = idles n row := by
    unfold idlesI idles
    rw [Nat.min_eq_right (by omega)]
  rw [e4]
  rfl
end
end K04

set_option Elab.async false
set_option linter.all false
set_option maxRecDepth 100000
set_option maxHeartbeats 4000000
namespace K04
open PySem L2 R
section
variable {n : Nat} {es row : List (Nat × Nat)}
theorem sz201 : 201 ≤ SZ := by decide
def vals (row : List (Nat × Nat)) : List U := [rU (row.drop 1), .lst (row.map pU), .tup (row.map pU ++ (row.take 1).map pU), .tup (row.map pU ++ [.tup [.int 0, .int 0]]), .tup (row.map pU ++ [.tup [.int 1, .int 0]]), .tup (row.map pU ++ [.tup [.int 0, .bl true]]), .tup (row.map pU ++ [.lst [.int 0, .int 1]]), .non, .tup [.int 0, .int 1]]
theorem vals_pl (hl : row.length ≤ 20) : ∀ u ∈ vals row, Pl 201 4 u := by
  have pr : ∀ l : List (Nat × Nat), ∀ u ∈ l.map pU, Pl 201 3 u := fun l u hu => by
    obtain ⟨p, _, rfl⟩ := List.mem_map.mp hu
    exact pl_pU p (by omega)
  have pp : ∀ {xs : List U}, xs.length ≤ 20 → (∀ u ∈ xs, Pl 201 3 u) → Pl 201 4 (.tup (row.map pU ++ xs)) := fun {xs} h1 h2 => .tup (by simp; omega) fun u hu => by
    rcases List.mem_append.mp hu with z | z
    · exact pr _ u z
    · exact h2 u z
  intro u hu
  simp only [vals, List.mem_cons, List.not_mem_nil, or_false] at hu
  rcases hu with rfl | rfl | rfl | rfl | rfl | rfl | rfl | rfl | rfl
  · exact .tup (by simp; omega) (pr _)
  · exact .lst (by simp; omega) (pr _)
  · exact pp (by simp; omega) (pr _)
  · exact pp (by simp) fun u hu => by rw [List.mem_singleton] at hu; subst hu; exact .tup (by simp) fun u hu => by simp at hu; subst hu; exact .int _ _
  · exact pp (by simp) fun u hu => by rw [List.mem_singleton] at hu; subst hu; exact .tup (by simp) fun u hu => by simp at hu; rcases hu with rfl | rfl <;> exact .int _ _
  · exact pp (by simp) fun u hu => by rw [List.mem_singleton] at hu; subst hu; exact .tup (by simp) fun u hu => by simp at hu; rcases hu with rfl | rfl; exact .int _ _; exact .bl _ _
  · exact pp (by simp) fun u hu => by rw [List.mem_singleton] at hu; subst hu; exact .lst (by simp) fun u hu => by simp at hu; rcases hu with rfl | rfl <;> exact .int _ _
  · exact .non _
  · exact .tup (by simp) fun u hu => by simp at hu; rcases hu with rfl | rfl <;> exact .int _ _
theorem judge_loop (k n0 : Nat) (μ : Mu) (T : Town n es) {xs : List U} (hx : ∀ u ∈ xs, Pl 201 4 u) (x4 x5 x6 x7 x8 x9 x12 x13 x14 : Option U) : ∃ y9, forL (fstep (runF defs (k + 11)) n0 (.slot 9) lb__law_right_5) xs (sR n es row x4 x5 x6 x7 x8 x9 x12 x13 x14) μ = some (.nx (sR n es row x4 x5 x6 x7 x8 y9 x12 x13 x14) μ) := by
  obtain ⟨σ', μ', e, y9, rfl, rfl⟩ := forL_inv0 (step := fstep (runF defs (k + 11)) n0 (.slot 9) lb__law_right_5) (xs := xs) (fun _ σ μ' => ∃ y9, σ = sR n es row x4 x5 x6 x7 x8 y9 x12 x13 x14 ∧ μ' = μ) (σ := sR n es row x4 x5 x6 x7 x8 x9 x12 x13 x14) (μ := μ) ⟨x9, rfl, rfl⟩ (fun i x σ μ' hxi hp => by
    obtain ⟨y9, rfl, rfl⟩ := hp
    have p := hx x (List.mem_of_getElem? hxi)
    refine ⟨sR n es row x4 x5 x6 x7 x8 (some x) x12 x13 x14, μ', .inl ?_, some x, rfl, rfl⟩
    show exL (runF defs (k + 11)) n0 lb__law_right_5 (sR n es row x4 x5 x6 x7 x8 (some x) x12 x13 x14) μ' = _
    unfold lb__law_right_5
    have a := is_row_ok (k + 6) sz201 p T μ'
    have b := law_row_ok (k + 9) sz201 (by omega) p T μ'
    have l := like_pl (B := 0) (Nat.zero_le _) (Pl.bl 0 (okRow n es x)) (k + 9) μ' (Nat.zero_le _)
    exact (ex_seq ((ex_ifF (u := .bl false) (μ1 := μ') (ev_not (d := true) (ev_call (ev_l2 (ev_call (ev_l2 (ev_var rfl) (ev_var rfl)) a) (ev_call (ev_l2 (ev_var rfl) (ev_var rfl)) b)) l) rfl) rfl).trans ex_nil)).trans ex_nil)
  exact ⟨y9, e⟩
theorem vals_ev {cal : Nat → List U → Mu → Option (U × Mu)} {n0 : Nat} {σ : R.Env} {μ : Mu} (h : σ[2]? = some (some (rU row))) (hl : row.length ≤ 20) : evalE cal n0 (.lst false [(.slc false (.var 2) (.int 1) .non), (.col false .list .ex [(.var 2)]), (.bin false .add (.var 2) (.slc false (.var 2) .non (.int 1))), (.bin false .add (.var 2) (.tup [(.tup [(.int 0), (.int 0)])])), (.bin false .add (.var 2) (.tup [(.tup [(.int 1), (.int 0)])])), (.bin false .add (.var 2) (.tup [(.tup [(.int 0), (.bl true)])])), (.bin false .add (.var 2) (.tup [(.lst false [(.int 0), (.int 1)])])), .non, (.tup [(.int 0), (.int 1)])]) σ μ = some (.lst (vals row), μ) := by
  have v : evalE cal n0 (.var 2) σ μ = some (.tup (row.map pU), μ) := ev_var h
  have ad : ∀ {e : E} {u : U}, evalE cal n0 e σ μ = some (u, μ) → evalE cal n0 (.bin false .add (.var 2) (.tup [e])) σ μ = some (.tup (row.map pU ++ [u]), μ) := fun he => ev_addT v (ev_tup (ev_l1 he) (show 1 ≤ SZ by decide)) (by simp; unfold SZ; omega)
  have e1 : evalE cal n0 (.slc false (.var 2) (.int 1) .non) σ μ = some (rU (row.drop 1), μ) := by
    have := ev_slcT (l := I 1) v ev_int ev_non (l' := some 1) (h' := none) rfl rfl
    rw [show (some (1 : Int)) = some ((1 : Nat) : Int) from rfl, cutU_from, ← List.map_drop] at this
    exact this
  have e3 : evalE cal n0 (.slc false (.var 2) .non (.int 1)) σ μ = some (.tup ((row.take 1).map pU), μ) := by
    have := ev_slcT (h := I 1) v ev_non ev_int (l' := none) (h' := some 1) rfl rfl
    rw [show (some (1 : Int)) = some ((1 : Nat) : Int) from rfl, cutU_to, ← List.map_take] at this
    exact this
  refine ev_lst (us := vals row) (ev_lcons e1 (ev_lcons (ev_col (us := [.tup (row.map pU)]) (xs := row.map pU) (r := (.lst (row.map pU), μ)) (ev_l1 v) rfl rfl) (ev_lcons (ev_addT v e3 (by simp; unfold SZ; omega)) (ev_lcons (ad (ev_tup (ev_l2 ev_int ev_int) (show 2 ≤ SZ by decide))) (ev_lcons (ad (ev_tup (ev_l2 ev_int ev_int) (show 2 ≤ SZ by decide))) (ev_lcons (ad (ev_tup (ev_l2 ev_int ev_bl) (show 2 ≤ SZ by decide))) (ev_lcons (ad (ev_lst (ev_l2 ev_int ev_int) (show 2 ≤ SZ by decide))) (ev_l2 ev_non (ev_tup (ev_l2 ev_int ev_int) (show 2 ≤ SZ by decide)))))))))) (show 9 ≤ SZ by decide)
theorem right_ok (k : Nat) {c : U} (C : Cup c) (T : Town n es) (r : Row n es row) (hl : row.length ≤ 20) : ∃ c', runF defs (k + 12) 39 [.ob 0, tU n es, rU row] [c] = some (.bl true, [c']) ∧ Cup c' := by
  have hr := r.inN T
  have hn := T.n12
  have n1 := T.n1
  have rr := r.rev
  obtain ⟨q1, q2, q3, q4⟩ := rest_ok row hr
  have r2 : Row n es (rest n row) := ⟨fun p hp => by
    unfold rest at hp
    obtain ⟨q, hq, rfl⟩ := List.mem_map.mp hp
    exact r.mem _ (List.of_mem_zip (List.mem_filter.mp hq).1).2, by have := @rest_len n row; omega⟩
  have kt2 : kT n (rest n row) = kT n row := by rw [kT, kT, tab_eq.mpr q1]
  have pk : ∀ {row : List (Nat × Nat)}, Pl 201 2 (kT n row) := fun {row} => (pl_kT (d := 0)).1.up (by omega) (by omega)
  have prow : ∀ {l : List (Nat × Nat)}, l.length ≤ 20 → Pl 201 2 (rU l) := fun h => pl_row (by omega) (by omega)
  have ff := full_rev n row
  -- told and due
  let told : List U := [.bl true, kT n row, .bl (fullB n (kn row)), rU row.reverse, .bl (fullB n (kn row.reverse))]
  have pt : Pl 201 3 (.lst told) := .lst (show 5 ≤ 201 by decide) fun u hu => by
    simp only [told, List.mem_cons, List.not_mem_nil, or_false] at hu
    rcases hu with rfl | rfl | rfl | rfl | rfl
    · exact .bl _ _
    · exact pk
    · exact .bl _ _
    · exact prow (by simpa using hl)
    · exact .bl _ _
  let told2 : List U := [oU (firstF n row), lU (idles n row), rU (rest n row), kT n row, .tup []]
  have il : (idles n row).length ≤ 20 := by have := @idles_len n row; omega
  have pt2 : Pl 201 3 (.lst told2) := .lst (show 5 ≤ 201 by decide) fun u hu => by
    simp only [told2, List.mem_cons, List.not_mem_nil, or_false] at hu
    rcases hu with rfl | rfl | rfl | rfl | rfl
    · cases firstF n row with
      | none => exact .non _
      | some i => exact .int _ _
    · exact (pl_ints (B := 201) (d := 1) (by omega)).1
    · exact prow (by have := @rest_len n row; omega)
    · exact pk
    · exact .tup (Nat.zero_le _) fun u hu => by simp at hu
  let M2 : Mu := [c, bU (idles n row)]
  obtain ⟨v1, c1, ev1, pv1, C1⟩ := bent_ok (B := 200) (by omega) (by omega) [bU (idles n row)] (pl_row (d := 0) (B := 200) (row := row) (by omega) (by omega)) (k + 6) C (by omega)
  obtain ⟨v2, c2, ev2, pv2, C2⟩ := bent_ok (B := 200) (by omega) (by omega) [bU (idles n row)] (pl_row (d := 0) (B := 200) (row := row) (by omega) (by omega)) (k + 6) C1 (by omega)
  have ev1 : runF defs (k + 11) 35 [.ob 0, rU row] [c, bU (idles n row)] = some (v1, [c1, bU (idles n row)]) := ev1
  have ev2 : runF defs (k + 11) 35 [.ob 0, rU row] [c1, bU (idles n row)] = some (v2, [c2, bU (idles n row)]) := ev2
  obtain ⟨y6, y14, e8⟩ := right_loop k (c := c) T r (some (.lst told)) (some (kL n row.reverse)) none none none none none
  obtain ⟨y9, e13⟩ := judge_loop (row := row) k 1 [c2, bU (idles n row)] T (xs := vals row ++ [v1, v2]) (fun u hu => by
    rcases List.mem_append.mp hu with z | z
    · exact vals_pl hl u z
    · simp only [List.mem_cons, List.not_mem_nil, or_false] at z
      rcases z with rfl | rfl
      · exact pv1
      · exact pv2) (some (.lst told2)) (some (kL n row.reverse)) y6 (some (rU (rest n row))) (some (.lst (vals row))) none (some (.ob 1)) (some (oU (firstF n row))) y14
  refine ⟨c2, ?_, C2⟩
  rw [run__law_right]
  let nn : Option U := none
  have b : exL (runF defs (k + 11)) 1 b__law_right [some (.ob 0), some (tU n es), some (rU row), nn, nn, nn, nn, nn, nn, nn, nn, nn, nn, nn, nn, nn, nn, nn, nn] [c] = some (.rt (.bl true) [c2, bU (idles n row)]) := by
    unfold b__law_right
    refine (ex_seq (ex_set (u := I n) (ev_idxT (ev_var rfl) ev_int (atI_of (j := 0) rfl)))).trans ?_
    refine (ex_seq (ex_par (us := [kL n row, rU row.reverse]) (μ' := [c]) (ev_l2 (ev_call (ev_l2 (ev_var rfl) (ev_var rfl)) (law_known_ok (k + 10) [c] hn hr r.len)) (by
      have e : rU row.reverse = .tup (row.map pU).reverse := by rw [rU, List.map_reverse]
      rw [e]
      exact ev_revT (ev_var rfl))) rfl)).trans ?_
    refine (ex_seq (ex_set (u := .lst told) (ev_lst (us := told) (ev_lcons (ev_call (us := [tU n es, rU row]) (ev_l2 (ev_var rfl) (ev_var rfl)) (by
      have := is_row_ok (k + 6) (B := 201) sz201 (pl_row (d := 0) (row := row) (by omega) (by omega)) T [c]
      rw [okRow_row T r] at this
      exact this)) (ev_lcons (ev_call (ev_l2 (ev_var rfl) (ev_var rfl)) (known_behind_ok (k + 4) [c] T r)) (ev_lcons (ev_call (ev_l2 (ev_var rfl) (ev_var rfl)) (is_full_ok (k + 4) [c] T r)) (ev_l2 (ev_call (ev_l2 (ev_var rfl) (ev_var rfl)) (turned_ok (k + 4) [c] T r)) (ev_call (ev_l2 (ev_var rfl) (ev_var rfl)) (is_full_ok (k + 4) [c] T rr)))))) (show 5 ≤ SZ by decide)))).trans ?_
    show exL (runF defs (k + 11)) 1 _ (sR n es row (some (.lst told)) nn nn nn nn nn nn nn nn) [c] = _
    have l1 := like_pl sz201 pt (k + 6) [c] (by decide)
    have n24 : evalE (runF defs (k + 11)) 1 (.cmp .ne (.idx (.var 4) (.int 2)) (.idx (.var 4) (.int 4))) (sR n es row (some (.lst told)) nn nn nn nn nn nn nn nn) [c] = some (.bl false, [c]) := by
      refine ev_cmp (u := .bl (fullB n (kn row))) (v := .bl (fullB n (kn row))) (ev_idxL1 (u := .lst told) (xs := told) (ev_var rfl) ev_int rfl (atI_of (j := 2) rfl)) (ev_idxL1 (u := .lst told) (xs := told) (ev_var rfl) ev_int rfl (atI_of (j := 4) (by simp only [told]; rw [ff]; rfl))) ?_
      simp only [evCmp, eq_self [c] (Pl.bl (B := 0) 0 (fullB n (kn row))) (Nat.zero_le _)]
      rfl
    refine (ex_seq ((ex_ifF (u := .bl false) (μ1 := [c]) (ev_orF (μ1 := [c]) (ev_not (d := true) (ev_call (us := [.lst told, .lst told]) (ev_l2 (ev_var rfl) (ev_lst (us := told) (ev_lcons ev_bl (ev_lcons (ev_col (us := [kL n row]) (xs := (tab n (kn row)).map lU) (ev_l1 (ev_var rfl)) rfl rfl) (ev_lcons (ev_call (ev_l2 (ev_var rfl) (ev_var rfl)) (law_full_ok (k + 9) [c] hn hr r.len)) (ev_l2 (ev_var rfl) (ev_call (ev_l2 (ev_var rfl) (ev_var rfl)) (law_full_ok (k + 9) [c] hn hr.rev rr.len)))))) (show 5 ≤ SZ by decide))) l1) rfl) (ev_b1 n24)) rfl).trans ex_nil)).trans ?_
    refine (ex_seq (ex_set (ev_call (ev_l2 (ev_var rfl) (ev_var rfl)) (law_known_ok (k + 10) [c] hn hr.rev rr.len)))).trans ?_
    show exL (runF defs (k + 11)) 1 _ (sR n es row (some (.lst told)) (some (kL n row.reverse)) nn nn nn nn nn nn nn) [c] = _
    have szp : ∀ K, (prsI n n K).length ≤ 144 := fun K => by
      have := prsI_len n n K
      have h2 : n * n ≤ 12 * 12 := Nat.mul_le_mul hn hn
      omega
    have sP : Pl 201 2 (.lst ((srtP (prsI n n (kn row))).map pU)) := .lst (by rw [List.length_map, srtP_len]; have := szp (kn row); omega) fun u hu => by
      obtain ⟨p, _, rfl⟩ := List.mem_map.mp hu
      exact pl_pU p (by omega)
    have c0 : evalE (runF defs (k + 11)) 1 c__law_right_0 (sR n es row (some (.lst told)) (some (kL n row.reverse)) nn nn nn nn nn nn nn) [c] = some (.lst (((prsI n n (kn row.reverse)).map fun p => (p.2, p.1)).map pU), [c]) := by
      rw [List.map_map]
      refine (ev_comp (us := [.lst ((prsI n n (kn row.reverse)).map pU)]) (μ1 := [c]) (xs := (prsI n n (kn row.reverse)).map pU) (ev_l1 (ev_call (ev_l1 (ev_var rfl)) (pairs_ok (k + 10) [c] hn row.reverse))) rfl (compL_all (enc := pU) (g := fun p => pU (p.2, p.1)) (fun p _ => cs_yes rfl (ev_tup (ev_l2 (ev_var rfl) (ev_var rfl)) (show 2 ≤ SZ by decide))) (by have := szp (kn row.reverse); simp; unfold SZ; omega))).trans rfl
    have nsrt : evalE (runF defs (k + 11)) 1 (.cmp .ne (.col false .sorted .ex [(.call 40 [(.var 10)])]) (.col false .sorted .ex [c__law_right_0])) (sR n es row (some (.lst told)) (some (kL n row.reverse)) nn nn nn nn nn nn nn) [c] = some (.bl false, [c]) := by
      refine ev_cmp (u := .lst ((srtP (prsI n n (kn row))).map pU)) (v := .lst ((srtP (prsI n n (kn row))).map pU)) (μ1 := [c]) (ev_col (xs := (prsI n n (kn row)).map pU) (ev_l1 (ev_call (ev_l1 (ev_var rfl)) (pairs_ok (k + 10) [c] hn row))) rfl ?_) (ev_col (xs := ((prsI n n (kn row.reverse)).map fun p => (p.2, p.1)).map pU) (ev_l1 c0) rfl ?_) ?_
      · simp only [evCol, srtd_pU _ (prsI n n (kn row)) (by have := szp (kn row); unfold SZ; omega)]
        rfl
      · simp only [evCol, srtd_pU _ ((prsI n n (kn row.reverse)).map fun p => (p.2, p.1)) (by have := szp (kn row.reverse); rw [List.length_map]; unfold SZ; omega), ← prs_rev]
        rfl
      · simp only [evCmp, eq_self [c] sP (by decide)]
        rfl
    refine (ex_seq ((ex_ifF nsrt rfl).trans ex_nil)).trans ?_
    refine (ex_seq (ex_asg (u := .tup [.ob 1, .non]) (μ' := [c, bU []]) (ev_tup (ev_l2 (ev_lstA ev_lnil (show 0 ≤ SZ by decide)) ev_non) (show 2 ≤ SZ by decide)) rfl)).trans ?_
    refine (ex_seq (((show exS _ _ l__law_right_2 _ _ = _ from ex_for (us := [I (row.length + 1)]) (xs := (List.range (row.length + 1)).map I) (ev_l1 (ev_bin (u := I row.length) (ev_bi (ev_l1 (ev_var rfl)) (by simp [evBi, cont])) ev_int rfl)) (walk_rng (by omega))).trans e8))).trans ?_
    refine (ex_seq (ex_set (u := rU (rest n row)) (μ' := M2) (ev_col (us := [.lst ((rest n row).map pU)]) (xs := (rest n row).map pU) (ev_l1 (show evalE _ _ c__law_right_4 _ _ = _ from ev_rest M2 (.var 2) (ev_var rfl) _ (fun i v => ev_cmp (u := I i) (v := .ob 1) (ev_var rfl) (ev_var rfl) (by
      simp only [evCmp]
      rw [in_ob M2 i 1 (idles n row) rfl]
      simp [neg?])) (fun i v => ev_var rfl) r.len)) rfl rfl))).trans ?_
    show exL (runF defs (k + 11)) 1 _ (sR n es row (some (.lst told)) (some (kL n row.reverse)) y6 (some (rU (rest n row))) nn nn (some (.ob 1)) (some (oU (firstF n row))) y14) M2 = _
    have i2 := idle_calls_ok (n := n) (es := es) (row := rest n row) (k + 4) M2 T r2
    rw [q2] at i2
    have kb := known_behind_ok (n := n) (es := es) (row := rest n row) (k + 4) M2 T r2
    rw [kt2] at kb
    refine (ex_seq (ex_set (u := .lst told2) (ev_lst (us := told2) (ev_lcons (ev_call (ev_l2 (ev_var rfl) (ev_var rfl)) (first_full_ok (k + 4) M2 T r)) (ev_lcons (ev_call (ev_l2 (ev_var rfl) (ev_var rfl)) (idle_calls_ok (k + 4) M2 T r)) (ev_lcons (ev_call (ev_l2 (ev_var rfl) (ev_var rfl)) (taught_ok (k + 4) M2 T r)) (ev_l2 (ev_call (ev_l2 (ev_var rfl) (ev_var rfl)) kb) (ev_call (ev_l2 (ev_var rfl) (ev_var rfl)) i2))))) (show 5 ≤ SZ by decide)))).trans ?_
    show exL (runF defs (k + 11)) 1 _ (sR n es row (some (.lst told2)) (some (kL n row.reverse)) y6 (some (rU (rest n row))) nn nn (some (.ob 1)) (some (oU (firstF n row))) y14) M2 = _
    have l2 := like_pl sz201 pt2 (k + 6) M2 (by decide)
    refine (ex_seq ((ex_ifF (u := .bl false) (μ1 := M2) (ev_not (d := true) (ev_call (us := [.lst told2, .lst told2]) (ev_l2 (ev_var rfl) (ev_lst (us := told2) (ev_lcons (ev_var rfl) (ev_lcons (ev_col (us := [.ob 1]) (xs := (idles n row).map I) (ev_l1 (ev_var rfl)) rfl rfl) (ev_lcons (ev_var rfl) (ev_l2 (ev_col (us := [kL n row]) (xs := (tab n (kn row)).map lU) (ev_l1 (ev_var rfl)) rfl rfl) (ev_tup ev_lnil (show 0 ≤ SZ by decide)))))) (show 5 ≤ SZ by decide))) l2) rfl) rfl).trans ex_nil)).trans ?_
    refine (ex_seq (ex_set (vals_ev rfl hl))).trans ?_
    show exL (runF defs (k + 11)) 1 _ (sR n es row (some (.lst told2)) (some (kL n row.reverse)) y6 (some (rU (rest n row))) (some (.lst (vals row))) nn (some (.ob 1)) (some (oU (firstF n row))) y14) M2 = _
    refine (ex_seq (((show exS _ _ l__law_right_5 _ _ = _ from ex_for (us := [.lst (vals row ++ [v1, v2])]) (xs := vals row ++ [v1, v2]) (μ1 := [c2, bU (idles n row)]) (ev_l1 (ev_addL (ev_var rfl) (ev_lst (ev_l2 (ev_call (us := [.ob 0, rU row]) (ev_l2 (ev_var rfl) (ev_var rfl)) ev1) (ev_call (us := [.ob 0, rU row]) (ev_l2 (ev_var rfl) (ev_var rfl)) ev2)) (show 2 ≤ SZ by decide)) (by simp [vals]; decide))) rfl).trans e13))).trans ?_
    exact ex_ret ev_bl
  exact (if_pos rfl).trans (run_rt b (fin_cut rfl rfl))
end
end K04

set_option Elab.async false
set_option linter.all false
set_option maxRecDepth 100000
set_option maxHeartbeats 4000000
namespace K04
open PySem L2 R
/-! ### great lines and stars -/
def tabB (n : Nat) (row : List (Nat × Nat)) : List (List Nat) := (bits n row).map fun b => (List.range n).filter b.testBit
def fullC (n : Nat) (row : List (Nat × Nat)) : Bool := (bits n row).all fun b => decide (b = 2 ^ n - 1)
def firstB (n : Nat) (row : List (Nat × Nat)) : Option Nat := (List.range (row.length + 1)).find? fun i => decide (2 ^ n - 1 ∈ bits n (row.take i))
def idlesB (n : Nat) (row : List (Nat × Nat)) : List Nat := (List.range row.length).filter fun i => decide (bits n (row.take i) = bits n (row.take (i + 1)))
section
variable {n : Nat} {row : List (Nat × Nat)} (hr : InN n row)
include hr
theorem tabB_eq : tab n (kn row) = tabB n row := tab_bits row hr
theorem fullC_eq : fullB n (kn row) = fullC n row := by
  unfold fullC
  have h1 : ((bits n row).all fun b => decide (b = 2 ^ n - 1)) = ((bits n row).map fun b => decide (b = 2 ^ n - 1)).all id := by simp [List.all_map]
  rw [h1, bits_map, List.all_map]
  unfold fullB
  rw [Bool.eq_iff_iff]
  simp only [List.all_eq_true, List.mem_range, Function.comp, id, decide_eq_true_eq]
  constructor
  · exact fun z h hh => (bits_all row hr hh).mpr (z h hh)
  · exact fun z h hh => (bits_all row hr hh).mp (z h hh)
theorem firstB_eq : firstF n row = firstB n row := by
  unfold firstF firstB
  congr 1
  funext i
  exact (some_full_bits (hr.take i)).symm
theorem idlesB_eq : idles n row = idlesB n row := by
  unfold idles idlesB
  refine List.filter_congr fun i _ => ?_
  unfold idle
  exact decide_eq_decide.mpr (bits_eq (hr.take i) (hr.take (i + 1))).symm
end
def lastE (n : Nat) : List (Nat × Nat) := (lineE n).drop (n - 2)
def inB (n : Nat) (row : List (Nat × Nat)) : Bool := row.all fun p => decide (p.1 < n) && decide (p.2 < n)
theorem inB_ok {n : Nat} {row : List (Nat × Nat)} (h : inB n row = true) : InN n row := fun p hp => by
  have := List.all_eq_true.mp h p hp
  simpa using this
def okG (n : Nat) : Bool :=
  decide (tabB n (lineE n) = (List.range n).map fun h => List.range (min (h + 2) n)) && fullC n (lineE n ++ (lineE n).reverse) && decide (firstB n (lineE n) = some (n - 1)) && decide (idlesB n (lineE n ++ (lastE n ++ (lastE n ++ lastE n))) = [n - 1, n, n + 1]) && decide (firstB n ((lineE n).take (n - 2)) = none)
  && fullC n (starE n ++ (starE n).take (n - 2)) && decide (fullC n (starE n) = decide (n = 2)) && decide ((tabB n (starE n))[0]? = some (List.range n)) && decide (firstB n (starE n).reverse = some (n - 1))
def okT (n : Nat) : Bool := (lineE n).all (fun p => decide (p.1 < p.2) && decide (p.2 < n)) && (starE n).all (fun p => decide (p.1 < p.2) && decide (p.2 < n)) && decide ((lineE n).Pairwise lex) && decide ((starE n).Pairwise lex)
theorem okT_all : ∀ n, n < 13 → okT n = true := by decide +kernel
theorem okG_all : ∀ n, n < 13 → 2 ≤ n → okG n = true := by decide +kernel
theorem line_town {n : Nat} (h1 : 1 ≤ n) (hn : n ≤ 12) : Town n (lineE n) ∧ Town n (starE n) := by
  have h := okT_all n (by omega)
  unfold okT at h
  simp only [Bool.and_eq_true, List.all_eq_true, decide_eq_true_eq] at h
  obtain ⟨⟨⟨a, b⟩, c⟩, d⟩ := h
  exact ⟨⟨h1, hn, by simp [lineE]; omega, a, c⟩, ⟨h1, hn, by simp [starE]; omega, b, d⟩⟩
end K04

set_option Elab.async false
set_option linter.all false
set_option maxRecDepth 100000
set_option maxHeartbeats 4000000
namespace K04
open PySem L2 R
theorem cut_last (xs : List U) : cutU xs (some (-1)) none = xs.drop (xs.length - 1) := by
  unfold cutU
  have e : HT.sIx xs.length 0 (some (-1)) = xs.length - 1 := by
    show (if (-1 : Int) < 0 then ((-1 : Int) + (xs.length : Int)).toNat else min (-1 : Int).toNat xs.length) = _
    rw [if_pos (by decide)]
    omega
  rw [e, HT.sIx_none, List.take_of_length_le (by simp)]
theorem cut_but (xs : List U) : cutU xs none (some (-1)) = xs.take (xs.length - 1) := by
  unfold cutU
  have e : HT.sIx xs.length xs.length (some (-1)) = xs.length - 1 := by
    show (if (-1 : Int) < 0 then ((-1 : Int) + (xs.length : Int)).toNat else min (-1 : Int).toNat xs.length) = _
    rw [if_pos (by decide)]
    omega
  rw [e, HT.sIx_none]
  simp
section
variable {cal : Nat → List U → Mu → Option (U × Mu)} {n0 : Nat} {σ : R.Env} {μ μ1 : Mu} {a : E} {row r1 r2 : List (Nat × Nat)}
theorem er_rev (h : evalE cal n0 a σ μ = some (rU row, μ1)) : evalE cal n0 (.rev false a) σ μ = some (rU row.reverse, μ1) := by
  have e : rU row.reverse = .tup (row.map pU).reverse := by rw [rU, List.map_reverse]
  rw [e]
  exact ev_revT h
theorem er_add {b : E} {μ2 : Mu} (h : evalE cal n0 a σ μ = some (rU r1, μ1)) (h2 : evalE cal n0 b σ μ1 = some (rU r2, μ2)) (hz : r1.length + r2.length ≤ 1000) : evalE cal n0 (.bin false .add a b) σ μ = some (rU (r1 ++ r2), μ2) := by
  rw [rU, List.map_append]
  exact ev_addT h h2 (by simp; unfold SZ; omega)
theorem er_but (h : evalE cal n0 a σ μ = some (rU row, μ1)) : evalE cal n0 (.slc false a .non (.neg (.int 1))) σ μ = some (rU (row.take (row.length - 1)), μ1) := by
  have := ev_slcT h ev_non (ev_neg ev_int) (l' := none) (h' := some (-1)) rfl rfl
  rw [cut_but, List.length_map, ← List.map_take] at this
  exact this
theorem er_last (h : evalE cal n0 a σ μ = some (rU row, μ1)) : evalE cal n0 (.slc false a (.neg (.int 1)) .non) σ μ = some (rU (row.drop (row.length - 1)), μ1) := by
  have := ev_slcT h (ev_neg ev_int) ev_non (l' := some (-1)) (h' := none) rfl rfl
  rw [cut_last, List.length_map, ← List.map_drop] at this
  exact this
theorem er_to {e : E} {j : Nat} (h : evalE cal n0 a σ μ = some (rU row, μ1)) (he : evalE cal n0 e σ μ1 = some (I j, μ1)) : evalE cal n0 (.slc false a .non e) σ μ = some (rU (row.take j), μ1) := by
  have := ev_slcT h ev_non he (l' := none) (h' := some (j : Int)) rfl rfl
  rw [cutU_to, ← List.map_take] at this
  exact this
theorem er_mul {e : E} {j : Nat} (h : evalE cal n0 a σ μ = some (rU row, μ1)) (he : evalE cal n0 e σ μ1 = some (I j, μ1)) (hj : j ≤ 200) (hl : row.length ≤ 20) : evalE cal n0 (.bin false .mul a e) σ μ = some (rU (List.replicate j row).flatten, μ1) := by
  refine ev_bin h he ?_
  have : row.length * j ≤ 20 * 200 := Nat.mul_le_mul hl hj
  simp only [evBin, rU]
  rw [if_pos ⟨by omega, by omega, by simp; unfold SZ; omega⟩]
  simp [List.map_flatten]
end
theorem great_known (k : Nat) (μ : Mu) (n0 : Nat) {n : Nat} (hn : n ≤ 12) {σ : R.Env} (h1 : σ[1]? = some (some (I n))) (h8 : σ.length = 9) :
    evalE (runF defs k) n0 c__law_great_right_0 σ μ = some (.lst (((List.range n).map fun h => List.range (min (h + 2) n)).map lU), μ) := by
  rw [List.map_map]
  refine (ev_comp (us := [I n]) (μ1 := μ) (xs := (List.range n).map I) (ev_l1 (ev_var h1)) (walk_rng (by omega)) (compL_all (enc := I) (g := fun h => lU (List.range (min (h + 2) n))) (fun h hh => ?_) (by simp; unfold SZ; omega))).trans rfl
  match σ, h8, h1 with
  | [x0, x1, x2, x3, x4, x5, x6, x7, x8], _, h1 =>
    refine cs_yes rfl (ev_col (us := [I (min (h + 2) n)]) (xs := (List.range (min (h + 2) n)).map I) (ev_l1 (ev_bi (us := [I (h + 2), I n]) (ev_l2 (ev_bin (ev_var rfl) ev_int rfl) (ev_var h1)) (min2_I _ _ _))) ?_ rfl)
    simp only [items]
    rw [if_pos (by omega), rgn_nat]
theorem sub_row {n : Nat} {es row : List (Nat × Nat)} (h : ∀ p ∈ row, p ∈ es) (hl : row.length ≤ 200) : Row n es row := ⟨h, hl⟩
theorem great_ok (k : Nat) {c : U} (C : Cup c) : ∃ c', runF defs (k + 12) 41 [.ob 0] [c] = some (.bl true, [c']) := by
  obtain ⟨r, c1, er, hr, C1⟩ := roll_ok (k + 10) [] C (many := 11) (by omega) (by omega)
  generalize hnn : 2 + r = n
  have h2 : 2 ≤ n := by omega
  have hn : n ≤ 12 := by omega
  obtain ⟨T, T'⟩ := line_town (n := n) (by omega) hn
  have g := okG_all n (by omega) h2
  unfold okG at g
  simp only [Bool.and_eq_true, decide_eq_true_eq] at g
  obtain ⟨⟨⟨⟨⟨⟨⟨⟨g1, g2⟩, g3⟩, g4⟩, g5⟩, g6⟩, g7⟩, g8⟩, g9⟩ := g
  generalize hL : lineE n = L at T g1 g2 g3 g4 g5
  generalize hS : starE n = W at T' g6 g7 g8 g9
  have ll : L.length = n - 1 := by rw [← hL]; simp [lineE]
  have lw : W.length = n - 1 := by rw [← hS]; simp [starE]
  have hla : lastE n = L.drop (L.length - 1) := by unfold lastE; rw [hL, ll, show n - 1 - 1 = n - 2 by omega]
  have r0 : Row n L L := ⟨fun p h => h, by omega⟩
  have r1 : Row n L (L ++ L.reverse) := ⟨fun p h => by simpa using h, by simp; omega⟩
  have r2 : Row n L (L ++ (List.replicate 3 (L.drop (L.length - 1))).flatten) := ⟨fun p h => by
    rcases List.mem_append.mp h with z | z
    · exact z
    · obtain ⟨l, hl, z⟩ := List.mem_flatten.mp z
      rw [List.eq_of_mem_replicate hl] at z
      exact List.mem_of_mem_drop z, by simp; omega⟩
  have r3 : Row n L (L.take (L.length - 1)) := ⟨fun p h => List.mem_of_mem_take h, by simp; omega⟩
  have w1 : Row n W (W ++ W.take (W.length - 1)) := ⟨fun p h => by
    rcases List.mem_append.mp h with z | z
    · exact z
    · exact List.mem_of_mem_take z, by simp; omega⟩
  have w0 : Row n W W := ⟨fun p h => h, by omega⟩
  have w2 : Row n W W.reverse := w0.rev
  obtain ⟨M, hM⟩ : ∃ M, M = ((List.replicate 200 L).flatten).take 200 := ⟨_, rfl⟩
  have lM : M.length = 200 := by
    have : 200 * 1 ≤ 200 * (n - 1) := Nat.mul_le_mul_left _ (by omega)
    rw [hM]
    simp [ll]
    omega
  have rM : Row n L M := ⟨fun p h => by
    rw [hM] at h
    obtain ⟨l, hl, z⟩ := List.mem_flatten.mp (List.mem_of_mem_take h)
    rw [List.eq_of_mem_replicate hl] at z
    exact z, by omega⟩
  have fl : (List.replicate 3 (L.drop (L.length - 1))).flatten = lastE n ++ (lastE n ++ lastE n) := by rw [hla]; simp [List.replicate]
  -- what is told
  let kU : U := .tup (((List.range n).map fun h => List.range (min (h + 2) n)).map lU)
  have k1 : kT n L = kU := by rw [kT, tabB_eq (r0.inN T), g1]
  let told : List U := [kU, .bl true, I (n - 1), lU [n - 1, n, n + 1], .non]
  have pkU : Pl 201 2 kU := .tup (by simp; omega) fun u hu => by
    obtain ⟨l, hl, rfl⟩ := List.mem_map.mp hu
    obtain ⟨h, hh, rfl⟩ := List.mem_map.mp hl
    exact (pl_ints (by simp; omega)).1
  have pt : Pl 201 3 (.lst told) := .lst (show 5 ≤ 201 by decide) fun u hu => by
    simp only [told, List.mem_cons, List.not_mem_nil, or_false] at hu
    rcases hu with rfl | rfl | rfl | rfl | rfl
    · exact pkU
    · exact .bl _ _
    · exact .int _ _
    · exact (pl_ints (B := 201) (d := 1) (by simp)).1
    · exact .non _
  let told2 : List U := [.bl true, .bl (decide (n = 2)), lU (List.range n), I (n - 1)]
  have pt2 : Pl 201 3 (.lst told2) := .lst (show 4 ≤ 201 by decide) fun u hu => by
    simp only [told2, List.mem_cons, List.not_mem_nil, or_false] at hu
    rcases hu with rfl | rfl | rfl | rfl
    · exact .bl _ _
    · exact .bl _ _
    · exact (pl_ints (B := 201) (d := 1) (by simp; omega)).1
    · exact .int _ _
  let told3 : List U := [.bl true, .bl false, .bl true]
  have pt3 : Pl 201 1 (.lst told3) := .lst (show 3 ≤ 201 by decide) fun u hu => by
    simp only [told3, List.mem_cons, List.not_mem_nil, or_false] at hu
    rcases hu with rfl | rfl | rfl <;> exact .bl _ _
  let nn : Option U := none
  let σ : Option U → Option U → Option U → R.Env := fun x3 x4 x5 => [some (.ob 0), some (I n), some (rU L), x3, x4, x5, some (tU n L), some (tU n W), nn]
  have q1 := known_behind_ok (k + 4) [c1] T r0
  have q2 := is_full_ok (k + 4) [c1] T r1
  have q3 := first_full_ok (k + 4) [c1] T r0
  have q4 := idle_calls_ok (k + 4) [c1] T r2
  have q5 := first_full_ok (k + 4) [c1] T r3
  rw [k1] at q1
  rw [fullC_eq (r1.inN T), g2] at q2
  rw [firstB_eq (r0.inN T), g3] at q3
  rw [← fl] at g4
  rw [idlesB_eq (r2.inN T), g4] at q4
  rw [show n - 2 = L.length - 1 by omega] at g5
  rw [firstB_eq (r3.inN T), g5] at q5
  have p1 := is_full_ok (k + 4) [c1] T' w1
  have p2 := is_full_ok (k + 4) [c1] T' w0
  have p3 := known_behind_ok (k + 4) [c1] T' w0
  have p4 := first_full_ok (k + 4) [c1] T' w2
  rw [show n - 2 = W.length - 1 by omega] at g6
  rw [fullC_eq (w1.inN T'), g6] at p1
  rw [fullC_eq (w0.inN T'), g7] at p2
  rw [firstB_eq (w2.inN T'), g9] at p4
  have k0 : atI ((tab n (kn W)).map lU) (0 : Int) = some (lU (List.range n)) := by
    rw [tabB_eq (w0.inN T')]
    refine atI_of (j := 0) ?_
    rw [List.getElem?_map, g8]
    rfl
  obtain ⟨z1, z2, z3, z4⟩ := rest_ok M (rM.inN T)
  have m1 := is_row_ok (k + 6) (B := 201) sz201 (pl_row (d := 0) (row := M) (by omega) (by omega)) T [c1]
  rw [okRow_row T rM] at m1
  have m2 := is_row_ok (k + 6) (B := 201) sz201 (pl_row (d := 0) (row := M ++ L.take 1) (by omega) (by simp; omega)) T [c1]
  have l201 : (M ++ L.take 1).length = 201 := by rw [List.length_append, List.length_take, lM, ll]; omega
  rw [show okRow n L (rU (M ++ L.take 1)) = false by
    unfold okRow
    rw [show isT 0 200 (rU (M ++ L.take 1)) = false by simp only [isT, List.length_map, l201]; rfl]
    rfl] at m2
  have m3 := idle_calls_ok (k + 4) [c1] T rM
  have m4 := taught_ok (k + 4) [c1] T rM
  refine ⟨c1, ?_⟩
  rw [run__law_great_right]
  have b : exL (runF defs (k + 11)) 1 b__law_great_right [some (.ob 0), nn, nn, nn, nn, nn, nn, nn, nn] [c] = some (.rt (.bl true) [c1]) := by
    unfold b__law_great_right
    refine (ex_seq (ex_set (u := I n) (μ' := [c1]) (ev_bin (u := .int 2) (v := I r) ev_int (ev_call (us := [.ob 0, I 11]) (ev_l2 (ev_var rfl) ev_int) er) (by rw [← hnn]; simp only [evBin]; congr 3)))).trans ?_
    have e36 := line_ok (k + 10) [c1] (n := n) (by omega) hn
    have e38 := star_ok (k + 10) [c1] (n := n) (by omega) hn
    rw [hL] at e36
    rw [hS] at e38
    refine (ex_seq (ex_par (us := [tU n L, tU n W]) (μ' := [c1]) (ev_l2 (ev_call (ev_l1 (ev_var rfl)) e36) (ev_call (ev_l1 (ev_var rfl)) e38)) rfl)).trans ?_
    refine (ex_seq (ex_set (u := rU L) (ev_idxT (ev_var rfl) ev_int (atI_of (j := 1) rfl)))).trans ?_
    refine (ex_seq (ex_set (u := kU) (ev_col (ev_l1 (great_known (k + 11) [c1] 1 hn rfl rfl)) rfl rfl))).trans ?_
    show exL (runF defs (k + 11)) 1 _ (σ (some kU) nn nn) [c1] = _
    refine (ex_seq (ex_set (u := .lst told) (ev_lst (us := told) (ev_lcons (ev_call (ev_l2 (ev_var rfl) (ev_var rfl)) q1) (ev_lcons (ev_call (ev_l2 (ev_var rfl) (er_add (ev_var rfl) (er_rev (ev_var rfl)) (by simp; omega))) q2) (ev_lcons (ev_call (ev_l2 (ev_var rfl) (ev_var rfl)) q3) (ev_l2 (ev_call (ev_l2 (ev_var rfl) (er_add (ev_var rfl) (er_mul (j := 3) (er_last (ev_var rfl)) ev_int (by omega) (by simp; omega)) (by simp; omega))) q4) (ev_call (ev_l2 (ev_var rfl) (er_but (ev_var rfl))) q5))))) (show 5 ≤ SZ by decide)))).trans ?_
    have l1 := like_pl sz201 pt (k + 6) [c1] (by decide)
    have nm1 : ∀ {x3 x4 x5 : Option U}, evalE (runF defs (k + 11)) 1 (.bin false .sub (.var 1) (.int 1)) (σ x3 x4 x5) [c1] = some (I (n - 1), [c1]) := ev_bin (ev_var rfl) ev_int (by simp only [evBin]; rw [show ((n : Int) - 1) = ((n - 1 : Nat) : Int) by omega])
    have np1 : ∀ {x3 x4 x5 : Option U}, evalE (runF defs (k + 11)) 1 (.bin false .add (.var 1) (.int 1)) (σ x3 x4 x5) [c1] = some (I (n + 1), [c1]) := ev_bin (ev_var rfl) ev_int rfl
    refine (ex_seq ((ex_ifF (u := .bl false) (μ1 := [c1]) (ev_not (d := true) (ev_call (us := [.lst told, .lst told]) (ev_l2 (ev_var rfl) (ev_lst (us := told) (ev_lcons (ev_var rfl) (ev_lcons ev_bl (ev_lcons nm1 (ev_l2 (ev_tup (ev_lcons nm1 (ev_l2 (ev_var rfl) np1)) (show 3 ≤ SZ by decide)) ev_non)))) (show 5 ≤ SZ by decide))) l1) rfl) rfl).trans ex_nil)).trans ?_
    have i7 : ∀ {x3 x4 x5 : Option U}, evalE (runF defs (k + 11)) 1 (.idx (.var 7) (.int 1)) (σ x3 x4 x5) [c1] = some (rU W, [c1]) := ev_idxT (ev_var rfl) ev_int (atI_of (j := 1) rfl)
    refine (ex_seq (ex_set (u := .lst told2) (ev_lst (us := told2) (ev_lcons (ev_call (ev_l2 (ev_var rfl) (er_add i7 (er_but i7) (by simp; omega))) p1) (ev_lcons (ev_call (ev_l2 (ev_var rfl) i7) p2) (ev_l2 (ev_idxT1 (ev_call (ev_l2 (ev_var rfl) i7) p3) ev_int k0) (ev_call (ev_l2 (ev_var rfl) (er_rev i7)) p4)))) (show 4 ≤ SZ by decide)))).trans ?_
    show exL (runF defs (k + 11)) 1 _ (σ (some kU) (some (.lst told2)) nn) [c1] = _
    have l2 := like_pl sz201 pt2 (k + 6) [c1] (by decide)
    have e2 : evalE (runF defs (k + 11)) 1 (.cmp .eq (.var 1) (.int 2)) (σ (some kU) (some (.lst told2)) nn) [c1] = some (.bl (decide (n = 2)), [c1]) := ev_cmp (u := I n) (v := I 2) (ev_var rfl) ev_int eq_I
    refine (ex_seq ((ex_ifF (u := .bl false) (μ1 := [c1]) (ev_not (d := true) (ev_call (us := [.lst told2, .lst told2]) (ev_l2 (ev_var rfl) (ev_lst (us := told2) (ev_lcons ev_bl (ev_lcons e2 (ev_l2 (ev_col (us := [I n]) (xs := (List.range n).map I) (ev_l1 (ev_var rfl)) (by
      simp only [items]
      rw [if_pos (by omega), rgn_nat]) rfl) nm1))) (show 4 ≤ SZ by decide))) l2) rfl) rfl).trans ex_nil)).trans ?_
    refine (ex_seq (ex_set (u := rU M) (by rw [hM]; exact er_to (j := 200) (er_mul (j := 200) (ev_var rfl) ev_int (by omega) (by omega)) ev_int))).trans ?_
    show exL (runF defs (k + 11)) 1 _ (σ (some kU) (some (.lst told2)) (some (rU M))) [c1] = _
    have l3 := like_pl sz201 pt3 (k + 8) [c1] (by decide)
    have e3 : evalE (runF defs (k + 11)) 1 (.cmp .eq (.bi .len [(.call 21 [(.var 6), (.var 5)])]) (.bin false .sub (.int 200) (.bi .len [(.call 22 [(.var 6), (.var 5)])]))) (σ (some kU) (some (.lst told2)) (some (rU M))) [c1] = some (.bl true, [c1]) := by
      refine ev_cmp (u := I (idles n M).length) (v := I (idles n M).length) (ev_bi (ev_l1 (ev_call (ev_l2 (ev_var rfl) (ev_var rfl)) m3)) (by simp [evBi, cont])) (ev_bin (v := I (rest n M).length) ev_int (ev_bi (ev_l1 (ev_call (ev_l2 (ev_var rfl) (ev_var rfl)) m4)) (by simp [evBi, cont])) ?_) (eq_yes rfl)
      simp only [evBin]
      rw [show ((200 : Int) - ((rest n M).length : Int)) = ((idles n M).length : Int) by omega]
    exact ex_ret (ev_call (us := [.lst told3, .lst told3]) (ev_l2 (ev_lst (us := told3) (ev_lcons (ev_call (ev_l2 (ev_var rfl) (ev_var rfl)) m1) (ev_l2 (ev_call (ev_l2 (ev_var rfl) (er_add (ev_var rfl) (er_to (j := 1) (ev_var rfl) ev_int) (by rw [lM]; simp; omega))) m2) e3)) (show 3 ≤ SZ by decide)) (ev_lst (us := told3) (ev_lcons ev_bl (ev_l2 ev_bl ev_bl)) (show 3 ≤ SZ by decide))) l3)
  exact (if_pos rfl).trans (run_rt b (fin_cut rfl rfl))
end K04

set_option Elab.async false
set_option linter.all false
set_option maxRecDepth 100000
set_option maxHeartbeats 4000000
namespace K04
open PySem L2 R
theorem line4 : lineE 4 = [(0, 1), (1, 2), (2, 3)] := by decide
theorem T4 : Town 4 (lineE 4) := (line_town (by omega) (by omega)).1
theorem T4r : Town 4 ring4 := ⟨by omega, by omega, by decide, by decide, by decide⟩
theorem T1 : Town 1 [] := ⟨by omega, by omega, by decide, by decide, by decide⟩
theorem T2 : Town 2 [] := ⟨by omega, by omega, by decide, by decide, by decide⟩
section
variable {cal : Nat → List U → Mu → Option (U × Mu)} {n0 : Nat} {σ : R.Env} {μ : Mu}
theorem p2 {a b : Int} : evalE cal n0 (.tup [.int a, .int b]) σ μ = some (.tup [.int a, .int b], μ) := ev_tup (ev_l2 ev_int ev_int) (show 2 ≤ SZ by decide)
theorem pr1 {a b : Int} : evalE cal n0 (.tup [.tup [.int a, .int b]]) σ μ = some (.tup [.tup [.int a, .int b]], μ) := ev_tup (ev_l1 p2) (show 1 ≤ SZ by decide)
theorem pr2 {a b c d : Int} : evalE cal n0 (.tup [.tup [.int a, .int b], .tup [.int c, .int d]]) σ μ = some (.tup [.tup [.int a, .int b], .tup [.int c, .int d]], μ) := ev_tup (ev_l2 p2 p2) (show 2 ≤ SZ by decide)
theorem pr3 {a b c d e f : Int} : evalE cal n0 (.tup [.tup [.int a, .int b], .tup [.int c, .int d], .tup [.int e, .int f]]) σ μ = some (.tup [.tup [.int a, .int b], .tup [.int c, .int d], .tup [.int e, .int f]], μ) := ev_tup (ev_lcons p2 (ev_l2 p2 p2)) (show 3 ≤ SZ by decide)
theorem pr4 {a b c d e f g h : Int} : evalE cal n0 (.tup [.tup [.int a, .int b], .tup [.int c, .int d], .tup [.int e, .int f], .tup [.int g, .int h]]) σ μ = some (.tup [.tup [.int a, .int b], .tup [.int c, .int d], .tup [.int e, .int f], .tup [.int g, .int h]], μ) := ev_tup (ev_lcons p2 (ev_lcons p2 (ev_l2 p2 p2))) (show 4 ≤ SZ by decide)
theorem e1 {n : Int} : evalE cal n0 (.tup [.int n, .tup []]) σ μ = some (.tup [.int n, .tup []], μ) := ev_tup (ev_l2 ev_int (ev_tup ev_lnil (show 0 ≤ SZ by decide))) (show 2 ≤ SZ by decide)
theorem e0 : evalE cal n0 (.tup []) σ μ = some (.tup [], μ) := ev_tup ev_lnil (show 0 ≤ SZ by decide)
end
def A1 : List U := [.tup [lU [0, 1], lU [0, 1, 2], lU [0, 1, 2], lU [3]], .bl true, I 3]
def A2 : List U := [.non, rU [(0, 1), (1, 2)], lU [1], rU [(0, 1)]]
def A3 : List U := [.bl false, .bl true, I 0, .bl false, .tup [lU [0], lU [1]], rU []]
section
variable (k : Nat) (μ : Mu)
theorem mem_line {row : List (Nat × Nat)} (h : (row.all fun p => decide (p ∈ lineE 4)) = true) (hl : row.length ≤ 200) : Row 4 (lineE 4) row := ⟨fun p hp => by simpa using List.all_eq_true.mp h p hp, hl⟩
theorem c1 : runF defs (k + 11) 17 [tU 4 (lineE 4), rU [(0, 1), (1, 2)]] μ = some (.tup [lU [0, 1], lU [0, 1, 2], lU [0, 1, 2], lU [3]], μ) := by
  have r := mem_line (row := [(0, 1), (1, 2)]) (by decide) (by decide)
  have h := known_behind_ok (k + 4) μ T4 r
  rw [kT, tabB_eq (r.inN T4), show tabB 4 [(0, 1), (1, 2)] = [[0, 1], [0, 1, 2], [0, 1, 2], [3]] by decide +kernel] at h
  exact h
theorem rr4 : Row 4 ring4 [(0, 1), (2, 3), (1, 2), (0, 3)] := ⟨by decide, by decide⟩
theorem c2 : runF defs (k + 11) 18 [tU 4 ring4, rU [(0, 1), (2, 3), (1, 2), (0, 3)]] μ = some (.bl true, μ) := by
  have h := is_full_ok (k + 4) μ T4r rr4
  rw [fullC_eq (rr4.inN T4r), show fullC 4 [(0, 1), (2, 3), (1, 2), (0, 3)] = true by decide +kernel] at h
  exact h
theorem c3 : runF defs (k + 11) 19 [tU 4 ring4, rU [(0, 1), (2, 3), (1, 2), (0, 3)]] μ = some (I 3, μ) := by
  have h := first_full_ok (k + 4) μ T4r rr4
  rw [firstB_eq (rr4.inN T4r), show firstB 4 [(0, 1), (2, 3), (1, 2), (0, 3)] = some 3 by decide +kernel] at h
  exact h
theorem c4 : runF defs (k + 11) 19 [tU 4 (lineE 4), rU [(1, 2), (0, 1)]] μ = some (.non, μ) := by
  have r := mem_line (row := [(1, 2), (0, 1)]) (by decide) (by decide)
  have h := first_full_ok (k + 4) μ T4 r
  rw [firstB_eq (r.inN T4), show firstB 4 [(1, 2), (0, 1)] = none by decide +kernel] at h
  exact h
theorem c5 : runF defs (k + 11) 20 [tU 4 (lineE 4), rU [(1, 2), (0, 1)]] μ = some (rU [(0, 1), (1, 2)], μ) :=
  turned_ok (k + 4) μ T4 (mem_line (row := [(1, 2), (0, 1)]) (by decide) (by decide))
theorem c6 : runF defs (k + 11) 21 [tU 4 (lineE 4), rU [(0, 1), (0, 1), (1, 2)]] μ = some (lU [1], μ) := by
  have r := mem_line (row := [(0, 1), (0, 1), (1, 2)]) (by decide) (by decide)
  have h := idle_calls_ok (k + 4) μ T4 r
  rw [idlesB_eq (r.inN T4), show idlesB 4 [(0, 1), (0, 1), (1, 2)] = [1] by decide +kernel] at h
  exact h
def restB (n : Nat) (row : List (Nat × Nat)) : List (Nat × Nat) := (((List.range row.length).zip row).filter fun q => decide (q.1 ∉ idlesB n row)).map (·.2)
theorem restB_eq {n : Nat} {row : List (Nat × Nat)} (hr : InN n row) : rest n row = restB n row := by
  unfold rest restB
  rw [idlesB_eq hr]
theorem c7 : runF defs (k + 11) 22 [tU 4 (lineE 4), rU [(0, 1), (0, 1)]] μ = some (rU [(0, 1)], μ) := by
  have r := mem_line (row := [(0, 1), (0, 1)]) (by decide) (by decide)
  have h := taught_ok (k + 4) μ T4 r
  rw [restB_eq (r.inN T4), show restB 4 [(0, 1), (0, 1)] = [(0, 1)] by decide +kernel] at h
  exact h
theorem c8 : runF defs (k + 11) 16 [tU 4 (lineE 4), rU [(1, 0)]] μ = some (.bl false, μ) := by
  have h := is_row_ok (k + 6) sz201 (pl_row (d := 0) (row := [(1, 0)]) (by omega) (by decide)) T4 μ
  rw [show okRow 4 (lineE 4) (rU [(1, 0)]) = false by decide +kernel] at h
  exact h
theorem rw1 : Row 1 [] [] := ⟨by simp, by simp⟩
theorem rw2 : Row 2 [] [] := ⟨by simp, by simp⟩
theorem c9 : runF defs (k + 11) 18 [tU 1 [], rU []] μ = some (.bl true, μ) := by
  have h := is_full_ok (k + 4) μ T1 rw1
  rw [fullC_eq (rw1.inN T1), show fullC 1 [] = true by decide +kernel] at h
  exact h
theorem c10 : runF defs (k + 11) 19 [tU 1 [], rU []] μ = some (I 0, μ) := by
  have h := first_full_ok (k + 4) μ T1 rw1
  rw [firstB_eq (rw1.inN T1), show firstB 1 [] = some 0 by decide +kernel] at h
  exact h
theorem c11 : runF defs (k + 11) 18 [tU 2 [], rU []] μ = some (.bl false, μ) := by
  have h := is_full_ok (k + 4) μ T2 rw2
  rw [fullC_eq (rw2.inN T2), show fullC 2 [] = false by decide +kernel] at h
  exact h
theorem c12 : runF defs (k + 11) 17 [tU 2 [], rU []] μ = some (.tup [lU [0], lU [1]], μ) := by
  have h := known_behind_ok (k + 4) μ T2 rw2
  rw [kT, tabB_eq (rw2.inN T2), show tabB 2 [] = [[0], [1]] by decide +kernel] at h
  exact h
theorem c13 : runF defs (k + 11) 22 [tU 4 (lineE 4), rU []] μ = some (rU [], μ) := by
  have r := mem_line (row := []) (by decide) (by decide)
  have h := taught_ok (k + 4) μ T4 r
  rw [restB_eq (r.inN T4), show restB 4 [] = [] by decide +kernel] at h
  exact h
end
abbrev sL (x2 x3 x4 x5 : Option U) : R.Env := [some (.scr []), some (.ob 0), x2, x3, x4, x5, some (tU 4 ring4), some (tU 4 (lineE 4))]
section
variable (k : Nat) {cal : Nat → List U → Mu → Option (U × Mu)} {n0 : Nat} {σ : R.Env} {μ : Mu} (h6 : σ[6]? = some (some (tU 4 ring4))) (h7 : σ[7]? = some (some (tU 4 (lineE 4))))
include h6 h7
theorem a1_ev : evalE (runF defs (k + 11)) n0 (.lst false [(.call 17 [(.var 7), (.tup [(.tup [(.int 0), (.int 1)]), (.tup [(.int 1), (.int 2)])])]), (.call 18 [(.var 6), (.tup [(.tup [(.int 0), (.int 1)]), (.tup [(.int 2), (.int 3)]), (.tup [(.int 1), (.int 2)]), (.tup [(.int 0), (.int 3)])])]), (.call 19 [(.var 6), (.tup [(.tup [(.int 0), (.int 1)]), (.tup [(.int 2), (.int 3)]), (.tup [(.int 1), (.int 2)]), (.tup [(.int 0), (.int 3)])])])]) σ μ = some (.lst A1, μ) :=
  ev_lst (us := A1) (ev_lcons (ev_call (ev_l2 (ev_var h7) pr2) (c1 k μ)) (ev_l2 (ev_call (ev_l2 (ev_var h6) pr4) (c2 k μ)) (ev_call (ev_l2 (ev_var h6) pr4) (c3 k μ)))) (show 3 ≤ SZ by decide)
theorem a2_ev : evalE (runF defs (k + 11)) n0 (.lst false [(.call 19 [(.var 7), (.tup [(.tup [(.int 1), (.int 2)]), (.tup [(.int 0), (.int 1)])])]), (.call 20 [(.var 7), (.tup [(.tup [(.int 1), (.int 2)]), (.tup [(.int 0), (.int 1)])])]), (.call 21 [(.var 7), (.tup [(.tup [(.int 0), (.int 1)]), (.tup [(.int 0), (.int 1)]), (.tup [(.int 1), (.int 2)])])]), (.call 22 [(.var 7), (.tup [(.tup [(.int 0), (.int 1)]), (.tup [(.int 0), (.int 1)])])])]) σ μ = some (.lst A2, μ) :=
  ev_lst (us := A2) (ev_lcons (ev_call (ev_l2 (ev_var h7) pr2) (c4 k μ)) (ev_lcons (ev_call (ev_l2 (ev_var h7) pr2) (c5 k μ)) (ev_l2 (ev_call (ev_l2 (ev_var h7) pr3) (c6 k μ)) (ev_call (ev_l2 (ev_var h7) pr2) (c7 k μ))))) (show 4 ≤ SZ by decide)
theorem a3_ev : evalE (runF defs (k + 11)) n0 (.lst false [(.call 16 [(.var 7), (.tup [(.tup [(.int 1), (.int 0)])])]), (.call 18 [(.tup [(.int 1), (.tup [])]), (.tup [])]), (.call 19 [(.tup [(.int 1), (.tup [])]), (.tup [])]), (.call 18 [(.tup [(.int 2), (.tup [])]), (.tup [])]), (.call 17 [(.tup [(.int 2), (.tup [])]), (.tup [])]), (.call 22 [(.var 7), (.tup [])])]) σ μ = some (.lst A3, μ) :=
  ev_lst (us := A3) (ev_lcons (ev_call (ev_l2 (ev_var h7) pr1) (c8 k μ)) (ev_lcons (ev_call (ev_l2 e1 e0) (c9 k μ)) (ev_lcons (ev_call (ev_l2 e1 e0) (c10 k μ)) (ev_lcons (ev_call (ev_l2 e1 e0) (c11 k μ)) (ev_l2 (ev_call (ev_l2 e1 e0) (c12 k μ)) (ev_call (ev_l2 (ev_var h7) e0) (c13 k μ))))))) (show 6 ≤ SZ by decide)
end
theorem due_ev {cal : Nat → List U → Mu → Option (U × Mu)} {n0 : Nat} {σ : R.Env} {μ : Mu} : evalE cal n0 (.lst false [(.tup [(.tup [(.int 0), (.int 1)]), (.tup [(.int 0), (.int 1), (.int 2)]), (.tup [(.int 0), (.int 1), (.int 2)]), (.tup [(.int 3)])]), (.bl true), (.int 3), .non, (.tup [(.tup [(.int 0), (.int 1)]), (.tup [(.int 1), (.int 2)])]), (.tup [(.int 1)]), (.tup [(.tup [(.int 0), (.int 1)])]), (.bl false), (.bl true), (.int 0), (.bl false), (.tup [(.tup [(.int 0)]), (.tup [(.int 1)])]), (.tup [])]) σ μ = some (.lst (A1 ++ A2 ++ A3), μ) := by
  have t3 : evalE cal n0 (.tup [(.int 0), (.int 1), (.int 2)]) σ μ = some (.tup [.int 0, .int 1, .int 2], μ) := ev_tup (ev_lcons ev_int (ev_l2 ev_int ev_int)) (show 3 ≤ SZ by decide)
  have o1 : ∀ {i : Int}, evalE cal n0 (.tup [(.int i)]) σ μ = some (.tup [.int i], μ) := ev_tup (ev_l1 ev_int) (show 1 ≤ SZ by decide)
  exact ev_lst (us := A1 ++ A2 ++ A3) (ev_lcons (ev_tup (ev_lcons p2 (ev_lcons t3 (ev_l2 t3 o1))) (show 4 ≤ SZ by decide)) (ev_lcons ev_bl (ev_lcons ev_int (ev_lcons ev_non (ev_lcons pr2 (ev_lcons o1 (ev_lcons pr1 (ev_lcons ev_bl (ev_lcons ev_bl (ev_lcons ev_int (ev_lcons ev_bl (ev_l2 (ev_tup (ev_l2 o1 o1) (show 2 ≤ SZ by decide)) e0)))))))))))) (show 13 ≤ SZ by decide)
theorem due_pl : Pl 201 3 (.lst (A1 ++ A2 ++ A3)) := by
  have pi : ∀ l : List Nat, l.length ≤ 201 → ∀ d, Pl 201 (d + 1) (lU l) := fun l h d => (pl_ints h).1
  refine .lst (show 13 ≤ 201 by decide) fun u hu => ?_
  simp only [A1, A2, A3, List.cons_append, List.nil_append, List.mem_cons, List.not_mem_nil, or_false] at hu
  rcases hu with rfl | rfl | rfl | rfl | rfl | rfl | rfl | rfl | rfl | rfl | rfl | rfl | rfl
  · exact .tup (by decide) fun u hu => by
      simp only [List.mem_cons, List.not_mem_nil, or_false] at hu
      rcases hu with rfl | rfl | rfl | rfl <;> exact pi _ (by decide) 0
  · exact .bl _ _
  · exact .int _ _
  · exact .non _
  · exact pl_row (by omega) (by decide)
  · exact pi _ (by decide) 1
  · exact pl_row (by omega) (by decide)
  · exact .bl _ _
  · exact .bl _ _
  · exact .int _ _
  · exact .bl _ _
  · exact .tup (by decide) fun u hu => by
      simp only [List.mem_cons, List.not_mem_nil, or_false] at hu
      rcases hu with rfl | rfl <;> exact pi _ (by decide) 0
  · exact pl_row (by omega) (by decide)
/-! ### the turns -/
theorem law_turn (k : Nat) (S : U) {c : U} (C : Cup c) (x2 x5 : Option U) : ∃ (c' : U) (y5 : Option U), exL (runF defs (k + 13)) 0 lb_law_0 [some S, some (.ob 0), x2, none, none, x5, none, none] [c] = some (.nx [some S, some (.ob 0), x2, none, none, y5, none, none] [c']) ∧ Cup c' := by
  obtain ⟨r, c1, er, hr, C1⟩ := roll_ok (k + 12) [] C (many := 6) (by omega) (by omega)
  obtain ⟨c2, es, ef, C2, T⟩ := law_friends_ok (k + 9) [] C1 (n := 1 + r) (by omega) (by omega) (more := 4) (by omega)
  obtain ⟨c3, es3, ea, C3, T3⟩ := apart_ok (k + 11) [] C2 T
  obtain ⟨w, c4, es4, hw, C4⟩ := some_ok (k + 11) [] C3 (u := .lst [tU (1 + r) es, tU (1 + r) es, tU (1 + r) es3]) (xs := [tU (1 + r) es, tU (1 + r) es, tU (1 + r) es3]) (.inl rfl) (fun _ => trivial) (by simp) (by simp) fun x hx c' => by
    simp only [List.mem_cons, List.not_mem_nil, or_false] at hx
    rcases hx with rfl | rfl | rfl
    · exact frz_tU _ _ _ T.len
    · exact frz_tU _ _ _ T.len
    · exact frz_tU _ _ _ T3.len
  obtain ⟨e4, T4, rfl⟩ : ∃ e4, Town (1 + r) e4 ∧ w = tU (1 + r) e4 := by
    simp only [List.mem_cons, List.not_mem_nil, or_false] at hw
    rcases hw with rfl | rfl | rfl
    · exact ⟨_, T, rfl⟩
    · exact ⟨_, T, rfl⟩
    · exact ⟨_, T3, rfl⟩
  obtain ⟨m, c5, em, hm, C5⟩ := some_ok (k + 11) [] C4 (u := .lst [I 3, I 9, I 20]) (xs := [I 3, I 9, I 20]) (.inl rfl) (fun _ => trivial) (by simp) (by simp) fun x hx c' => by
    simp only [List.mem_cons, List.not_mem_nil, or_false] at hx
    rcases hx with rfl | rfl | rfl <;> rfl
  obtain ⟨mm, h20, rfl⟩ : ∃ mm, mm ≤ 20 ∧ m = I mm := by
    simp only [List.mem_cons, List.not_mem_nil, or_false] at hm
    rcases hm with rfl | rfl | rfl
    · exact ⟨3, by omega, rfl⟩
    · exact ⟨9, by omega, rfl⟩
    · exact ⟨20, by omega, rfl⟩
  obtain ⟨c6, row, ew, C6, rw6, hl⟩ := row_ok (k + 10) [] C5 T4 h20
  obtain ⟨c7, eright, C7⟩ := right_ok (k + 1) C6 T4 rw6 hl
  refine ⟨c7, some (tU (1 + r) e4), ?_, C7⟩
  unfold lb_law_0
  have b1 : evalE (runF defs (k + 13)) 0 (.bin false .add (.int 1) (.call 24 [(.var 1), (.int 6)])) [some S, some (.ob 0), x2, none, none, x5, none, none] [c] = some (I (1 + r), [c1]) := by
    refine ev_bin (u := .int 1) (v := I r) ev_int (ev_call (us := [.ob 0, I 6]) (ev_l2 (ev_var rfl) ev_int) er) ?_
    simp only [evBin]
    rw [show ((1 : Int) + (r : Int)) = ((1 + r : Nat) : Int) by omega]
  refine (ex_seq (ex_set (u := tU (1 + r) es) (μ' := [c2]) (ev_call (us := [.ob 0, I (1 + r), I 4]) (μ1 := [c1]) (ev_lcons (ev_var rfl) (ev_l2 b1 ev_int)) ef))).trans ?_
  refine (ex_seq (ex_set (u := tU (1 + r) e4) (μ' := [c4]) (ev_call (us := [.ob 0, .lst [tU (1 + r) es, tU (1 + r) es, tU (1 + r) es3]]) (μ1 := [c3]) (ev_l2 (ev_var rfl) (ev_lst (us := [tU (1 + r) es, tU (1 + r) es, tU (1 + r) es3]) (ev_lcons (ev_var rfl) (ev_l2 (ev_var rfl) (ev_call (us := [.ob 0, tU (1 + r) es]) (ev_l2 (ev_var rfl) (ev_var rfl)) ea))) (show 3 ≤ SZ by decide))) es4))).trans ?_
  refine (ex_seq ((ex_ifF (u := .bl false) (μ1 := [c7]) (ev_not (d := true) (ev_call (us := [.ob 0, tU (1 + r) e4, rU row]) (μ1 := [c6]) (ev_lcons (ev_var rfl) (ev_l2 (ev_var rfl) (ev_call (us := [.ob 0, tU (1 + r) e4, I mm]) (μ1 := [c5]) (ev_lcons (ev_var rfl) (ev_l2 (ev_var rfl) (ev_call (us := [.ob 0, .lst [I 3, I 9, I 20]]) (ev_l2 (ev_var rfl) (ev_lst (us := [I 3, I 9, I 20]) (ev_lcons ev_int (ev_l2 ev_int ev_int)) (show 3 ≤ SZ by decide))) em))) ew))) eright) rfl) rfl).trans ex_nil)).trans ?_
  exact ex_nil
theorem law_run (ns : List Int) (h : ns.length ≤ 63) : runF defs 100 42 [.scr ns] [] = some (.bl true, []) := by
  obtain ⟨c, C, ec⟩ := cup_ok 98 ns h
  obtain ⟨σ', μ', e, y2, y5, c', rfl, rfl, C'⟩ := forL_inv0 (step := fstep (runF defs 99) 0 (.slot 2) lb_law_0) (xs := (List.range 6).map I) (fun _ σ μ => ∃ (y2 y5 : Option U) (c : U), σ = [some (.scr ns), some (.ob 0), y2, none, none, y5, none, none] ∧ μ = [c] ∧ Cup c) (σ := [some (.scr ns), some (.ob 0), none, none, none, none, none, none]) (μ := [c]) ⟨none, none, c, rfl, rfl, C⟩ (fun i x σ μ hx hp => by
    obtain ⟨y2, y5, c, rfl, rfl, C⟩ := hp
    obtain ⟨c', y5', e, C'⟩ := law_turn 86 (.scr ns) C (some x) y5
    exact ⟨_, _, .inl e, some x, y5', c', rfl, rfl, C'⟩)
  obtain ⟨c2, eg⟩ := great_ok 87 C'
  rw [run_law]
  have b : exL (runF defs 99) 0 b_law [some (.scr ns), none, none, none, none, none, none, none] [] = some (.rt (.bl true) [c2]) := by
    unfold b_law
    refine (ex_seq (ex_set (u := .ob 0) (μ' := [c]) (ev_call (ev_l1 (ev_var rfl)) ec))).trans ?_
    refine (ex_seq (((show exS _ _ l_law_0 _ _ = _ from ex_for (us := [I 6]) (xs := (List.range 6).map I) (ev_l1 ev_int) (walk_rng (by omega))).trans e))).trans ?_
    refine (ex_seq (ex_par (us := [tU 4 ring4, tU 4 (lineE 4)]) (μ' := [c']) (ev_l2 (ev_call (ev_l1 ev_int) (ring_ok 98 [c'])) (ev_call (us := [I 4]) (ev_l1 ev_int) (line_ok 98 [c'] (n := 4) (by omega) (by omega)))) rfl)).trans ?_
    refine (ex_seq (ex_set (a1_ev 88 rfl rfl))).trans ?_
    refine (ex_seq (ex_set (ev_addL (xs := A1) (ys := A2) (ev_var rfl) (a2_ev 88 rfl rfl) (show 7 ≤ SZ by decide)))).trans ?_
    refine (ex_seq (ex_set (ev_addL (xs := A1 ++ A2) (ys := A3) (ev_var rfl) (a3_ev 88 rfl rfl) (show 13 ≤ SZ by decide)))).trans ?_
    refine (ex_seq (ex_set due_ev)).trans ?_
    have l := like_pl sz201 due_pl 94 [c'] (by decide)
    exact ex_ret (ev_andT (ev_call (us := [.lst (A1 ++ A2 ++ A3), .lst (A1 ++ A2 ++ A3)]) (ev_l2 (ev_var rfl) (ev_var rfl)) l) (ev_b1 (ev_call (us := [.ob 0]) (ev_l1 (ev_var rfl)) eg)))
  exact (if_pos rfl).trans (run_rt b (fin_cut rfl rfl))
end K04

set_option Elab.async false
set_option linter.all false
set_option maxRecDepth 1000000
set_option maxHeartbeats 4000000
namespace K04
open PySem PySem.Spec PyProof.Rows L2 R
def p_is_whole (g : Str) (s : Stmt) : Pd := ⟨g, "is_whole", s, ["value", "low", "high"], ["value", "low", "high"], d_is_whole⟩
def p_is_tuple_of (g : Str) (s : Stmt) : Pd := ⟨g, "is_tuple_of", s, ["value", "low", "high"], ["value", "low", "high"], d_is_tuple_of⟩
def p_is_ascending (g : Str) (s : Stmt) : Pd := ⟨g, "is_ascending", s, ["values", "one", "other"], ["values"], d_is_ascending⟩
def p_are_wholes (g : Str) (s : Stmt) : Pd := ⟨g, "are_wholes", s, ["value", "many", "low", "high", "one"], ["value", "many", "low", "high"], d_are_wholes⟩
def p_is_pair_of (g : Str) (s : Stmt) : Pd := ⟨g, "is_pair_of", s, ["value", "houses"], ["value", "houses"], d_is_pair_of⟩
def p_are_friends (g : Str) (s : Stmt) : Pd := ⟨g, "are_friends", s, ["value", "pair"], ["value"], d_are_friends⟩
def p_need_few (g : Str) (s : Stmt) : Pd := ⟨g, "need_few", s, ["value"], ["value"], d_need_few⟩
def p_is_pair_in (g : Str) (s : Stmt) : Pd := ⟨g, "is_pair_in", s, ["friends", "value"], ["friends", "value"], d_is_pair_in⟩
def p_fits_row (g : Str) (s : Stmt) : Pd := ⟨g, "fits_row", s, ["friends", "value", "call"], ["friends", "value"], d_fits_row⟩
def p_need_row (g : Str) (s : Stmt) : Pd := ⟨g, "need_row", s, ["friends", "value"], ["friends", "value"], d_need_row⟩
def p_need_both (g : Str) (s : Stmt) : Pd := ⟨g, "need_both", s, ["friends", "row"], ["friends", "row"], d_need_both⟩
def p_steps_of (g : Str) (s : Stmt) : Pd := ⟨g, "steps_of", s, ["houses", "row", "found", "one", "other", "known", "house"], ["houses", "row"], d_steps_of⟩
def p_all_of (g : Str) (s : Stmt) : Pd := ⟨g, "all_of", s, ["houses"], ["houses"], d_all_of⟩
def p_is_full_in (g : Str) (s : Stmt) : Pd := ⟨g, "is_full_in", s, ["houses", "row", "known"], ["houses", "row"], d_is_full_in⟩
def p_houses_of (g : Str) (s : Stmt) : Pd := ⟨g, "houses_of", s, ["bits", "house"], ["bits"], d_houses_of⟩
def p_idle_in (g : Str) (s : Stmt) : Pd := ⟨g, "idle_in", s, ["friends", "row", "steps", "at"], ["friends", "row"], d_idle_in⟩
def p_is_row (g : Str) (s : Stmt) : Pd := ⟨g, "is_row", s, ["friends", "value"], ["friends", "value"], d_is_row⟩
def p_known_behind (g : Str) (s : Stmt) : Pd := ⟨g, "known_behind", s, ["friends", "row", "bits"], ["friends", "row"], d_known_behind⟩
def p_is_full (g : Str) (s : Stmt) : Pd := ⟨g, "is_full", s, ["friends", "row"], ["friends", "row"], d_is_full⟩
def p_first_full (g : Str) (s : Stmt) : Pd := ⟨g, "first_full", s, ["friends", "row", "found", "at", "known"], ["friends", "row"], d_first_full⟩
def p_turned_row (g : Str) (s : Stmt) : Pd := ⟨g, "turned_row", s, ["friends", "row"], ["friends", "row"], d_turned_row⟩
def p_idle_calls (g : Str) (s : Stmt) : Pd := ⟨g, "idle_calls", s, ["friends", "row"], ["friends", "row"], d_idle_calls⟩
def p_taught_row (g : Str) (s : Stmt) : Pd := ⟨g, "taught_row", s, ["friends", "row", "idle", "at", "call"], ["friends", "row"], d_taught_row⟩
def p__law_cup (g : Str) (s : Stmt) : Pd := ⟨g, "_law_cup", s, ["script", "cell"], ["script"], d__law_cup⟩
def p__law_roll (g : Str) (s : Stmt) : Pd := ⟨g, "_law_roll", s, ["cup", "many", "deep", "found"], ["cup", "many"], d__law_roll⟩
def p__law_some (g : Str) (s : Stmt) : Pd := ⟨g, "_law_some", s, ["cup", "things"], ["cup", "things"], d__law_some⟩
def p__law_sort (g : Str) (s : Stmt) : Pd := ⟨g, "_law_sort", s, ["value"], ["value"], d__law_sort⟩
def p__law_like (g : Str) (s : Stmt) : Pd := ⟨g, "_law_like", s, ["one", "other", "sort", "first", "second"], ["one", "other"], d__law_like⟩
def p__law_tree (g : Str) (s : Stmt) : Pd := ⟨g, "_law_tree", s, ["cup", "houses", "turn", "pairs", "at", "left", "names", "one", "other"], ["cup", "houses"], d__law_tree⟩
def p__law_friends (g : Str) (s : Stmt) : Pd := ⟨g, "_law_friends", s, ["cup", "houses", "more", "pairs", "turn", "one", "other", "pair"], ["cup", "houses", "more"], d__law_friends⟩
def p__law_apart (g : Str) (s : Stmt) : Pd := ⟨g, "_law_apart", s, ["cup", "friends", "pair"], ["cup", "friends"], d__law_apart⟩
def p__law_row (g : Str) (s : Stmt) : Pd := ⟨g, "_law_row", s, ["cup", "friends", "many", "turn"], ["cup", "friends", "many"], d__law_row⟩
def p__law_known (g : Str) (s : Stmt) : Pd := ⟨g, "_law_known", s, ["houses", "row", "known", "one", "other", "both", "house", "own"], ["houses", "row"], d__law_known⟩
def p__law_is_full (g : Str) (s : Stmt) : Pd := ⟨g, "_law_is_full", s, ["houses", "row", "own"], ["houses", "row"], d__law_is_full⟩
def p__law_is_row (g : Str) (s : Stmt) : Pd := ⟨g, "_law_is_row", s, ["friends", "value", "call", "house"], ["friends", "value"], d__law_is_row⟩
def p__law_bent (g : Str) (s : Stmt) : Pd := ⟨g, "_law_bent", s, ["cup", "value", "some", "at", "way"], ["cup", "value"], d__law_bent⟩
def p__law_line (g : Str) (s : Stmt) : Pd := ⟨g, "_law_line", s, ["houses", "house"], ["houses"], d__law_line⟩
def p__law_ring (g : Str) (s : Stmt) : Pd := ⟨g, "_law_ring", s, ["houses", "house"], ["houses"], d__law_ring⟩
def p__law_star (g : Str) (s : Stmt) : Pd := ⟨g, "_law_star", s, ["houses", "house"], ["houses"], d__law_star⟩
def p__law_right (g : Str) (s : Stmt) : Pd := ⟨g, "_law_right", s, ["cup", "friends", "row", "houses", "told", "back", "at", "rest", "values", "value", "known", "turned", "idle", "first", "own", "call", "one", "other", "news"], ["cup", "friends", "row"], d__law_right⟩
def p__law_pairs (g : Str) (s : Stmt) : Pd := ⟨g, "_law_pairs", s, ["known", "found", "house", "own", "other"], ["known"], d__law_pairs⟩
def p__law_great_right (g : Str) (s : Stmt) : Pd := ⟨g, "_law_great_right", s, ["cup", "houses", "there", "known", "told", "many", "line", "star", "house"], ["cup"], d__law_great_right⟩
def p_law (g : Str) (s : Stmt) : Pd := ⟨g, "law", s, ["script", "cup", "turn", "told", "due", "friends", "ring", "line"], ["script"], d_law⟩
def top (i : Nat) : Stmt := PySem.Challenge.pw_messengers_k04_whole_call_rows.main.body.getD i (.Pass ⟨0, 0, 0, 0⟩)
def pds : List Pd := p_is_whole "is_whole" (top 5) :: p_is_tuple_of "is_tuple_of" (top 6) :: p_is_ascending "is_ascending" (top 7) :: p_are_wholes "are_wholes" (top 8) :: p_is_pair_of "is_pair_of" (top 12) :: p_are_friends "are_friends" (top 13) :: p_need_few "need_few" (top 17) :: p_is_pair_in "is_pair_in" (top 18) :: p_fits_row "fits_row" (top 19) :: p_need_row "need_row" (top 20) :: p_need_both "need_both" (top 21) :: p_steps_of "steps_of" (top 22) :: p_all_of "all_of" (top 23) :: p_is_full_in "is_full_in" (top 24) :: p_houses_of "houses_of" (top 25) :: p_idle_in "idle_in" (top 26) :: p_is_row "is_row" (top 27) :: p_known_behind "known_behind" (top 28) :: p_is_full "is_full" (top 29) :: p_first_full "first_full" (top 30) :: p_turned_row "turned_row" (top 31) :: p_idle_calls "idle_calls" (top 32) :: p_taught_row "taught_row" (top 33) :: p__law_cup "_law_cup" (top 35) :: p__law_roll "_law_roll" (top 36) :: p__law_some "_law_some" (top 37) :: p__law_sort "_law_sort" (top 38) :: p__law_like "_law_like" (top 39) :: p__law_tree "_law_tree" (top 40) :: p__law_friends "_law_friends" (top 41) :: p__law_apart "_law_apart" (top 42) :: p__law_row "_law_row" (top 43) :: p__law_known "_law_known" (top 44) :: p__law_is_full "_law_is_full" (top 45) :: p__law_is_row "_law_is_row" (top 46) :: p__law_bent "_law_bent" (top 47) :: p__law_line "_law_line" (top 48) :: p__law_ring "_law_ring" (top 49) :: p__law_star "_law_star" (top 50) :: p__law_right "_law_right" (top 51) :: p__law_pairs "_law_pairs" (top 52) :: p__law_great_right "_law_great_right" (top 53) :: p_law "law" (top 54) :: []
theorem binds : BdAll pds := ⟨fun _ _ _ _ _ _ us hl => match us, hl with | [_, _, _], _ => rfl, fun _ _ _ _ _ _ us hl => match us, hl with | [_, _, _], _ => rfl, fun _ _ _ _ _ _ us hl => match us, hl with | [_], _ => rfl, fun _ _ _ _ _ _ us hl => match us, hl with | [_, _, _, _], _ => rfl, fun _ _ _ _ _ _ us hl => match us, hl with | [_, _], _ => rfl, fun _ _ _ _ _ _ us hl => match us, hl with | [_], _ => rfl, fun _ _ _ _ _ _ us hl => match us, hl with | [_], _ => rfl, fun _ _ _ _ _ _ us hl => match us, hl with | [_, _], _ => rfl, fun _ _ _ _ _ _ us hl => match us, hl with | [_, _], _ => rfl, fun _ _ _ _ _ _ us hl => match us, hl with | [_, _], _ => rfl, fun _ _ _ _ _ _ us hl => match us, hl with | [_, _], _ => rfl, fun _ _ _ _ _ _ us hl => match us, hl with | [_, _], _ => rfl, fun _ _ _ _ _ _ us hl => match us, hl with | [_], _ => rfl, fun _ _ _ _ _ _ us hl => match us, hl with | [_, _], _ => rfl, fun _ _ _ _ _ _ us hl => match us, hl with | [_], _ => rfl, fun _ _ _ _ _ _ us hl => match us, hl with | [_, _], _ => rfl, fun _ _ _ _ _ _ us hl => match us, hl with | [_, _], _ => rfl, fun _ _ _ _ _ _ us hl => match us, hl with | [_, _], _ => rfl, fun _ _ _ _ _ _ us hl => match us, hl with | [_, _], _ => rfl, fun _ _ _ _ _ _ us hl => match us, hl with | [_, _], _ => rfl, fun _ _ _ _ _ _ us hl => match us, hl with | [_, _], _ => rfl, fun _ _ _ _ _ _ us hl => match us, hl with | [_, _], _ => rfl, fun _ _ _ _ _ _ us hl => match us, hl with | [_, _], _ => rfl, fun _ _ _ _ _ _ us hl => match us, hl with | [_], _ => rfl, fun _ _ _ _ _ _ us hl => match us, hl with | [_, _], _ => rfl, fun _ _ _ _ _ _ us hl => match us, hl with | [_, _], _ => rfl, fun _ _ _ _ _ _ us hl => match us, hl with | [_], _ => rfl, fun _ _ _ _ _ _ us hl => match us, hl with | [_, _], _ => rfl, fun _ _ _ _ _ _ us hl => match us, hl with | [_, _], _ => rfl, fun _ _ _ _ _ _ us hl => match us, hl with | [_, _, _], _ => rfl, fun _ _ _ _ _ _ us hl => match us, hl with | [_, _], _ => rfl, fun _ _ _ _ _ _ us hl => match us, hl with | [_, _, _], _ => rfl, fun _ _ _ _ _ _ us hl => match us, hl with | [_, _], _ => rfl, fun _ _ _ _ _ _ us hl => match us, hl with | [_, _], _ => rfl, fun _ _ _ _ _ _ us hl => match us, hl with | [_, _], _ => rfl, fun _ _ _ _ _ _ us hl => match us, hl with | [_, _], _ => rfl, fun _ _ _ _ _ _ us hl => match us, hl with | [_], _ => rfl, fun _ _ _ _ _ _ us hl => match us, hl with | [_], _ => rfl, fun _ _ _ _ _ _ us hl => match us, hl with | [_], _ => rfl, fun _ _ _ _ _ _ us hl => match us, hl with | [_, _, _], _ => rfl, fun _ _ _ _ _ _ us hl => match us, hl with | [_], _ => rfl, fun _ _ _ _ _ _ us hl => match us, hl with | [_], _ => rfl, fun _ _ _ _ _ _ us hl => match us, hl with | [_], _ => rfl, True.intro⟩
def loose0 : List Str := ["LetterError", "InvalidFriends", "InvalidRow", "is_whole", "is_tuple_of", "is_ascending", "are_wholes", "HOUSES_friends", "PAIRS", "is_pair_of", "are_friends", "HOUSES_callrows", "CALLS", "need_few", "is_pair_in", "fits_row", "need_row", "need_both", "steps_of", "all_of", "is_full_in", "houses_of", "idle_in", "is_row", "known_behind", "is_full", "first_full", "turned_row", "idle_calls", "taught_row"]
def loose1 : List Str := ["_law_cup", "_law_roll", "_law_some", "_law_sort", "_law_like", "_law_tree", "_law_friends", "_law_apart", "_law_row", "_law_known", "_law_is_full", "_law_is_row", "_law_bent", "_law_line", "_law_ring", "_law_star", "_law_right", "_law_pairs", "_law_great_right"]
def loose : List Str := loose0 ++ loose1
def lawAt : Nat := 54
def lawIx : Nat := 42
theorem law_true : ∀ ns : List Int, ns.length ≤ 63 → ∃ μ, runF (pds.map (·.df)) 100 lawIx [.scr ns] [] = some (.bl true, μ) := fun ns h => ⟨[], law_run ns h⟩
def fns : List (Str × Nat) := (("is_whole" : Str), (0 : Nat)) :: (("is_tuple_of" : Str), (1 : Nat)) :: (("is_ascending" : Str), (2 : Nat)) :: (("are_wholes" : Str), (3 : Nat)) :: (("is_pair_of" : Str), (4 : Nat)) :: (("are_friends" : Str), (5 : Nat)) :: (("need_few" : Str), (6 : Nat)) :: (("is_pair_in" : Str), (7 : Nat)) :: (("fits_row" : Str), (8 : Nat)) :: (("need_row" : Str), (9 : Nat)) :: (("need_both" : Str), (10 : Nat)) :: (("steps_of" : Str), (11 : Nat)) :: (("all_of" : Str), (12 : Nat)) :: (("is_full_in" : Str), (13 : Nat)) :: (("houses_of" : Str), (14 : Nat)) :: (("idle_in" : Str), (15 : Nat)) :: (("is_row" : Str), (16 : Nat)) :: (("known_behind" : Str), (17 : Nat)) :: (("is_full" : Str), (18 : Nat)) :: (("first_full" : Str), (19 : Nat)) :: (("turned_row" : Str), (20 : Nat)) :: (("idle_calls" : Str), (21 : Nat)) :: (("taught_row" : Str), (22 : Nat)) :: (("_law_cup" : Str), (23 : Nat)) :: (("_law_roll" : Str), (24 : Nat)) :: (("_law_some" : Str), (25 : Nat)) :: (("_law_sort" : Str), (26 : Nat)) :: (("_law_like" : Str), (27 : Nat)) :: (("_law_tree" : Str), (28 : Nat)) :: (("_law_friends" : Str), (29 : Nat)) :: (("_law_apart" : Str), (30 : Nat)) :: (("_law_row" : Str), (31 : Nat)) :: (("_law_known" : Str), (32 : Nat)) :: (("_law_is_full" : Str), (33 : Nat)) :: (("_law_is_row" : Str), (34 : Nat)) :: (("_law_bent" : Str), (35 : Nat)) :: (("_law_line" : Str), (36 : Nat)) :: (("_law_ring" : Str), (37 : Nat)) :: (("_law_star" : Str), (38 : Nat)) :: (("_law_right" : Str), (39 : Nat)) :: (("_law_pairs" : Str), (40 : Nat)) :: (("_law_great_right" : Str), (41 : Nat)) :: (("law" : Str), (42 : Nat)) :: []
def nums : List (Str × Int) := (("HOUSES_friends" : Str), (60 : Int)) :: (("PAIRS" : Str), (400 : Int)) :: (("HOUSES_callrows" : Str), (12 : Int)) :: (("CALLS" : Str), (200 : Int)) :: []
def bns : List Str := ["len", "int", "abs", "all", "min", "max", "range", "enumerate", "zip", "list", "tuple", "sorted", "dict", "isinstance", "bool", "str"]
end K04
set_option maxHeartbeats 0
namespace K04
open PySem PySem.Spec PyProof.Rows L2 R
theorem zFnsOk : fns.all (fun p => decide ((pds[p.2]?).map (·.glob) = some p.1)) = true := by kernel_rfl
theorem zChk (fa : Nat → Option Addr) : pds.all (pdC ⟨fa, fns, nums, bns⟩) = true := by kernel_rfl
abbrev zRow : PySem.W.OpenRow := PySem.W.OpenLaw.row PySem.Challenge.rw_messengers_k04_whole_call_rows
def zFacts : List He.Fa := factsOf fns nums bns
def zFnd : List He.DefD := fnD pds
abbrev zHk : PySem.W.Hook := He.hookD 4 zFacts zFnd
def zOb (s : PySem.W.SharedT) : He.AlD := He.obsDG 4 zFacts zFnd (HandSHeadRun.getT s)
theorem zObEq (s : PySem.W.SharedT) : zOb s = zHk.obs s.abs := He.obsDG_eq (HandSHeadRun.getT_eq s)
theorem zRun (w : World) : HandSHeadRun.RunEq zRow (PySem.W.view zRow.prog [lawAt]) zHk zOb 4000 loose w := by
  intro os
  kernel_rfl
end K04
open PySem PySem.W PySem.Calls PyProof.Rows
theorem PySem.Challenge.cw_messengers_k04_whole_call_rows_holds : PySem.Challenge.rw_messengers_k04_whole_call_rows.Holds := by
  w_on; o_law
  refine HandSHeadRun.head_any (r := OpenLaw.row PySem.Challenge.rw_messengers_k04_whole_call_rows) (q := view (OpenLaw.row PySem.Challenge.rw_messengers_k04_whole_call_rows).prog [K04.lawAt]) (H := K04.zHk) (ob := K04.zOb) (M := 4000) (loose := K04.loose) (d := HandSHeadRun.topDef (OpenLaw.row PySem.Challenge.rw_messengers_k04_whole_call_rows).prog K04.lawAt) (kwd := []) K04.zObEq
    (by kernel_rfl) (fun s => by kernel_rfl) K04.zRun (by kernel_rfl) (by kernel_rfl) (by kernel_rfl) (by rfl) (by first | assumption | decide +kernel) (by decide +kernel) ⟨rfl, rfl, rfl, rfl, rfl, by decide +kernel⟩ ?hw ?hc
  case hw => w_witness2
  case hc =>
    refine L2.walk_ofE (l := PySem.Challenge.rw_messengers_k04_whole_call_rows) (n := 63) (k := 100) (x := "script") (CX := C8.CX0) rfl (by decide) (by kernel_rfl) ⟨rfl, by decide, by decide⟩ ?F (fun _ _ _ _ z => z)
    intro w mg fa h Y G hmg0
    obtain ⟨K, KX, c⟩ := Y
    have hmg : mg ("law" : PySem.Str) = some (.ref fa) := by
      have e : (HandSHeadRun.topDef (OpenLaw.row PySem.Challenge.rw_messengers_k04_whole_call_rows).prog K04.lawAt).name = ("law" : PySem.Str) := by kernel_rfl
      rw [← e]
      exact hmg0
    obtain ⟨fd, hb, hF⟩ := R.law_ok (P := (PySem.Challenge.rw_messengers_k04_whole_call_rows).prog) (w := w) (L := K04.lawIx) (k := 100) KX G c K04.binds K04.zFnsOk K04.zChk (d := K04.p_law "law" (K04.top K04.lawAt)) rfl rfl rfl (by kernel_rfl) hmg K04.law_true
    exact ⟨K, fd, R.spLaw K, KX, hb, fun H a ns hl _ hS => ⟨a, ns, rfl, hS, hl, fun _ => rfl⟩, hF⟩
