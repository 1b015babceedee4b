import PyProof.Rows.All
import Wide.All
import OpenK.AllK
import Wide.FinOn
import PySem.Challenge.RW_messengers_k30_whole_doored_nets
import HandS.ForMost
import HandS.Flow
import HandS.TupAny
import HandS.Wide
import HandS.Zip
import HandS.Rev
import HandS.TupLen
import HandS.Conv
import HandS.Small
import KE.DataEq
import KE.DataAny
import KE.DataCmp
import KE.DataMinMax
import KE.DataFind
import KE.SortData
import HandS.Style
import HandS.ListItems
import KE.GoesEnum
import KE.KRevSl
import HandS.SetFor
import HandS.Strs
import HandS.TupMul
import HandS.Deep
import HandS.IsInst
import HandS.Codes
import KE.KDictSum
import HandS.Comp
import HandS.Iter
import KE.KDictKeyed
import HandS.More
import HandS.CallLocal
import HandS.Defaults
import HandS.Words
import HandS.Ends
import HandS.HeadEnd
import HandS.HeadHook1
import HandS.HeadHook2
import KE.KStateDown
import Lean
import HandS.Head0
import HandS.Head1
import HandS.Head2
set_option Elab.async false
set_option linter.all false
set_option maxRecDepth 100000
set_option maxHeartbeats 4000000
/-! R1: pure values U, the relation to V over an abstract heap, worlds and their extension -/
namespace R
open PySem PySem.Spec PyProof.Rows L2


/-- values: pure trees; ob i is the object number i of the store; fn i the def number i -/
inductive U where
  | non | bl (b : Bool) | int (i : Int) | str (x : Str)
  | tup (xs : List U) | lst (xs : List U) | dk (ks : List Key) (vs : List U) | dt (ks : List (List Key)) (vs : List U)
  | ob (i : Nat) | fn (i : Nat) | scr (ns : List Int)

abbrev Mu := List U

/-- a frozen tuple, a frozen list -/
def FT (t m : List Addr) (H : Hp) (a : Addr) (vs : List V) : Prop := H a = some (.tup vs) ∧ a ∉ m ∧ a ∉ t
def FL (t m : List Addr) (H : Hp) (a : Addr) (vs : List V) : Prop := H a = some (.lst vs) ∧ a ∉ m ∧ a ∉ t
/-- the script -/
def FS (K : PySem.W.Frag) (t m : List Addr) (H : Hp) (a : Addr) (vs : List V) : Prop :=
  (Rd H a (.lst vs) ∧ a ∉ m ∧ a ∉ t) ∨ ∃ (o : Obj) (its : Array Value) (n : Nat), K.lookup a = some o ∧ o.cls = .type "list" ∧ o.dict = none ∧ o.data = .seq its n ∧ its.size ≤ sizeLine ∧ Vals vs its.toList
theorem FT.sq {K : PySem.W.Frag} {t m H a vs} (h : FT t m H a vs) : SqT K H a vs := .inl (.inl h.1)
theorem FL.sq {K : PySem.W.Frag} {t m H a vs} (h : FL t m H a vs) : SqL K H a vs := .inl (.inl h.1)
theorem FS.sq {K t m H a vs} (h : FS K t m H a vs) : SqL K H a vs := h.elim (fun q => .inl q.1) .inr

mutual
/-- v stands for u; mutable ones are those of the list m, numbers below n -/
inductive Rp (K : PySem.W.Frag) (fa : Nat → Option Addr) (t m : List Addr) (n : Nat) (H : Hp) : U → V → Prop
  | non : Rp K fa t m n H .non .non
  | bl (b : Bool) : Rp K fa t m n H (.bl b) (.bl b)
  | int (i : Int) : Rp K fa t m n H (.int i) (.int i)
  | str (x : Str) : Rp K fa t m n H (.str x) (.str x)
  | tup {a : Addr} {vs : List V} {xs : List U} : FT t m H a vs → RpA K fa t m n H xs vs → Rp K fa t m n H (.tup xs) (.ref a)
  | lst {a : Addr} {vs : List V} {xs : List U} : FL t m H a vs → RpA K fa t m n H xs vs → Rp K fa t m n H (.lst xs) (.ref a)
  | dK {a : Addr} {kvs : List (Key × V)} {us : List U} : H a = some (.dK kvs) → a ∉ m → a ∉ t → RpA K fa t m n H us (kvs.map (·.2)) → Rp K fa t m n H (.dk (kvs.map (·.1)) us) (.ref a)
  | dT {a : Addr} {kvs : List (List Key × V)} {us : List U} : H a = some (.dT kvs) → a ∉ m → a ∉ t → RpA K fa t m n H us (kvs.map (·.2)) → Rp K fa t m n H (.dt (kvs.map (·.1)) us) (.ref a)
  | ob {i : Nat} {a : Addr} : i < n → m[i]? = some a → Rp K fa t m n H (.ob i) (.ref a)
  | fn {i : Nat} {a : Addr} : fa i = some a → Rp K fa t m n H (.fn i) (.ref a)
  | scr {a : Addr} {ns : List Int} : FS K t m H a (ns.map V.int) → Rp K fa t m n H (.scr ns) (.ref a)
inductive RpA (K : PySem.W.Frag) (fa : Nat → Option Addr) (t m : List Addr) (n : Nat) (H : Hp) : List U → List V → Prop
  | nil : RpA K fa t m n H [] []
  | cons {u : U} {v : V} {us : List U} {vs : List V} : Rp K fa t m n H u v → RpA K fa t m n H us vs → RpA K fa t m n H (u :: us) (v :: vs)
end

/-- the world may grow: new mutable ones are new addresses, what is not mutable stays -/
structure Ex (m : List Addr) (H : Hp) (m' : List Addr) (H' : Hp) : Prop where
  pre : ∃ t, m' = m ++ t
  keep : ∀ a o, H a = some o → a ∉ m → H' a = some o
  new : ∀ a, a ∈ m' → a ∉ m → H a = none

theorem Ex.refl (m : List Addr) (H : Hp) : Ex m H m H := ⟨⟨[], by simp⟩, fun _ _ h _ => h, fun a h n => absurd h n⟩
theorem Ex.sub {m H m' H'} (e : Ex m H m' H') {a : Addr} (h : a ∈ m) : a ∈ m' := by
  obtain ⟨t, rfl⟩ := e.pre; exact List.mem_append_left _ h
theorem Ex.at_ {m H m' H'} (e : Ex m H m' H') {i : Nat} {a : Addr} (h : m[i]? = some a) : m'[i]? = some a := by
  obtain ⟨t, rfl⟩ := e.pre
  have hi : i < m.length := (List.getElem?_eq_some_iff.mp h).1
  rw [List.getElem?_append_left hi]; exact h
theorem Ex.len {m H m' H'} (e : Ex m H m' H') : m.length ≤ m'.length := by
  obtain ⟨t, rfl⟩ := e.pre; simp
theorem Ex.nin {m H m' H'} (e : Ex m H m' H') {a : Addr} {o : HO} (h : H a = some o) (n : a ∉ m) : a ∉ m' := fun z => by
  have q := e.new a z n; rw [h] at q; cases q
theorem Ex.trans {m H m1 H1 m2 H2} (a : Ex m H m1 H1) (b : Ex m1 H1 m2 H2) : Ex m H m2 H2 where
  pre := by
    obtain ⟨t, rfl⟩ := a.pre; obtain ⟨t', rfl⟩ := b.pre; exact ⟨t ++ t', by simp⟩
  keep := fun c o h n => b.keep c o (a.keep c o h n) (a.nin h n)
  new := fun c h n => by
    by_cases hc : c ∈ m1
    · exact a.new c hc n
    · cases q : H c with
      | none => rfl
      | some o =>
        have q1 := a.keep c o q n
        have q2 := b.new c h hc
        rw [q1] at q2; cases q2
theorem Ex.upd {m : List Addr} {H : Hp} {p : Addr} {o : HO} (h : H p = none) : Ex m H m (upd H p o) :=
  ⟨⟨[], by simp⟩, fun a u e _ => by rw [upd_ne (ne_of_none e h)]; exact e, fun a h n => absurd h n⟩
theorem Ex.alloc {m : List Addr} {H : Hp} {p : Addr} {o : HO} (h : H p = none) : Ex m H (m ++ [p]) (L2.upd H p o) :=
  ⟨⟨[p], rfl⟩, fun a u e _ => by rw [upd_ne (ne_of_none e h)]; exact e, fun a q n => by
    rcases List.mem_append.mp q with q | q
    · exact absurd q n
    · simp at q; subst q; exact h⟩
theorem Ex.write {m : List Addr} {H : Hp} {p : Addr} {o : HO} (h : p ∈ m) : Ex m H m (L2.upd H p o) :=
  ⟨⟨[], by simp⟩, fun a u e n => by rw [upd_ne (fun z : a = p => n (by rw [z]; exact h))]; exact e, fun a h n => absurd h n⟩

section
variable {K : PySem.W.Frag} {fa : Nat → Option Addr} {t t' m m' : List Addr} {n n' : Nat} {H H' : Hp}
theorem Rd.ex (e : Ex m H m' H') {a : Addr} {o : HO} (h : Rd H a o) (n : a ∉ m) : Rd H' a o ∧ a ∉ m' := by
  rcases h with h | ⟨ob, h⟩
  · exact ⟨.inl (e.keep _ _ h n), e.nin h n⟩
  · exact ⟨.inr ⟨ob, e.keep _ _ h n⟩, e.nin h n⟩
theorem FT.ex (e : Ex m H m' H') {a vs} (h : FT t m H a vs) : FT t m' H' a vs := ⟨e.keep _ _ h.1 h.2.1, e.nin h.1 h.2.1, h.2.2⟩
theorem FL.ex (e : Ex m H m' H') {a vs} (h : FL t m H a vs) : FL t m' H' a vs := ⟨e.keep _ _ h.1 h.2.1, e.nin h.1 h.2.1, h.2.2⟩
theorem FS.ex (e : Ex m H m' H') {a vs} (h : FS K t m H a vs) : FS K t m' H' a vs := h.elim (fun q => .inl ⟨(Rd.ex e q.1 q.2.1).1, (Rd.ex e q.1 q.2.1).2, q.2.2⟩) .inr
mutual
theorem Rp.ex (e : Ex m H m' H') (hn : n ≤ n') : ∀ {u : U} {v : V}, Rp K fa t m n H u v → Rp K fa t m' n' H' u v
  | _, _, .non => .non
  | _, _, .bl b => .bl b
  | _, _, .int i => .int i
  | _, _, .str x => .str x
  | _, _, .tup h r => .tup (h.ex e) (RpA.ex e hn r)
  | _, _, .lst h r => .lst (h.ex e) (RpA.ex e hn r)
  | _, _, .dK h n z r => .dK (e.keep _ _ h n) (e.nin h n) z (RpA.ex e hn r)
  | _, _, .dT h n z r => .dT (e.keep _ _ h n) (e.nin h n) z (RpA.ex e hn r)
  | _, _, .ob hi h => .ob (Nat.lt_of_lt_of_le hi hn) (e.at_ h)
  | _, _, .fn h => .fn h
  | _, _, .scr h => .scr (h.ex e)
theorem RpA.ex (e : Ex m H m' H') (hn : n ≤ n') : ∀ {us : List U} {vs : List V}, RpA K fa t m n H us vs → RpA K fa t m' n' H' us vs
  | _, _, .nil => .nil
  | _, _, .cons h r => .cons (Rp.ex e hn h) (RpA.ex e hn r)
end
theorem RpA.length : ∀ {us : List U} {vs : List V}, RpA K fa t m n H us vs → us.length = vs.length
  | _, _, .nil => rfl
  | _, _, .cons _ r => by simp [RpA.length r]
theorem RpA.get : ∀ {us : List U} {vs : List V} {i : Nat} {u : U}, RpA K fa t m n H us vs → us[i]? = some u → ∃ v, vs[i]? = some v ∧ Rp K fa t m n H u v
  | _, _, _, _, .nil, e => by simp at e
  | _, _, 0, _, .cons h _, e => by simp at e; subst e; exact ⟨_, rfl, h⟩
  | _, _, i + 1, u, .cons _ r, e => by
    obtain ⟨v, h1, h2⟩ := RpA.get (i := i) (u := u) r (by simpa using e)
    exact ⟨v, by simpa using h1, h2⟩
theorem RpA.getV : ∀ {us : List U} {vs : List V} {i : Nat} {v : V}, RpA K fa t m n H us vs → vs[i]? = some v → ∃ u, us[i]? = some u ∧ Rp K fa t m n H u v
  | _, _, _, _, .nil, e => by simp at e
  | _, _, 0, _, .cons h _, e => by simp at e; subst e; exact ⟨_, rfl, h⟩
  | _, _, i + 1, u, .cons _ r, e => by
    obtain ⟨v, h1, h2⟩ := RpA.getV (i := i) (v := u) r (by simpa using e)
    exact ⟨v, by simpa using h1, h2⟩
theorem RpA.append : ∀ {us ys : List U} {vs ws : List V}, RpA K fa t m n H us vs → RpA K fa t m n H ys ws → RpA K fa t m n H (us ++ ys) (vs ++ ws)
  | _, _, _, _, .nil, s => s
  | _, _, _, _, .cons h r, s => .cons h (RpA.append r s)
theorem RpA.take : ∀ {us : List U} {vs : List V} (k : Nat), RpA K fa t m n H us vs → RpA K fa t m n H (us.take k) (vs.take k)
  | _, _, 0, _ => .nil
  | _, _, _ + 1, .nil => .nil
  | _, _, k + 1, .cons h r => .cons h (RpA.take k r)
theorem RpA.drop : ∀ {us : List U} {vs : List V} (k : Nat), RpA K fa t m n H us vs → RpA K fa t m n H (us.drop k) (vs.drop k)
  | _, _, 0, r => r
  | _, _, _ + 1, .nil => .nil
  | _, _, k + 1, .cons _ r => RpA.drop k r
theorem RpA.set {u : U} {v : V} (h : Rp K fa t m n H u v) : ∀ {us : List U} {vs : List V} (i : Nat), RpA K fa t m n H us vs → RpA K fa t m n H (us.set i u) (vs.set i v)
  | _, _, _, .nil => .nil
  | _, _, 0, .cons _ r => .cons h r
  | _, _, i + 1, .cons q r => .cons q (RpA.set h i r)
theorem RpA.one {u : U} {v : V} (h : Rp K fa t m n H u v) : RpA K fa t m n H [u] [v] := .cons h .nil
theorem RpA.rev : ∀ {us : List U} {vs : List V}, RpA K fa t m n H us vs → RpA K fa t m n H us.reverse vs.reverse
  | _, _, .nil => .nil
  | _, _, .cons h r => by
    rw [List.reverse_cons, List.reverse_cons]
    exact (RpA.rev r).append (.one h)
theorem RpA.rep (k : Nat) : ∀ {us : List U} {vs : List V}, RpA K fa t m n H us vs → RpA K fa t m n H (List.replicate k us).flatten (List.replicate k vs).flatten := by
  intro us vs h
  induction k with
  | zero => exact .nil
  | succ k ih => simpa [List.replicate_succ] using h.append ih
theorem RpA.ints : ∀ (is : List Int), RpA K fa t m n H (is.map U.int) (is.map V.int)
  | [] => .nil
  | i :: r => .cons (.int i) (RpA.ints r)

/-- what a mutable object holds -/
inductive Ct (K : PySem.W.Frag) (fa : Nat → Option Addr) (t m : List Addr) (n : Nat) (H : Hp) (a : Addr) : U → Prop
  | lst {vs : List V} {xs : List U} : H a = some (.lst vs) → RpA K fa t m n H xs vs → Ct K fa t m n H a (.lst xs)
  | dK {kvs : List (Key × V)} {us : List U} : H a = some (.dK kvs) → RpA K fa t m n H us (kvs.map (·.2)) → Ct K fa t m n H a (.dk (kvs.map (·.1)) us)
  | dT {kvs : List (List Key × V)} {us : List U} : H a = some (.dT kvs) → RpA K fa t m n H us (kvs.map (·.2)) → Ct K fa t m n H a (.dt (kvs.map (·.1)) us)
theorem Ct.ex (e : Ex m H m' H') (hn : n ≤ n') {a : Addr} {o : U} (ha : H' a = H a) (h : Ct K fa t m n H a o) : Ct K fa t m' n' H' a o := by
  cases h with
  | lst h r => exact .lst (ha.trans h) (r.ex e hn)
  | dK h r => exact .dK (ha.trans h) (r.ex e hn)
  | dT h r => exact .dT (ha.trans h) (r.ex e hn)

/-- the store: bs the bounds of the objects that stood at the frame's entry -/
structure Me (K : PySem.W.Frag) (fa : Nat → Option Addr) (bs : List Nat) (t m : List Addr) (H : Hp) (μ : Mu) : Prop where
  len : m.length = μ.length
  low : bs.length ≤ m.length
  nd : m.Nodup
  ct : ∀ (i : Nat) (a : Addr) (o : U), m[i]? = some a → μ[i]? = some o → Ct K fa t m (bs[i]?.getD m.length) H a o
  bd : ∀ (i b : Nat), bs[i]? = some b → b ≤ bs.length
  tt : ∀ a ∈ t, a ∉ m ∧ ∃ o, H a = some o ∧ ∀ vs, o ≠ .tup vs

/-! ### temporaries -/
mutual
/-- fewer temporaries are to be avoided -/
theorem Rp.tw (ht : ∀ a ∈ t', a ∈ t) : ∀ {u : U} {v : V}, Rp K fa t m n H u v → Rp K fa t' m n H u v
  | _, _, .non => .non
  | _, _, .bl b => .bl b
  | _, _, .int i => .int i
  | _, _, .str x => .str x
  | _, _, .tup h r => .tup ⟨h.1, h.2.1, fun z => h.2.2 (ht _ z)⟩ (RpA.tw ht r)
  | _, _, .lst h r => .lst ⟨h.1, h.2.1, fun z => h.2.2 (ht _ z)⟩ (RpA.tw ht r)
  | _, _, .dK h n z r => .dK h n (fun q => z (ht _ q)) (RpA.tw ht r)
  | _, _, .dT h n z r => .dT h n (fun q => z (ht _ q)) (RpA.tw ht r)
  | _, _, .ob hi h => .ob hi h
  | _, _, .fn h => .fn h
  | _, _, .scr h => .scr (h.elim (fun q => .inl ⟨q.1, q.2.1, fun z => q.2.2 (ht _ z)⟩) .inr)
theorem RpA.tw (ht : ∀ a ∈ t', a ∈ t) : ∀ {us : List U} {vs : List V}, RpA K fa t m n H us vs → RpA K fa t' m n H us vs
  | _, _, .nil => .nil
  | _, _, .cons h r => .cons (Rp.tw ht h) (RpA.tw ht r)
end
theorem Rd.some {a : Addr} {o : HO} (h : Rd H a o) : ∃ u, H a = some u := h.elim (fun q => ⟨_, q⟩) fun ⟨_, q⟩ => ⟨_, q⟩
mutual
/-- a new temporary at D -/
theorem Rp.tn {D : Addr} (hD : H D = none) : ∀ {u : U} {v : V}, Rp K fa t m n H u v → Rp K fa (D :: t) m n H u v
  | _, _, .non => .non
  | _, _, .bl b => .bl b
  | _, _, .int i => .int i
  | _, _, .str x => .str x
  | _, _, .tup h r => .tup ⟨h.1, h.2.1, fun z => by
      rcases List.mem_cons.mp z with z | z
      · have e := h.1; rw [z, hD] at e; cases e
      · exact h.2.2 z⟩ (RpA.tn hD r)
  | _, _, .lst h r => .lst ⟨h.1, h.2.1, fun z => by
      rcases List.mem_cons.mp z with z | z
      · have e := h.1; rw [z, hD] at e; cases e
      · exact h.2.2 z⟩ (RpA.tn hD r)
  | _, _, .dK h n q r => .dK h n (fun z => by
      rcases List.mem_cons.mp z with z | z
      · rw [z, hD] at h; cases h
      · exact q z) (RpA.tn hD r)
  | _, _, .dT h n q r => .dT h n (fun z => by
      rcases List.mem_cons.mp z with z | z
      · rw [z, hD] at h; cases h
      · exact q z) (RpA.tn hD r)
  | _, _, .ob hi h => .ob hi h
  | _, _, .fn h => .fn h
  | _, _, .scr h => .scr (h.elim (fun q => .inl ⟨q.1, q.2.1, fun z => by
      obtain ⟨u, e⟩ := Rd.some q.1
      rcases List.mem_cons.mp z with z | z
      · rw [z, hD] at e; cases e
      · exact q.2.2 z⟩) .inr)
theorem RpA.tn {D : Addr} (hD : H D = none) : ∀ {us : List U} {vs : List V}, RpA K fa t m n H us vs → RpA K fa (D :: t) m n H us vs
  | _, _, .nil => .nil
  | _, _, .cons h r => .cons (Rp.tn hD h) (RpA.tn hD r)
end
theorem Rd.off {a D : Addr} {o u : HO} (hne : a ≠ D) (h : Rd H a u) : Rd (L2.upd H D o) a u := by
  rcases h with e | ⟨ob, e⟩
  · exact .inl (by rw [upd_ne hne]; exact e)
  · exact .inr ⟨ob, by rw [upd_ne hne]; exact e⟩
theorem FL.off {a D : Addr} {o u : HO} (hne : a ≠ D) (h : H a = some u) : (L2.upd H D o) a = some u := by rw [upd_ne hne]; exact h
mutual
/-- a temporary is written -/
theorem Rp.td {D : Addr} {o : HO} (hD : D ∈ t) : ∀ {u : U} {v : V}, Rp K fa t m n H u v → Rp K fa t m n (L2.upd H D o) u v
  | _, _, .non => .non
  | _, _, .bl b => .bl b
  | _, _, .int i => .int i
  | _, _, .str x => .str x
  | _, _, .tup h r => .tup ⟨FL.off (fun z => h.2.2 (z ▸ hD)) h.1, h.2.1, h.2.2⟩ (RpA.td hD r)
  | _, _, .lst h r => .lst ⟨FL.off (fun z => h.2.2 (z ▸ hD)) h.1, h.2.1, h.2.2⟩ (RpA.td hD r)
  | _, _, .dK h n q r => .dK (by rw [upd_ne (fun z => q (by rw [z]; exact hD))]; exact h) n q (RpA.td hD r)
  | _, _, .dT h n q r => .dT (by rw [upd_ne (fun z => q (by rw [z]; exact hD))]; exact h) n q (RpA.td hD r)
  | _, _, .ob hi h => .ob hi h
  | _, _, .fn h => .fn h
  | _, _, .scr h => .scr (h.elim (fun q => .inl ⟨Rd.off (fun z => q.2.2 (z ▸ hD)) q.1, q.2.1, q.2.2⟩) .inr)
theorem RpA.td {D : Addr} {o : HO} (hD : D ∈ t) : ∀ {us : List U} {vs : List V}, RpA K fa t m n H us vs → RpA K fa t m n (L2.upd H D o) us vs
  | _, _, .nil => .nil
  | _, _, .cons h r => .cons (Rp.td hD h) (RpA.td hD r)
end
theorem Ct.some {a : Addr} {o : U} (h : Ct K fa t m n H a o) : ∃ u, H a = some u := by
  cases h with
  | lst h _ => exact ⟨_, h⟩
  | dK h _ => exact ⟨_, h⟩
  | dT h _ => exact ⟨_, h⟩
theorem Ct.tw (ht : ∀ a ∈ t', a ∈ t) {a : Addr} {o : U} (h : Ct K fa t m n H a o) : Ct K fa t' m n H a o := by
  cases h with
  | lst h r => exact .lst h (r.tw ht)
  | dK h r => exact .dK h (r.tw ht)
  | dT h r => exact .dT h (r.tw ht)
variable {bs : List Nat} {μ : Mu}
theorem Me.there (M : Me K fa bs t m H μ) {a : Addr} (h : a ∈ m) : ∃ o, H a = some o := by
  obtain ⟨i, hi⟩ := List.mem_iff_getElem?.mp h
  have hl : i < μ.length := by rw [← M.len]; exact (List.getElem?_eq_some_iff.mp hi).1
  exact (M.ct i a _ hi (List.getElem?_eq_getElem hl)).some
theorem Me.fresh (M : Me K fa bs t m H μ) {p : Addr} (h : H p = none) : p ∉ m ∧ p ∉ t := by
  refine ⟨fun z => ?_, fun z => ?_⟩
  · obtain ⟨o, e⟩ := M.there z; rw [h] at e; cases e
  · obtain ⟨_, o, e, _⟩ := M.tt _ z; rw [h] at e; cases e
/-- a tuple is no mutable one, no temporary -/
theorem Me.tupN (M : Me K fa bs t m H μ) {b : Addr} {vs : List V} (h : H b = some (.tup vs)) : FT t m H b vs := by
  refine ⟨h, fun z => ?_, fun z => ?_⟩
  · obtain ⟨i, hi⟩ := List.mem_iff_getElem?.mp z
    have hl : i < μ.length := by rw [← M.len]; exact (List.getElem?_eq_some_iff.mp hi).1
    have c := M.ct i b _ hi (List.getElem?_eq_getElem hl)
    generalize μ[i] = o at c
    cases c with
    | lst q _ => rw [h] at q; cases q
    | dK q _ => rw [h] at q; cases q
    | dT q _ => rw [h] at q; cases q
  · obtain ⟨_, o, e, w⟩ := M.tt _ z
    rw [h] at e
    cases e
    exact w _ rfl
/-- only new objects beside -/
theorem Me.ext (M : Me K fa bs t m H μ) (k : ∀ a o, H a = some o → H' a = some o) : Me K fa bs t m H' μ := by
  have e : Ex m H m H' := ⟨⟨[], by simp⟩, fun a o h _ => k a o h, fun a h n => absurd h n⟩
  refine ⟨M.len, M.low, M.nd, fun i a o h1 h2 => ?_, M.bd, fun a h => ⟨(M.tt a h).1, let ⟨o, q, w⟩ := (M.tt a h).2; ⟨o, k _ _ q, w⟩⟩⟩
  have q := M.ct i a o h1 h2
  obtain ⟨u, hu⟩ := q.some
  exact q.ex e (Nat.le_refl _) ((k _ _ hu).trans hu.symm)
theorem Me.upd (M : Me K fa bs t m H μ) {p : Addr} {o : HO} (h : H p = none) : Me K fa bs t m (L2.upd H p o) μ :=
  M.ext fun a u e => by rw [upd_ne (ne_of_none e h)]; exact e
theorem Me.bnd (M : Me K fa bs t m H μ) (i : Nat) : (bs[i]?.getD m.length) ≤ m.length := by
  cases e : bs[i]? with
  | none => exact Nat.le_refl _
  | some b => exact Nat.le_trans (M.bd i b e) M.low
/-- a new mutable object -/
theorem Me.alloc (M : Me K fa bs t m H μ) {p : Addr} {ho : HO} {o : U} (h : H p = none) (c : Ct K fa t (m ++ [p]) (m.length + 1) (L2.upd H p ho) p o) : Me K fa bs t (m ++ [p]) (L2.upd H p ho) (μ ++ [o]) := by
  have e : Ex m H (m ++ [p]) (L2.upd H p ho) := Ex.alloc h
  obtain ⟨nm, nt⟩ := M.fresh h
  refine ⟨by simp [M.len], by have := M.low; simp; omega, ?_, fun i a u h1 h2 => ?_, M.bd, fun a ha => ?_⟩
  · rw [List.nodup_append]
    refine ⟨M.nd, by simp, fun a ha b hb => ?_⟩
    simp at hb; subst hb
    exact fun z => nm (z ▸ ha)
  · by_cases hi : i < m.length
    · rw [List.getElem?_append_left hi] at h1
      rw [List.getElem?_append_left (by rw [← M.len]; exact hi)] at h2
      have q := M.ct i a u h1 h2
      have hne : a ≠ p := fun z => nm (z ▸ List.mem_of_getElem? h1)
      refine q.ex e ?_ (upd_ne hne)
      cases hb : bs[i]? with
      | none => simp
      | some b => simp
    · have hi' : i = m.length := by
        have := (List.getElem?_eq_some_iff.mp h1).1
        simp at this; omega
      subst hi'
      simp at h1
      rw [M.len] at h2
      simp at h2
      subst h1 h2
      have hb : bs[m.length]? = none := List.getElem?_eq_none_iff.mpr M.low
      rw [hb]
      simpa using c
  · obtain ⟨h1, o', h2, h3⟩ := M.tt a ha
    refine ⟨fun z => ?_, o', e.keep _ _ h2 h1, h3⟩
    rcases List.mem_append.mp z with z | z
    · exact h1 z
    · simp at z; subst z; exact nt ha
/-- a mutable object is written -/
theorem Me.write (M : Me K fa bs t m H μ) {i : Nat} {p : Addr} {ho : HO} {o : U} (h : m[i]? = some p) (c : Ct K fa t m (bs[i]?.getD m.length) (L2.upd H p ho) p o) : Me K fa bs t m (L2.upd H p ho) (μ.set i o) := by
  have hm := List.mem_of_getElem? h
  have e : Ex m H m (L2.upd H p ho) := Ex.write hm
  refine ⟨by simp [M.len], M.low, M.nd, fun j a u h1 h2 => ?_, M.bd, fun a ha => ?_⟩
  · by_cases hj : j = i
    · subst hj
      rw [h] at h1; cases h1
      have hl : j < μ.length := by rw [← M.len]; exact (List.getElem?_eq_some_iff.mp h).1
      rw [List.getElem?_set_self hl] at h2
      cases h2
      exact c
    · rw [List.getElem?_set_ne (fun z => hj z.symm)] at h2
      have hne : a ≠ p := fun z => by
        subst z
        have h3 := (List.getElem?_eq_some_iff.mp h1)
        have h4 := (List.getElem?_eq_some_iff.mp h)
        obtain ⟨l1, e1⟩ := h3
        obtain ⟨l2, e2⟩ := h4
        exact hj ((List.getElem_inj M.nd).mp (e1.trans e2.symm))
      exact (M.ct j a u h1 h2).ex e (Nat.le_refl _) (upd_ne hne)
  · obtain ⟨h1, o', h2, h3⟩ := M.tt a ha
    exact ⟨h1, o', e.keep _ _ h2 h1, h3⟩
/-- a temporary begins, is written, ends -/
theorem Me.tn (M : Me K fa bs t m H μ) {D : Addr} {o : HO} (h : H D = none) (ho : ∀ vs, o ≠ .tup vs := by intro _ h; cases h) : Me K fa bs (D :: t) m (L2.upd H D o) μ := by
  have M' := M.upd (o := o) h
  obtain ⟨nm, nt⟩ := M.fresh h
  have e : Ex m H m (L2.upd H D o) := Ex.upd h
  refine ⟨M.len, M.low, M.nd, fun i a u h1 h2 => ?_, M.bd, fun a ha => ?_⟩
  · have q := M.ct i a u h1 h2
    have hne : a ≠ D := fun z => nm (z ▸ List.mem_of_getElem? h1)
    cases q with
    | lst q r => exact .lst (by rw [upd_ne hne]; exact q) ((r.tn h).ex e (Nat.le_refl _))
    | dK q r => exact .dK (by rw [upd_ne hne]; exact q) ((r.tn h).ex e (Nat.le_refl _))
    | dT q r => exact .dT (by rw [upd_ne hne]; exact q) ((r.tn h).ex e (Nat.le_refl _))
  · rcases List.mem_cons.mp ha with ha | ha
    · subst ha; exact ⟨nm, o, upd_same, ho⟩
    · exact M'.tt a ha
theorem Me.td (M : Me K fa bs t m H μ) {D : Addr} {o : HO} (h : D ∈ t) (ho : ∀ vs, o ≠ .tup vs := by intro _ h; cases h) : Me K fa bs t m (L2.upd H D o) μ := by
  refine ⟨M.len, M.low, M.nd, fun i a u h1 h2 => ?_, M.bd, fun a ha => ?_⟩
  · have q := M.ct i a u h1 h2
    have hne : a ≠ D := fun z => (M.tt D h).1 (z ▸ List.mem_of_getElem? h1)
    cases q with
    | lst q r => exact .lst (by rw [upd_ne hne]; exact q) (r.td h)
    | dK q r => exact .dK (by rw [upd_ne hne]; exact q) (r.td h)
    | dT q r => exact .dT (by rw [upd_ne hne]; exact q) (r.td h)
  · obtain ⟨h1, o', h2, h3⟩ := M.tt a ha
    by_cases z : a = D
    · subst z; exact ⟨h1, o, upd_same, ho⟩
    · exact ⟨h1, o', by rw [upd_ne z]; exact h2, h3⟩
theorem Me.tw (M : Me K fa bs t m H μ) (ht : ∀ a ∈ t', a ∈ t) : Me K fa bs t' m H μ :=
  ⟨M.len, M.low, M.nd, fun i a u h1 h2 => (M.ct i a u h1 h2).tw ht, M.bd, fun a ha => M.tt a (ht a ha)⟩

end
end R

set_option Elab.async false
set_option linter.all false
set_option maxRecDepth 100000
set_option maxHeartbeats 4000000
/-! R2: a small language of my own and its evaluator -/
namespace R
open PySem L2

abbrev Env := List (Option U)
def SZ : Nat := 16777216

inductive Pt where
  | slot (i : Nat)
  | tup (ps : List Pt)
inductive Bo where
  | add | sub | mul | fdiv | mod | pow | shl | shr | band | bor | bxor
inductive Co where
  | eq | ne | lt | le | gt | ge | isin | notin | is_ | isnot
inductive Bi where
  | len | int | abs | all | any | sum | min1 | max1 | min2 | max2
  deriving DecidableEq
/-- what is walked -/
inductive Ik where
  | ex | rng | enm | zip
  deriving DecidableEq
/-- what is collected into -/
inductive Cl where
  | list | tuple | sorted | dict (tk : Bool)
  deriving DecidableEq
inductive Mt where
  | append | pop0 | pop1 | get2 | index | count
  deriving DecidableEq
inductive Ty where
  | int | bool | str | tuple | list | dict
  deriving DecidableEq

inductive E where
  | var (i : Nat)
  | non | bl (b : Bool) | int (i : Int) | str (x : Str)
  | gint (i : Int)
  | fnv (f : Nat)
  | tup (es : List E)
  | lst (al : Bool) (es : List E)
  | dct (al tk : Bool) (es : List E)
  | bin (al : Bool) (op : Bo) (a b : E)
  | neg (a : E)
  | cmp (op : Co) (a b : E)
  | chain (op op' : Co) (a b c : E)
  | bool (and : Bool) (es : List E)
  | not (a : E)
  | ite (c a b : E)
  | idx (a i : E)
  | slc (al : Bool) (a lo hi : E)
  | rev (al : Bool) (a : E)
  | comp (al : Bool) (p : Pt) (ik : Ik) (its : List E) (c e : E) (ws : List Nat)
  | comp2 (al : Bool) (p : Pt) (ik : Ik) (its : List E) (cs : List E) (p1 : Pt) (ik1 : Ik) (its1 cs1 : List E) (e : E) (ws ws1 : List Nat)
  | col (al : Bool) (c : Cl) (ik : Ik) (its : List E)
  | call (f : Nat) (es : List E)
  | bi (b : Bi) (es : List E)
  | isi (e : E) (t : Ty)
  | me (al : Bool) (m : Mt) (a : E) (es : List E)
  | itms (a : E)
  | sset (al : Bool) (a : E)
  | lset (a : E)
  | vals (a : E)

inductive S where
  | set (i : Nat) (e : E)
  | par (is : List Nat) (es : List E)
  | asg (p : Pt) (e : E)
  | sub (a i e : E)
  | asg2 (a i a' i' e : E)
  | sub2 (a i a' i' e e' : E)
  | ex (e : E)
  | ret (e : E)
  | iff (c : E) (t f : List S)
  | for_ (p : Pt) (ik : Ik) (its : List E) (b : List S)
  | wh (c : E) (b : List S)
  | pass | brk | cont | stuck

/-! ### values -/
def mapO {α β : Type} (f : α → Option β) : List α → Option (List β)
  | [] => some []
  | x :: xs => match f x with
    | some y => match mapO f xs with
      | some ys => some (y :: ys)
      | none => none
    | none => none

mutual
/-- no mutable one within -/
def nomut : U → Bool
  | .ob _ => false
  | .tup xs => nomuts xs
  | .lst xs => nomuts xs
  | .dk _ vs => nomuts vs
  | .dt _ vs => nomuts vs
  | _ => true
def nomuts : List U → Bool
  | [] => true
  | x :: xs => nomut x && nomuts xs
end

/-- data: what == and < see -/
def dat (μ : Mu) : Nat → U → Option PyData
  | _, .non => some .none
  | _, .bl b => some (.bool b)
  | _, .int i => some (.int i)
  | _, .str x => some (.str x)
  | k + 1, .tup xs => match mapO (dat μ k) xs with
    | some ds => some (.tuple ds)
    | none => none
  | k + 1, .lst xs => match mapO (dat μ k) xs with
    | some ds => some (.list ds)
    | none => none
  | k + 1, .ob i => match μ[i]? with
    | some o => dat μ k o
    | none => none
  | _, _ => none

/-- the mutable ones from n on, frozen -/
def frz (n : Nat) (μ : Mu) : Nat → U → Option U
  | k + 1, .tup xs => match mapO (frz n μ k) xs with
    | some ys => some (.tup ys)
    | none => none
  | k + 1, .lst xs => match mapO (frz n μ k) xs with
    | some ys => some (.lst ys)
    | none => none
  | k + 1, .dk ks xs => match mapO (frz n μ k) xs with
    | some ys => some (.dk ks ys)
    | none => none
  | k + 1, .dt ks xs => match mapO (frz n μ k) xs with
    | some ys => some (.dt ks ys)
    | none => none
  | k + 1, .ob i => if i < n then some (.ob i) else match μ[i]? with
    | some (.lst xs) => match mapO (frz n μ k) xs with
      | some ys => some (.lst ys)
      | none => none
    | some (.dk ks xs) => match mapO (frz n μ k) xs with
      | some ys => some (.dk ks ys)
      | none => none
    | some (.dt ks xs) => match mapO (frz n μ k) xs with
      | some ys => some (.dt ks ys)
      | none => none
    | _ => none
  | _, .non => some .non
  | _, .bl b => some (.bl b)
  | _, .int i => some (.int i)
  | _, .str x => some (.str x)
  | _, .fn i => some (.fn i)
  | _, .scr ns => some (.scr ns)
  | _, _ => none

def D0 : Nat := 12

def asL (μ : Mu) : U → Option (List U)
  | .lst xs => some xs
  | .ob i => match μ[i]? with
    | some (.lst xs) => some xs
    | _ => none
  | _ => none
def asS (μ : Mu) : U → Option (List U)
  | .tup xs => some xs
  | u => asL μ u
def asInt : U → Option Int
  | .int i => some i
  | _ => none
def asBl : U → Option Bool
  | .bl b => some b
  | _ => none
def sky : U → Option Key
  | .int i => some (.inl i)
  | .str x => some (.inr x)
  | _ => none
def tky : U → Option (List Key)
  | .tup xs => mapO sky xs
  | _ => none
/-- a look-up -/
def lk {κ : Type} [DecidableEq κ] : List κ → List U → κ → Option U
  | k :: ks, v :: vs, q => if k = q then some v else lk ks vs q
  | _, _, _ => none
def rpl {κ : Type} [DecidableEq κ] : List κ → List U → κ → U → List U
  | k :: ks, v :: vs, q, u => (if k = q then u else v) :: rpl ks vs q u
  | _, _, _, _ => []
def pt {κ : Type} [DecidableEq κ] (ks : List κ) (vs : List U) (q : κ) (u : U) : List U := if q ∈ ks then rpl ks vs q u else vs ++ [u]
def ptk {κ : Type} [DecidableEq κ] (ks : List κ) (q : κ) : List κ := if q ∈ ks then ks else ks ++ [q]
/-- the value itself, or what the mutable one holds -/
def cont (μ : Mu) : U → Option U
  | .ob i => μ[i]?
  | u => some u
/-- none: no dict or a key of the wrong kind -/
def dget (μ : Mu) (d k : U) : Option (Option U) :=
  match cont μ d with
  | some (.dk ks vs) => match sky k with
    | some q => some (lk ks vs q)
    | none => none
  | some (.dt ks vs) => match tky k with
    | some q => some (lk ks vs q)
    | none => none
  | _ => none
def dput (o k v : U) : Option U :=
  match o with
  | .dk ks vs => match sky k with
    | some q => if ks.length < SZ then some (.dk (ptk ks q) (pt ks vs q v)) else none
    | none => none
  | .dt ks vs => match tky k with
    | some q => if ks.length < SZ then some (.dt (ptk ks q) (pt ks vs q v)) else none
    | none => none
  | _ => none

def truth (μ : Mu) : U → Option Bool
  | .non => some false
  | .bl b => some b
  | .int i => some (i != 0)
  | .str x => if x.length ≤ SZ then some ((x.length : Int) != 0) else none
  | .tup xs => some !xs.isEmpty
  | .lst xs => some !xs.isEmpty
  | .ob i => match μ[i]? with
    | some (.lst xs) => some !xs.isEmpty
    | some (.dk ks _) => some !ks.isEmpty
    | _ => none
  | _ => none

def fresh (al : Bool) (u : U) (μ : Mu) : U × Mu := if al then (.ob μ.length, μ ++ [u]) else (u, μ)

def mulOk (i j : Int) : Bool := (decide (-(2 ^ 64) < i) && decide (i < 2 ^ 64)) || (decide (-(2 ^ 64) < j) && decide (j < 2 ^ 64))
def evBin (al : Bool) (μ : Mu) : Bo → U → U → Option (U × Mu)
  | .add, .int i, .int j => some (.int (i + j), μ)
  | .sub, .int i, .int j => some (.int (i - j), μ)
  | .mul, .int i, .int j => if mulOk i j then some (.int (i * j), μ) else none
  | .fdiv, .int i, .int j => if 0 < j ∧ j < 18446744073709551616 then some (.int (i / j), μ) else none
  | .mod, .int i, .int j => if 0 < j then some (.int (i % j), μ) else none
  | .pow, .int i, .int j => if 0 ≤ j ∧ j ≤ 1000000 ∧ i.natAbs < 2 ^ 64 then some (.int (i ^ j.toNat), μ) else none
  | .shl, .int i, .int j => if 0 ≤ j ∧ j ≤ 1000000 ∧ i.natAbs < 2 ^ 64 then some (.int (i * 2 ^ j.toNat), μ) else none
  | .shr, .int i, .int j => if 0 ≤ j then some (.int (i / 2 ^ j.toNat), μ) else none
  | .band, .int i, .int j => some (.int (Builtin.bitAnd i j), μ)
  | .bor, .int i, .int j => some (.int (Builtin.bitOr i j), μ)
  | .bxor, .int i, .int j => some (.int (Builtin.bitXor i j), μ)
  | .add, .str a, .str b => if a.length + b.length ≤ SZ then some (.str (a ++ b), μ) else none
  | .add, .tup xs, .tup ys => if xs.length + ys.length ≤ SZ then some (.tup (xs ++ ys), μ) else none
  | .add, u, v => match asL μ u, asL μ v with
    | some xs, some ys => if xs.length + ys.length ≤ SZ then some (fresh al (.lst (xs ++ ys)) μ) else none
    | _, _ => none
  | .mul, .tup xs, .int k => if -(2 ^ 63) ≤ k ∧ k < 2 ^ 63 ∧ xs.length * k.toNat ≤ SZ then some (.tup (List.replicate k.toNat xs).flatten, μ) else none
  | .mul, u, .int k => match asL μ u with
    | some xs => if -(2 ^ 63) ≤ k ∧ k < 2 ^ 63 ∧ xs.length * k.toNat ≤ SZ then some (fresh al (.lst (List.replicate k.toNat xs).flatten) μ) else none
    | none => none
  | _, _, _ => none

def evEq (μ : Mu) (a b : U) : Option Bool :=
  match dat μ D0 a, dat μ D0 b with
  | some x, some y => some (PyData.eqv x y)
  | _, _ => none
def evIn (μ : Mu) (a b : U) : Option Bool :=
  match cont μ b with
  | some (.dk ks vs) => match dget μ b a with
    | some o => some o.isSome
    | none => none
  | some (.dt ks vs) => match dget μ b a with
    | some o => some o.isSome
    | none => none
  | _ => match dat μ D0 a, dat μ D0 b with
    | some x, some (.tuple ys) => some (ys.any fun y => y.eqv x)
    | some x, some (.list ys) => some (ys.any fun y => y.eqv x)
    | _, _ => none
def evLt (μ : Mu) (a b : U) : Option Bool :=
  match a, b with
  | .int i, .int j => some (decide (i < j))
  | a, b => match dat μ D0 a, dat μ D0 b with
    | some .none, _ => none
    | some x, some y => if PySem.W.alike x y then some (PySem.W.dataLt x y) else none
    | _, _ => none
def isNon : U → Bool
  | .non => true
  | _ => false
def neg? : Option Bool → Option Bool
  | some b => some !b
  | none => none
def evCmp (μ : Mu) : Co → U → U → Option Bool
  | .eq, a, b => evEq μ a b
  | .ne, a, b => neg? (evEq μ a b)
  | .lt, a, b => evLt μ a b
  | .gt, a, b => evLt μ b a
  | .le, a, b => neg? (evLt μ b a)
  | .ge, a, b => neg? (evLt μ a b)
  | .isin, a, b => evIn μ a b
  | .notin, a, b => neg? (evIn μ a b)
  | .is_, a, .non => some (isNon a)
  | .isnot, a, .non => some !isNon a
  | _, _, _ => none

def evIdx (μ : Mu) (a i : U) : Option U :=
  match cont μ a with
  | some (.dk _ _) => (dget μ a i).bind id
  | some (.dt _ _) => (dget μ a i).bind id
  | some (.str x) => match i with
    | .int j => if x.length ≤ SZ then (match L2.atI x.cps.toList j with | some c => some (.str ⟨#[c]⟩) | none => none) else none
    | _ => none
  | some (.tup xs) => match i with
    | .int j => L2.atI xs j
    | _ => none
  | some (.lst xs) => match i with
    | .int j => L2.atI xs j
    | _ => none
  | _ => none
def bnd : U → Option (Option Int)
  | .non => some none
  | .int i => some (some i)
  | _ => none
def cutU (xs : List U) (lo hi : Option Int) : List U := (xs.drop (HT.sIx xs.length 0 lo)).take (HT.sIx xs.length xs.length hi - HT.sIx xs.length 0 lo)
def evSlc (al : Bool) (μ : Mu) (a lo hi : U) : Option (U × Mu) :=
  match bnd lo, bnd hi with
  | some l, some h => match a with
    | .tup xs => some (.tup (cutU xs l h), μ)
    | .str x => if x.length ≤ SZ then some (.str (Txt.slice x l h), μ) else none
    | a => match asL μ a with
      | some xs => some (fresh al (.lst (cutU xs l h)) μ)
      | none => none
  | _, _ => none
def evRev (al : Bool) (μ : Mu) (a : U) : Option (U × Mu) :=
  match a with
  | .tup xs => some (.tup xs.reverse, μ)
  | a => match asL μ a with
    | some xs => some (fresh al (.lst xs.reverse) μ)
    | none => none

def minL : List Int → Option Int
  | [] => none
  | x :: xs => some (xs.foldl (fun a b => if b < a then b else a) x)
def maxL : List Int → Option Int
  | [] => none
  | x :: xs => some (xs.foldl (fun a b => if a < b then b else a) x)
def intL (μ : Mu) (u : U) : Option (List Int) :=
  match asL μ u with
  | some xs => mapO asInt xs
  | none => none
def intT (μ : Mu) (u : U) : Option (List Int) :=
  match asS μ u with
  | some xs => mapO asInt xs
  | none => none
/-- the numbers in order, each once -/
def insI (x : Int) : List Int → List Int
  | [] => [x]
  | y :: l => if x < y then x :: y :: l else if x = y then y :: l else y :: insI x l
def ssrt : List Int → List Int
  | [] => []
  | x :: l => insI x (ssrt l)
def bls (μ : Mu) (u : U) : Option (List Bool) :=
  match asL μ u with
  | some xs => mapO asBl xs
  | none => none
def evBi (μ : Mu) : Bi → List U → Option U
  | .len, [u] => match cont μ u with
    | some (.str x) => if x.length ≤ SZ then some (.int x.length) else none
    | some (.tup xs) => some (.int xs.length)
    | some (.lst xs) => some (.int xs.length)
    | some (.dk ks _) => some (.int ks.length)
    | some (.dt ks _) => some (.int ks.length)
    | _ => none
  | .int, [.int i] => some (.int i)
  | .int, [.bl b] => some (.int (if b then 1 else 0))
  | .abs, [.int i] => some (.int (if i < 0 then -i else i))
  | .all, [u] => (bls μ u).map fun bs => .bl (bs.all id)
  | .any, [u] => (bls μ u).map fun bs => .bl (bs.any id)
  | .sum, [u] => (intL μ u).map fun ns => .int ns.sum
  | .min1, [u] => ((intT μ u).bind minL).map U.int
  | .max1, [u] => ((intT μ u).bind maxL).map U.int
  | .min2, [.int i, .int j] => some (.int (if j < i then j else i))
  | .max2, [.int i, .int j] => some (.int (if j > i then j else i))
  | _, _ => none
def evIsi (μ : Mu) (u : U) (t : Ty) : Option Bool :=
  match cont μ u with
  | some .non => some false
  | some (.bl _) => some (t = .bool ∨ t = .int)
  | some (.int _) => some (t = .int)
  | some (.str _) => some (t = .str)
  | some (.tup _) => some (t = .tuple)
  | some (.lst _) => some (t = .list)
  | some (.dk _ _) => some (t = .dict)
  | some (.dt _ _) => some (t = .dict)
  | _ => none

/-! ### walks -/
def rgn (a b : Int) : List U := (List.range (b - a).toNat).map fun (k : Nat) => U.int (a + k)
def enum (xs : List U) : List U := ((List.range xs.length).zip xs).map fun p => .tup [.int (p.1 : Nat), p.2]
def zips (xs ys : List U) : List U := (xs.zip ys).map fun p => .tup [p.1, p.2]
/-- the items, or a mutable list that is walked as it stands -/
def walk (μ : Mu) : Ik → List U → Option (List U ⊕ (Bool × Nat))
  | .ex, [.tup xs] => some (.inl xs)
  | .ex, [.lst xs] => some (.inl xs)
  | .ex, [.str x] => some (.inl (x.cps.toList.map fun c => .str ⟨#[c]⟩))
  | .ex, [.ob i] => match μ[i]? with
    | some (.lst _) => some (.inr (false, i))
    | _ => none
  | .ex, [.scr ns] => some (.inl (ns.map U.int))
  | .rng, [.int b] => if -(2 ^ 62) ≤ b ∧ b < 2 ^ 62 then some (.inl (rgn 0 b)) else none
  | .rng, [.int a, .int b] => if -(2 ^ 62) ≤ a ∧ a < 2 ^ 62 ∧ -(2 ^ 62) ≤ b ∧ b < 2 ^ 62 then some (.inl (rgn a b)) else none
  | .enm, [.lst xs] => some (.inl (enum xs))
  | .enm, [.tup xs] => some (.inl (enum xs))
  | .enm, [.ob i] => match μ[i]? with
    | some (.lst _) => some (.inr (true, i))
    | _ => none
  | .zip, [.lst xs, .lst ys] => some (.inl (zips xs ys))
  | .zip, [.tup xs, .tup ys] => some (.inl (zips xs ys))
  | _, _ => none

def pairKV : U → Option (U × U)
  | .tup [k, v] => some (k, v)
  | _ => none
def pairUp : List U → Option (List (U × U))
  | [] => some []
  | k :: v :: r => match pairUp r with
    | some ps => some ((k, v) :: ps)
    | none => none
  | _ => none
def mergeU (tk : Bool) : List (U × U) → U → Option U
  | [], o => some o
  | p :: ps, o => match dput o p.1 p.2 with
    | some o' => mergeU tk ps o'
    | none => none
def srtd (μ : Mu) (xs : List U) : Option (List U) :=
  match mapO (dat μ D0) xs with
  | some ds => if ds.all (fun d => ds.all fun e => PySem.W.alike d e) && (ds.all (fun d => match d with | .tuple (_ :: _) => true | _ => false) || ds.all (fun d => match d with | .tuple _ => false | .none => false | _ => true)) && decide (ds.length ≤ SZ)
    then some (((xs.zip ds).mergeSort (PySem.W.dataLe false Prod.snd)).map (·.1)) else none
  | none => none
def keyU : Key → U
  | .inl i => .int i
  | .inr x => .str x
def keysU (k : List Key) : U := .tup (k.map keyU)
/-- list(d.items()) -/
def itmU (μ : Mu) (u : U) : Option (List U) :=
  match cont μ u with
  | some (.dk ks vs) => some ((ks.zip vs).map fun p => .tup [keyU p.1, p.2])
  | _ => none
/-- list(d.values()) -/
def valU (μ : Mu) (u : U) : Option (List U) :=
  match cont μ u with
  | some (.dk _ vs) => some vs
  | _ => none
/-- the items for a collector -/
def items (μ : Mu) (c : Cl) (ik : Ik) (us : List U) : Option (List U) :=
  match c, ik, us with
  | .list, .ex, [.scr ns] => some (ns.map U.int)
  | .tuple, .ex, [.scr ns] => some (ns.map U.int)
  | .dict _, .ex, [u] => asL μ u
  | .tuple, .ex, [u] => asS μ u
  | .list, .rng, [.int b] => if -(2 ^ 62) ≤ b ∧ b ≤ 2 ^ 24 then some (rgn 0 b) else none
  | .tuple, .rng, [.int b] => if -(2 ^ 62) ≤ b ∧ b ≤ 2 ^ 24 then some (rgn 0 b) else none
  | .list, .rng, [.int a, .int b] => if -(2 ^ 62) ≤ a ∧ a < 2 ^ 62 ∧ -(2 ^ 62) ≤ b ∧ b < 2 ^ 62 ∧ (b - a).toNat ≤ 2 ^ 24 then some (rgn a b) else none
  | .tuple, .rng, [.int a, .int b] => if -(2 ^ 62) ≤ a ∧ a < 2 ^ 62 ∧ -(2 ^ 62) ≤ b ∧ b < 2 ^ 62 ∧ (b - a).toNat ≤ 2 ^ 24 then some (rgn a b) else none
  | _, .ex, [u] => match asS μ u with
    | some xs => some xs
    | none => match cont μ u with
      | some (.dk ks _) => some (ks.map keyU)
      | some (.dt ks _) => some (ks.map keysU)
      | _ => none
  | _, _, _ => none
def evCol (al : Bool) (μ : Mu) (c : Cl) (xs : List U) : Option (U × Mu) :=
  match c with
  | .list => some (fresh al (.lst xs) μ)
  | .tuple => some (.tup xs, μ)
  | .sorted => match srtd μ xs with
    | some ys => some (fresh al (.lst ys) μ)
    | none => none
  | .dict false => match mapO pairKV xs with
    | some ps => (match mergeU false ps (.dk [] []) with
      | some o => some (fresh al o μ)
      | none => none)
    | none => none
  | .dict true => match mapO pairKV xs with
    | some ps => (match mergeU true ps (.dt [] []) with
      | some o => some (fresh al o μ)
      | none => none)
    | none => none

mutual
def bindP (μ : Mu) : Pt → U → Env → Option Env
  | .slot i, u, σ => some (σ.set i (some u))
  | .tup ps, .tup us, σ => if ps.length = us.length then bindPs μ ps us σ else none
  | .tup _, _, _ => none
def bindPs (μ : Mu) : List Pt → List U → Env → Option Env
  | [], [], σ => some σ
  | p :: ps, u :: us, σ => match bindP μ p u σ with
    | some σ' => bindPs μ ps us σ'
    | none => none
  | _, _, _ => none
end
def wipeE (σ : Env) : List Nat → Env
  | [] => σ
  | v :: vs => (wipeE σ vs).set v none
/-- a mutable one is written: an elder frame's takes no mutable one -/
def okw (n0 i : Nat) (u : U) : Bool := decide (n0 ≤ i) || nomut u
def evMe (n0 : Nat) (al : Bool) (μ : Mu) : Mt → U → List U → Option (U × Mu)
  | .append, .ob i, [u] => match μ[i]? with
    | some (.lst xs) => if xs.length < SZ ∧ okw n0 i u = true then some (.non, μ.set i (.lst (xs ++ [u]))) else none
    | _ => none
  | .pop0, .ob i, [] => match μ[i]? with
    | some (.lst xs) => match xs[xs.length - 1]? with
      | some u => some (u, μ.set i (.lst xs.dropLast))
      | none => none
    | _ => none
  | .pop1, .ob i, [.int j] => match μ[i]? with
    | some (.lst xs) => if -(2 ^ 63) ≤ j ∧ j < 2 ^ 63 then (match L2.ixN xs.length j with
      | some k => match xs[k]? with
        | some u => some (u, μ.set i (.lst (xs.eraseIdx k)))
        | none => none
      | none => none) else none
    | _ => none
  | .get2, d, [k, x] => match dget μ d k with
    | some o => some (o.getD x, μ)
    | none => none
  | _, _, _ => none

/-- what a method may be asked of -/
def okm (μ : Mu) (m : Mt) (u : U) : Bool :=
  match m with
  | .append | .pop0 | .pop1 | .index | .count => (asL μ u).isSome
  | .get2 => match cont μ u with
    | some (.dk _ _) => true
    | some (.dt _ _) => true
    | _ => false

/-- a comprehension's turns -/
def compL (step : U → Mu → Option (Option U × Mu)) : List U → List U → Mu → Option (List U × Mu)
  | [], acc, μ => some (acc, μ)
  | x :: xs, acc, μ => match step x μ with
    | some (some y, μ') => if acc.length < SZ then compL step xs (acc ++ [y]) μ' else none
    | some (none, μ') => compL step xs acc μ'
    | none => none
/-- over a mutable list as it stands -/
def comp2L (step : U → Mu → Option (Option (List U × (U → Mu → Option (Option U × Mu))) × Mu)) : List U → List U → Mu → Option (List U × Mu)
  | [], acc, μ => some (acc, μ)
  | x :: xs, acc, μ => match step x μ with
    | some (some (ys, st), μ) => match compL st ys acc μ with
      | some (acc, μ) => comp2L step xs acc μ
      | none => none
    | some (none, μ) => comp2L step xs acc μ
    | none => none
/-- what a turn gets of a mutable list: the item, or its place and it -/
def elm : Bool → Nat → U → U
  | false, _, x => x
  | true, k, x => .tup [.int k, x]
def compV (en : Bool) (step : U → Mu → Option (Option U × Mu)) (i : Nat) : Nat → Nat → List U → Mu → Option (List U × Mu)
  | 0, _, _, _ => none
  | f + 1, k, acc, μ => match μ[i]? with
    | some (.lst xs) => match xs[k]? with
      | none => some (acc, μ)
      | some x => match step (elm en k x) μ with
        | some (some y, μ') => if acc.length < SZ then compV en step i f (k + 1) (acc ++ [y]) μ' else none
        | some (none, μ') => compV en step i f (k + 1) acc μ'
        | none => none
    | _ => none
def FU : Nat := 100000000

variable (cal : Nat → List U → Mu → Option (U × Mu)) (n0 : Nat)
mutual
def evalE : E → Env → Mu → Option (U × Mu)
  | .var i, σ, μ => match σ[i]? with
    | some (some u) => some (u, μ)
    | _ => none
  | .non, _, μ => some (.non, μ)
  | .bl b, _, μ => some (.bl b, μ)
  | .int i, _, μ => some (.int i, μ)
  | .str x, _, μ => some (.str x, μ)
  | .gint i, _, μ => some (.int i, μ)
  | .fnv f, _, μ => some (.fn f, μ)
  | .tup es, σ, μ => match evalL es σ μ with
    | some (us, μ) => if us.length ≤ SZ then some (.tup us, μ) else none
    | none => none
  | .lst al es, σ, μ => match evalL es σ μ with
    | some (us, μ) => if us.length ≤ SZ then some (fresh al (.lst us) μ) else none
    | none => none
  | .dct al tk es, σ, μ => match evalL es σ μ with
    | some (us, μ) => match pairUp us with
      | some ps => if ps.length ≤ 15 then (match mergeU tk ps (if tk then .dt [] [] else .dk [] []) with
        | some o => some (fresh al o μ)
        | none => none) else none
      | none => none
    | none => none
  | .bin al op a b, σ, μ => match evalE a σ μ with
    | some (u, μ) => match evalE b σ μ with
      | some (v, μ) => evBin al μ op u v
      | none => none
    | none => none
  | .neg a, σ, μ => match evalE a σ μ with
    | some (.int i, μ) => some (.int (-i), μ)
    | _ => none
  | .cmp op a b, σ, μ => match evalE a σ μ with
    | some (u, μ) => match evalE b σ μ with
      | some (v, μ) => match evCmp μ op u v with
        | some c => some (.bl c, μ)
        | none => none
      | none => none
    | none => none
  | .chain op op' a b c, σ, μ => match evalE a σ μ with
    | some (u, μ) => match evalE b σ μ with
      | some (v, μ) => match evCmp μ op u v with
        | some false => some (.bl false, μ)
        | some true => match evalE c σ μ with
          | some (w, μ) => match evCmp μ op' v w with
            | some d => some (.bl d, μ)
            | none => none
          | none => none
        | none => none
      | none => none
    | none => none
  | .bool and es, σ, μ => evalB and es σ μ
  | .not a, σ, μ => match evalE a σ μ with
    | some (u, μ) => match truth μ u with
      | some b => some (.bl !b, μ)
      | none => none
    | none => none
  | .ite c a b, σ, μ => match evalE c σ μ with
    | some (u, μ) => match truth μ u with
      | some true => evalE a σ μ
      | some false => evalE b σ μ
      | none => none
    | none => none
  | .idx a i, σ, μ => match evalE a σ μ with
    | some (u, μ) => match evalE i σ μ with
      | some (v, μ) => match evIdx μ u v with
        | some w => some (w, μ)
        | none => none
      | none => none
    | none => none
  | .slc al a lo hi, σ, μ => match evalE a σ μ with
    | some (u, μ) => match evalE lo σ μ with
      | some (l, μ) => match evalE hi σ μ with
        | some (h, μ) => evSlc al μ u l h
        | none => none
      | none => none
    | none => none
  | .rev al a, σ, μ => match evalE a σ μ with
    | some (u, μ) => evRev al μ u
    | none => none
  | .comp al p ik its c e ws, σ, μ => match evalL its σ μ with
    | some (us, μ) => match walk μ ik us with
      | some (.inl xs) => match compL (fun x μ => match bindP μ p x (wipeE σ ws) with
          | some σ' => match evalE c σ' μ with
            | some (t, μ) => match truth μ t with
              | some true => match evalE e σ' μ with
                | some (y, μ) => some (some y, μ)
                | none => none
              | some false => some (none, μ)
              | none => none
            | none => none
          | none => none) xs [] μ with
        | some (ys, μ) => some (fresh al (.lst ys) μ)
        | none => none
      | some (.inr (en, i)) => match compV en (fun x μ => match bindP μ p x (wipeE σ ws) with
          | some σ' => match evalE c σ' μ with
            | some (t, μ) => match truth μ t with
              | some true => match evalE e σ' μ with
                | some (y, μ) => some (some y, μ)
                | none => none
              | some false => some (none, μ)
              | none => none
            | none => none
          | none => none) i FU 0 [] μ with
        | some (ys, μ) => some (fresh al (.lst ys) μ)
        | none => none
      | none => none
    | none => none
  | .comp2 al p ik its cs p1 ik1 its1 cs1 e ws ws1, σ, μ => match evalL its σ μ with
    | some (us, μ) => match walk μ ik us with
      | some (.inl xs) => match comp2L (fun x μ => match bindP μ p x (wipeE σ ws) with
          | some σ' => match evalC cs σ' μ with
            | some (t, μ) => match truth μ t with
              | some true => match evalL its1 σ' μ with
                | some (us1, μ) => match walk μ ik1 us1 with
                  | some (.inl ys) => some (some (ys, fun y μ => match bindP μ p1 y (wipeE σ' ws1) with
                      | some σ'' => match evalC cs1 σ'' μ with
                        | some (t, μ) => match truth μ t with
                          | some true => match evalE e σ'' μ with
                            | some (y, μ) => some (some y, μ)
                            | none => none
                          | some false => some (none, μ)
                          | none => none
                        | none => none
                      | none => none), μ)
                  | _ => none
                | none => none
              | some false => some (none, μ)
              | none => none
            | none => none
          | none => none) xs [] μ with
        | some (ys, μ) => some (fresh al (.lst ys) μ)
        | none => none
      | _ => none
    | none => none
  | .col al c ik its, σ, μ => match evalL its σ μ with
    | some (us, μ) => match items μ c ik us with
      | some xs => evCol al μ c xs
      | none => none
    | none => none
  | .call f es, σ, μ => match evalL es σ μ with
    | some (us, μ) => cal f us μ
    | none => none
  | .bi b es, σ, μ => match evalL es σ μ with
    | some (us, μ) => match evBi μ b us with
      | some u => some (u, μ)
      | none => none
    | none => none
  | .isi e t, σ, μ => match evalE e σ μ with
    | some (u, μ) => match evIsi μ u t with
      | some b => some (.bl b, μ)
      | none => none
    | none => none
  | .me al m a es, σ, μ => match evalE a σ μ with
    | some (u, μ) => match okm μ m u with
      | true => match evalL es σ μ with
        | some (us, μ) => evMe n0 al μ m u us
        | none => none
      | false => none
    | none => none
  | .itms a, σ, μ => match evalE a σ μ with
    | some (u, μ) => match itmU μ u with
      | some xs => some (.lst xs, μ)
      | none => none
    | none => none
  | .vals a, σ, μ => match evalE a σ μ with
    | some (u, μ) => match valU μ u with
      | some xs => some (.lst xs, μ)
      | none => none
    | none => none
  | .sset al a, σ, μ => match evalE a σ μ with
    | some (u, μ) => match intT μ u with
      | some ns => if ns.length < 64 then some (fresh al (.lst ((ssrt ns).map U.int)) μ) else none
      | none => none
    | none => none
  | .lset a, σ, μ => match evalE a σ μ with
    | some (u, μ) => match intT μ u with
      | some ns => if ns.length < 1000 then some (.int (ssrt ns).length, μ) else none
      | none => none
    | none => none
def evalL : List E → Env → Mu → Option (List U × Mu)
  | [], _, μ => some ([], μ)
  | e :: es, σ, μ => match evalE e σ μ with
    | some (u, μ) => match evalL es σ μ with
      | some (us, μ) => some (u :: us, μ)
      | none => none
    | none => none
def evalC : List E → Env → Mu → Option (U × Mu)
  | [], _, μ => some (.bl true, μ)
  | [e], σ, μ => evalE e σ μ
  | _, _, _ => none
def evalB (and : Bool) : List E → Env → Mu → Option (U × Mu)
  | [], _, _ => none
  | [e], σ, μ => evalE e σ μ
  | e :: e2 :: es, σ, μ => match evalE e σ μ with
    | some (u, μ) => match truth μ u with
      | some b => if b = and then evalB and (e2 :: es) σ μ else some (u, μ)
      | none => none
    | none => none
end

inductive Out where
  | nx (σ : Env) (μ : Mu) | rt (u : U) (μ : Mu) | bk (σ : Env) (μ : Mu) | ct (σ : Env) (μ : Mu)

def forL (step : U → Env → Mu → Option Out) : List U → Env → Mu → Option Out
  | [], σ, μ => some (.nx σ μ)
  | x :: xs, σ, μ => match step x σ μ with
    | some (.nx σ μ) => forL step xs σ μ
    | some (.ct σ μ) => forL step xs σ μ
    | some (.bk σ μ) => some (.nx σ μ)
    | o => o
def forV (en : Bool) (step : U → Env → Mu → Option Out) (i : Nat) : Nat → Nat → Env → Mu → Option Out
  | 0, _, _, _ => none
  | f + 1, k, σ, μ => match μ[i]? with
    | some (.lst xs) => match xs[k]? with
      | none => some (.nx σ μ)
      | some x => match step (elm en k x) σ μ with
        | some (.nx σ μ) => forV en step i f (k + 1) σ μ
        | some (.ct σ μ) => forV en step i f (k + 1) σ μ
        | some (.bk σ μ) => some (.nx σ μ)
        | o => o
    | _ => none
def whL (cond : Env → Mu → Option (Bool × Mu)) (body : Env → Mu → Option Out) : Nat → Env → Mu → Option Out
  | 0, _, _ => none
  | f + 1, σ, μ => match cond σ μ with
    | some (true, μ) => match body σ μ with
      | some (.nx σ μ) => whL cond body f σ μ
      | some (.ct σ μ) => whL cond body f σ μ
      | some (.bk σ μ) => some (.nx σ μ)
      | o => o
    | some (false, μ) => some (.nx σ μ)
    | none => none
def storeSub (n0 : Nat) (μ : Mu) (a i u : U) : Option Mu :=
  match a with
  | .ob k => match μ[k]? with
    | some (.lst xs) => match i with
      | .int j => match L2.ixN xs.length j with
        | some q => if okw n0 k u then some (μ.set k (.lst (xs.set q u))) else none
        | none => none
      | _ => none
    | some o => match dput o i u with
      | some o' => if okw n0 k u then some (μ.set k o') else none
      | none => none
    | none => none
  | _ => none
/-- a[i] = u -/
def storeTo (a i : E) (u : U) (σ : Env) (μ : Mu) : Option Mu := match evalE cal n0 a σ μ with
  | some (d, μ) => match evalE cal n0 i σ μ with
    | some (j, μ) => storeSub n0 μ d j u
    | none => none
  | none => none
def bindI : List Nat → List U → Env → Option Env
  | [], [], σ => some σ
  | i :: is, u :: us, σ => bindI is us (σ.set i (some u))
  | _, _, _ => none

mutual
def exS : S → Env → Mu → Option Out
  | .set i e, σ, μ => match evalE cal n0 e σ μ with
    | some (u, μ) => some (.nx (σ.set i (some u)) μ)
    | none => none
  | .par is es, σ, μ => match evalL cal n0 es σ μ with
    | some (us, μ) => match bindI is us σ with
      | some σ => some (.nx σ μ)
      | none => none
    | none => none
  | .asg p e, σ, μ => match evalE cal n0 e σ μ with
    | some (u, μ) => match bindP μ p u σ with
      | some σ => some (.nx σ μ)
      | none => none
    | none => none
  | .sub a i e, σ, μ => match evalE cal n0 e σ μ with
    | some (u, μ) => match evalE cal n0 a σ μ with
      | some (d, μ) => match evalE cal n0 i σ μ with
        | some (j, μ) => match storeSub n0 μ d j u with
          | some μ => some (.nx σ μ)
          | none => none
        | none => none
      | none => none
    | none => none
  | .asg2 a i a' i' e, σ, μ => match evalE cal n0 e σ μ with
    | some (u, μ) => match storeTo cal n0 a i u σ μ with
      | some μ => match storeTo cal n0 a' i' u σ μ with
        | some μ => some (.nx σ μ)
        | none => none
      | none => none
    | none => none
  | .sub2 a i a' i' e e', σ, μ => match evalE cal n0 e σ μ with
    | some (u, μ) => match evalE cal n0 e' σ μ with
      | some (u', μ) => match storeTo cal n0 a i u σ μ with
        | some μ => match storeTo cal n0 a' i' u' σ μ with
          | some μ => some (.nx σ μ)
          | none => none
        | none => none
      | none => none
    | none => none
  | .ex e, σ, μ => match evalE cal n0 e σ μ with
    | some (_, μ) => some (.nx σ μ)
    | none => none
  | .ret e, σ, μ => match evalE cal n0 e σ μ with
    | some (u, μ) => some (.rt u μ)
    | none => none
  | .iff c t f, σ, μ => match evalE cal n0 c σ μ with
    | some (u, μ) => match truth μ u with
      | some true => exL t σ μ
      | some false => exL f σ μ
      | none => none
    | none => none
  | .for_ p ik its b, σ, μ => match evalL cal n0 its σ μ with
    | some (us, μ) => match walk μ ik us with
      | some (.inl xs) => forL (fun x σ μ => match bindP μ p x σ with
        | some σ => exL b σ μ
        | none => none) xs σ μ
      | some (.inr (en, i)) => forV en (fun x σ μ => match bindP μ p x σ with
        | some σ => exL b σ μ
        | none => none) i FU 0 σ μ
      | none => none
    | none => none
  | .wh c b, σ, μ => whL (fun σ μ => match evalE cal n0 c σ μ with
      | some (u, μ) => match truth μ u with
        | some t => some (t, μ)
        | none => none
      | none => none) (fun σ μ => exL b σ μ) FU σ μ
  | .pass, σ, μ => some (.nx σ μ)
  | .brk, σ, μ => some (.bk σ μ)
  | .cont, σ, μ => some (.ct σ μ)
  | .stuck, _, _ => none
def exL : List S → Env → Mu → Option Out
  | [], σ, μ => some (.nx σ μ)
  | s :: ss, σ, μ => match exS s σ μ with
    | some (.nx σ μ) => exL ss σ μ
    | o => o
end

/-- a def: the number of its parameters, of its slots, its body, whether what it hands back stays mutable -/
structure Df where
  ps : Nat
  ns : Nat
  body : List S
  keep : Bool
def finish (keep : Bool) (n0 : Nat) (u : U) (μ : Mu) : Option (U × Mu) :=
  if keep then some (u, μ) else match frz n0 μ D0 u with
    | some v => some (v, μ.take n0)
    | none => none
def runF (defs : List Df) : Nat → Nat → List U → Mu → Option (U × Mu)
  | 0, _, _, _ => none
  | k + 1, f, us, μ => match defs[f]? with
    | some d => if us.length = d.ps then (match exL (runF defs k) μ.length d.body (us.map some ++ List.replicate (d.ns - d.ps) none) μ with
      | some (.rt u μ') => finish d.keep μ.length u μ'
      | some (.nx _ μ') => finish d.keep μ.length .non μ'
      | _ => none) else none
    | none => none
end R

set_option Elab.async false
set_option linter.all false
set_option maxRecDepth 100000
set_option maxHeartbeats 4000000
/-! R3v: a tuple turned over, enumerate over a tuple -/
namespace R
open PySem PySem.Spec PyProof.Rows L2

section
variable {prog : Program} {w : World} {A : Around} {E : Value → Shared → Prop} {s : Shared}
theorem places_back (n : Nat) : Builtin.Slice.slicePlaces ((n : Int) - 1) (-1) (-1) = n := by
  unfold Builtin.Slice.slicePlaces
  rw [if_neg (by decide)]
  split
  · rw [show (- -1 : Int) = 1 from rfl, Int.ediv_one]; omega
  · omega
theorem adjust_back (n : Nat) : Builtin.Slice.sliceAdjust none none (-1) (n : Int) = ((n : Int) - 1, -1) := rfl
theorem applied_back {sl : Addr} {vl vu vs : Value} {n : Nat} {Q : Int × Int × Nat → Shared → Prop} (hs : s.heap.IsSliceOf sl vl vu vs) (pl : IsPart vl none) (pu : IsPart vu none) (ps : IsPart vs (some (-1)))
    (h : Q ((n : Int) - 1, -1, n) s) : wpAny (model prog w) A (Builtin.Slice.sliceApplied (.ref sl) (pure (n : Int))) Q E s := by
  obtain ⟨ob, hob, hco, hda⟩ := id hs
  unfold Builtin.Slice.sliceApplied Builtin.Slice.sliceFields
  refine wpAny_bind (wpAny_bind (wpAny_field hob hda (x := vl) rfl (wpAny_bind (wpAny_field hob hda (x := vu) rfl (wpAny_bind (wpAny_field hob hda (x := vs) rfl (wpAny_pure ?_)))))))
  refine wpAny_bind (HT.slicePart_ ps ?_)
  show wpAny _ _ (if ((-1 : Int) == 0) = true then _ else _) _ _ s
  rw [if_neg (by decide)]
  refine wpAny_bind (HT.slicePart_ pl (wpAny_bind (HT.slicePart_ pu (wpAny_bind (wpAny_pure ?_)))))
  show wpAny _ _ (pure ((n : Int) - 1, (-1 : Int), Builtin.Slice.slicePlaces ((n : Int) - 1) (-1) (-1))) _ _ s
  rw [places_back]
  exact wpAny_pure h
theorem fm_congr {α β : Type} {f g : α → Option β} : ∀ (l : List α), (∀ k ∈ l, f k = g k) → l.filterMap f = l.filterMap g
  | [], _ => rfl
  | a :: l, h => by
    rw [List.filterMap_cons, List.filterMap_cons, h a (by simp), fm_congr l fun k hk => h k (by simp [hk])]
theorem pick_back (xs : Array Value) : ((List.range xs.size).filterMap fun (k : Nat) => xs[((xs.size : Int) - 1 + (k : Int) * (-1)).toNat]?).toArray = xs.toList.reverse.toArray := by
  have e : (List.range xs.size).filterMap (fun (k : Nat) => xs[((xs.size : Int) - 1 + (k : Int) * (-1)).toNat]?) = ((List.range xs.size).map (fun k => xs.size - 1 - k)).filterMap (xs[·]?) := by
    rw [List.filterMap_map]
    refine fm_congr _ fun k hk => ?_
    have h1 := List.mem_range.mp hk
    have h2 : ((xs.size : Int) - 1 + (k : Int) * (-1)).toNat = xs.size - 1 - k := by omega
    rw [h2]; rfl
  rw [e, PySem.W.krv_range, List.filterMap_reverse, PySem.W.krv_all]
theorem getItem_tuple_back {t sl : Addr} {items : Array Value} {vl vu vs : Value} {Q : Value → Shared → Prop} (ht : IsTup s.heap t items) (hs : s.heap.IsSliceOf sl vl vu vs) (pl : IsPart vl none) (pu : IsPart vu none) (ps : IsPart vs (some (-1)))
    (h : Q (.ref s.heap.objs.size) { s with heap := s.heap.push { cls := .type "tuple", data := .seq items.toList.reverse.toArray } }) (hsz : items.size ≤ sizeLine) : wpAny (model prog w) A (getItem (.ref t) (.ref sl)) Q E s := by
  have hok : sizeOk (.seq items.toList.reverse.toArray) := by
    show items.toList.reverse.toArray.size ≤ sizeLine
    rw [List.size_toArray, List.length_reverse, Array.length_toList]; exact hsz
  obtain ⟨ob, hob, hco, hda⟩ := id hs
  have hty : s.TypeIs (.ref sl) "slice" := ⟨ob, hob, hco⟩
  unfold getItem
  first
    | (with_reducible refine wpAny_holding ?_)
    | skip
  first
    | (refine wpAny_bind (wpAny_pure ?_))
    | skip
  refine wpAny_bind (wpAny_sequenceKey ht.typeIs (by decide) ?_)
  refine wpAny_bind (wpAny_callSpecial?_slot (name := Str.ofString "__getitem__") ht.typeIs PyProof.Rows.slot_tuple_getitem (wpAny_call_entry PyProof.Rows.slot_tuple_getitem ht.typeIs entry_tuple_getitem ?_ (args_tuple_getitem _ _)))
  show wpAny _ _ (Builtin.Tuple.tupleItemsOf (.ref t) >>= _) _ _ s
  refine wpAny_bind (tupleItemsOf_ ht (wpAny_bind (wpAny_typeOf hty ?_)))
  rw [if_pos (by decide)]
  refine wpAny_bind (applied_back hs pl pu ps ?_)
  have hno : ¬ ((((items.size : Int) - 1) == 0 && (-1 : Int) == 1 && items.size == items.size) = true) := by
    rw [Bool.and_eq_true, Bool.and_eq_true]; rintro ⟨⟨_, z⟩, _⟩; cases z
  show wpAny _ _ (if (((items.size : Int) - 1) == 0 && (-1 : Int) == 1 && items.size == items.size) = true then _ else _) _ _ s
  rw [if_neg hno, pick_back]
  first
    | exact wpAny_bind (m := Builtin.Tuple.tupleExact _) (wpAny_newObj_type (wpAny_pure ⟨_, rfl, wpAny_pure h⟩) hok)
    | exact wpAny_bind (m := Builtin.Tuple.tupleExact _) (wpAny_newObj_type (wpAny_bind (wpAny_pure (wpAny_pure ⟨_, rfl, wpAny_pure h⟩))) hok)
    | exact wpAny_bind (wpAny_bind (m := Builtin.Tuple.tupleExact _) (wpAny_newObj_type (wpAny_pure (wpAny_pure ⟨_, rfl, wpAny_pure h⟩)) hok))
    | exact wpAny_bind (wpAny_bind (m := Builtin.Tuple.tupleExact _) (wpAny_newObj_type (wpAny_pure ⟨_, rfl, wpAny_pure h⟩) hok))
end
/-- xs[::-1], a list or a tuple -/
def tRevA (K : PySem.W.Frag) (te : TE) : TE := fun σ H Q => te σ H fun x H1 => ∃ (a : Addr) (xs : List V), x = .ref a ∧ ((SqL K H1 a xs ∧ ∀ p, H1 p = none → Q (.ref p) (upd H1 p (.lst xs.reverse))) ∨ (SqT K H1 a xs ∧ ∀ p, H1 p = none → Q (.ref p) (upd H1 p (.tup xs.reverse))))
theorem pe_revA {X : Cx} {e : Expr} {te : TE} {k : Nat} {p1 p2 p3 pos : Pos} (he : PE X e te) : PE X (.Subscript e (.Slice none none (some (.UnaryOp .USub (.Constant (.int 1) k p1) p2)) p3) pos) (tRevA X.K te) := by
  refine ⟨fun pins s σ H Q I h => Subscript_ (thn (he.run pins s σ H _ I h) fun v s1 ⟨x, H1, I1, r1, a, xs, ex, q1⟩ => ?_)⟩
  subst ex
  cases r1
  have hst : PO X (some (.UnaryOp .USub (.Constant (.int 1) k p1) p2)) (tPart (tUn (rU fun i => .int (-i)) (tC (.int 1)))) := po_some (pe_un un_neg pe_int)
  refine wpAny_Slice (thn (po_none.run pins s1 σ H1 (fun o H2 => o = none ∧ H2 = H1) I1 ⟨rfl, rfl⟩) fun vl s2 ⟨l, H2, I2, pl, eo1, eh1⟩ => ?_)
  subst eo1 eh1
  refine thn (po_none.run pins s2 σ H2 (fun o H3 => o = none ∧ H3 = H2) I2 ⟨rfl, rfl⟩) fun vu s3 ⟨u, H3, I3, pu, eo2, eh2⟩ => ?_
  subst eo2 eh2
  refine thn (hst.run pins s3 σ H3 (fun o H4 => o = some (-1) ∧ H4 = H3) I3 ⟨1, rfl, -1, rfl, rfl, rfl⟩) fun vs s4 ⟨o, H4, I4, ps, eo3, eh3⟩ => ?_
  subst eo3 eh3
  have J : Inv X pins σ H4 { s4 with heap := s4.heap.push { cls := .type "slice", data := .fields #[vl, vu, vs] } } := I4.kept (t' := s4.toks) fun _ _ z => Heap.get?_push_of_some _ z
  show wpAny (model X.prog X.w) X.A (subscriptTail e (.Slice none none (some (.UnaryOp .USub (.Constant (.int 1) k p1) p2)) p3) (.ref a) (.ref s4.heap.objs.size)) (EP X pins σ Q) X.xe { s4 with heap := s4.heap.push { cls := .type "slice", data := .fields #[vl, vu, vs] } }
  rcases q1 with ⟨hx, q⟩ | ⟨hx, q⟩
  · obtain ⟨its, r, ht, hz⟩ := J.list hx
    have hln := r.length
    refine tail_any (ops := [.ref a, .ref s4.heap.objs.size]) ht.isList.typeIs (PySem.slot_list_getitem.lookup) ?_ (by with_unfolding_all rfl)
    refine wpAny_getItem_list_slice ht.isList (Heap.IsSliceOf.new _ vl vu vs) pl pu ps (by decide) ?_ (by rw [List.size_toArray]; omega)
    rw [PySem.W.krv_pick]
    refine ⟨.ref _, _, J.laid (t' := s4.toks) (o := .lst xs.reverse) (fun _ _ z => Heap.get?_push_of_some _ z) (Nat.le_refl _) ?_, rfl, q _ (J.hok.fresh (Nat.le_refl _))⟩
    exact ⟨by rw [List.length_reverse]; exact hz, _, 0, r.reverse, Heap.get?_push_size _ rfl⟩
  · obtain ⟨its, r, ht, hz⟩ := J.tuple hx
    have hln := r.length
    refine tail_any (ops := [.ref a, .ref s4.heap.objs.size]) ht.typeIs PyProof.Rows.slot_tuple_getitem.lookup ?_ (by with_unfolding_all rfl)
    refine getItem_tuple_back ht (Heap.IsSliceOf.new _ vl vu vs) pl pu ps ?_ (by rw [List.size_toArray]; omega)
    refine ⟨.ref _, _, J.laid (t' := s4.toks) (o := .tup xs.reverse) (fun _ _ z => Heap.get?_push_of_some _ z) (Nat.le_refl _) ?_, rfl, q _ (J.hok.fresh (Nat.le_refl _))⟩
    exact ⟨by rw [List.length_reverse]; exact hz, _, r.reverse, IsTup.new _ _⟩

/-! ### enumerate over a tuple -/
set_option maxHeartbeats 1000000 in
theorem meets_enum1 {v : Value} {o : Obj} {H : Heap → Prop} (B : Begins v o H) :
    Meets (Builtin.«enumerate.__new__» ⟨[.type "enumerate", v], []⟩) (fun _ R s => H s.heap ∧
      R (.ok (.ret (.ref (s.heap.push o).objs.size))) { s with heap := (s.heap.push o).push { cls := .type "enumerate", data := .fields #[.none, .bool false, .ref s.heap.objs.size, rawInt 0, .none, .none] } }) :=
  .of_wp fun prog w A R s h => by
    obtain ⟨hp, g, d, tk, os⟩ := s
    obtain ⟨h1, h⟩ := h
    have hsub := sub_enumerate
    have q1 : ∀ {A' : Around} {E : Value → Shared → Prop} {Q : Value → Shared → Prop}, Q (.ref hp.objs.size) ⟨hp.push o, g, d, tk, os⟩ → wpAny (model prog w) A' (pyIter v) Q E ⟨hp, g, d, tk, os⟩ := fun q => B.iter prog w _ _ ⟨hp, g, d, tk, os⟩ _ h1 q
    wp_walk using q1
    refine wpAny_stack_any fun st => wpAny_pure ?_
    split
    · rename_i c _ _ _ _ _
      cases (c == Value.type "enumerate") <;> (wp_walk using q1; exact ⟨_, rfl, h⟩)
    · wp_walk using q1
      exact ⟨_, rfl, h⟩
section
variable {prog : Program} {w : World} {A : Around} {E : Value → Shared → Prop} {s : Shared}
theorem enum1_begins {v : Value} {o : Obj} {H : Heap → Prop} {Q : Value → Shared → Prop} (B : Begins v o H) (h1 : H s.heap)
    (h : ∀ h', IsEnum h' (s.heap.objs.size + 1) s.heap.objs.size 0 .none → h'.get? s.heap.objs.size = some o → (∀ b o, s.heap.get? b = some o → h'.get? b = some o) → Q (.ref (s.heap.objs.size + 1)) { s with heap := h' }) :
    wpAny (model prog w) A (call (.type "enumerate") [v]) Q E s := by
  refine callType_new F.called_enumerate (by decide) (F.typeCall_enumerate_1 _) (F.newCall_enumerate_1 _) (fun obj => F.args_object_init_2 obj _) F.entry_enumerate_new (meets_enum1 B) ⟨h1, ?_⟩
  have hz : (s.heap.push o).objs.size = s.heap.objs.size + 1 := Heap.size_push ..
  show _ ∧ _
  rw [hz]
  have he : IsEnum ((s.heap.push o).push { cls := .type "enumerate", data := .fields #[.none, .bool false, .ref s.heap.objs.size, rawInt 0, .none, .none] }) (s.heap.objs.size + 1) s.heap.objs.size 0 .none := by
    have z := Heap.get?_push_size (s.heap.push o) (o := { cls := .type "enumerate", data := .fields #[.none, .bool false, .ref s.heap.objs.size, rawInt 0, .none, .none] }) rfl
    rw [hz] at z
    exact z
  exact ⟨⟨_, he, rfl⟩, h _ he (Heap.get?_push_of_some _ (Heap.get?_push_size _ B.free)) fun _ _ z => Heap.get?_push_of_some _ (Heap.get?_push_of_some _ z)⟩
theorem enum_endT {e it t : Addr} {i : Nat} {c : Int} {items : Array Value} {old : Value} {Q : Option Value → Shared → Prop} (hh : A.handled = none) (he : IsEnum s.heap e it c old) (hit : s.heap.IsTupleIter it t i) (ht : s.heap.IsTuple t items) (hx : items[i]? = none)
    (hQ : ∀ h', Heap.ExtBut it s.heap h' → Q none { s with heap := h' }) : wpAny (model prog w) A (pyNext (.ref e)) Q E s := by
  have hty : s.TypeIs (.ref e) "enumerate" := ⟨_, he, rfl⟩
  unfold pyNext
  refine wpAny_bind (wpAny_attempt (wpAny_callSpecial?_slot (name := Str.ofString "__next__") hty F.slot_enumerate_next (wpAny_call_entry F.slot_enumerate_next hty F.entry_enumerate_next ?_ (F.args_enumerate_next_1 _))))
  show wpAny _ _ (field (.ref e) 2 >>= _) _ _ _
  refine wpAny_bind (wpAny_field he rfl (x := .ref it) rfl (wpAny_bind (wpAny_nextOf_tuple_end hh hit ht hx fun h' x he' hx' => ?_)))
  obtain ⟨ob, hob, hco⟩ := hx'
  exact wpAny_bind (wpAny_isInstance (T := "StopIteration") (b := true) ⟨ob, hob, hco⟩ isSubtype_stop (wpAny_pure (hQ _ he')))
end
/-- the tuple at a, the items in new pairs -/
def IteT (K : PySem.W.Frag) (a : Addr) : It :=
  ⟨fun i H => ∃ (xs : List V) (x : V), SqT K H a xs ∧ xs[i]? = some x,
    fun i H v H' => ∃ T x, v = .ref T ∧ H T = none ∧ H' = upd H T (.tup [.int (i : Nat), x]) ∧ ∀ xs, SqT K H a xs → xs[i]? = some x,
    fun i H => ∃ xs : List V, SqT K H a xs ∧ xs.length ≤ i⟩
theorem turn_enumT {P : Program} {w : World} {K : PySem.W.Frag} {elts : List Expr} {kk : Nat} {tpos : Pos} (a e it : Addr) :
    Turn P w K (.Tuple elts kk tpos) (IteT K a) [e, it] e (fun i h => (∃ old, IsEnum h e it ((i : Nat) : Int) old) ∧ h.IsTupleIter it a i ∧ e ≠ it) where
  mem := by simp
  obj := fun i h st b hb => by
    obtain ⟨⟨old, he⟩, ⟨o, ho, hc, hd⟩, _⟩ := st
    rcases (by simpa using hb : b = e ∨ b = it) with z | z
    · rw [z]; exact ⟨_, he, fun v q => nomatch q⟩
    · rw [z]; exact ⟨o, ho, fun v q => by rw [hd] at q; cases q⟩
  keep := fun i h h' st k => let ⟨⟨old, he⟩, hi, hne⟩ := st; ⟨⟨old, k e (by simp) _ he⟩, hi.at fun o q => k it (by simp) o q, hne⟩
  item := by
    intro X hP hw hK hc i pins s σ H E I hf st hg
    subst hP hw hK
    obtain ⟨⟨old, he⟩, hit, hne⟩ := st
    obtain ⟨xs, x, hq, hx⟩ := hg
    obtain ⟨its, rv, p, hz⟩ := I.tuple hq
    obtain ⟨u, hu, ru⟩ := rv.get hx
    have hel : e < s.heap.objs.size := Heap.lt_size he
    have hil : it < s.heap.objs.size := by obtain ⟨_, q, _⟩ := hit; exact Heap.lt_size q
    have hai : a ≠ it := fun z => by
      obtain ⟨o1, q1, q2, _⟩ := hit
      obtain ⟨o2, q3, q4, _⟩ := p
      rw [z, q1] at q3
      cases q3
      rw [q2] at q4
      injection q4 with z2
      exact absurd z2 (by decide)
    have hea : e ∉ [it, a] := fun z => by
      rcases (by simpa using z : e = it ∨ e = a) with z | z
      · exact hne z
      · obtain ⟨o2, q3, q4, _⟩ := p
        rw [← z, show s.heap.get? e = _ from he] at q3
        cases q3
        injection q4 with z2
        exact absurd z2 (by decide)
    have hi : i < its.toArray.size := by
      rw [List.size_toArray]
      exact (List.getElem?_eq_some_iff.mp hu).1
    refine wpAny_pyNext_enum_itemC (Draws.tuple (A := X.A.in1) (I.ok.hd hc) it a hai its.toArray) he (i := i) ⟨hit, p⟩ hi hne hea fun x' h' tk hP ho hst hT hsz hk => ?_
    have ex : x' = u := by
      have hP' : its[i]? = some x' := by simpa using hP
      rw [hu] at hP'
      exact (Option.some.inj hP').symm
    subst ex
    refine ⟨_, rfl, wpAny_letOwnedTupleGo_enum (s := { s with heap := h', toks := tk + 1 }) ho fun h'' he' sb => ?_⟩
    have hT2 : h''.get? s.heap.objs.size = some { cls := .type "tuple", data := .seq #[.int i tk, x'] } := (sb.2 _ (Nat.ne_of_gt hel)).trans hT
    have new : ObjOk X.prog X.w (upd H s.heap.objs.size (.tup [.int (i : Nat), x])) h'' s.heap.objs.size (.tup [.int (i : Nat), x]) := ⟨by show 2 ≤ sizeLine; decide, [.int i tk, x'], .cons ⟨_, rfl⟩ (.cons ru .nil), ⟨_, hT2, rfl, _, rfl⟩⟩
    have I1 : Inv X pins σ (upd H s.heap.objs.size (.tup [.int (i : Nat), x])) { s with heap := h'', toks := tk + 1 } :=
      I.turnedNew (ch := [e, it]) (fun b ob hb q => (sb.2 b (fun z => hb (by simp [z]))).trans (hk b ob (fun z => hb (by simp [z])) (fun z => hb (by simp [z])) q)) hf (Nat.le_refl _) new
    refine ⟨.ref s.heap.objs.size, _, I1, rfl, ⟨_, x, rfl, I.hok.fresh (Nat.le_refl _), rfl, fun ys hy => by rw [I.tuple_inj hy hq]; exact hx⟩, ⟨⟨x', ?_⟩, hst.1.at fun o q => (sb.2 it (Ne.symm hne)).trans q, hne⟩, fun b hb => ?_⟩
    · rw [show ((i + 1 : Nat) : Int) = (i : Int) + 1 by omega]
      exact he'
    · have hb' : b < s.heap.objs.size := by
        rcases (by simpa using hb : b = e ∨ b = it) with z | z
        · rw [z]; exact hel
        · rw [z]; exact hil
      rw [upd_ne (Nat.ne_of_lt hb')]
      exact (hf b hb).1
  done := by
    intro X hP hw hK hc i pins s σ H E I hf st hg
    subst hP hw hK
    obtain ⟨⟨old, he⟩, hit, hne⟩ := st
    obtain ⟨xs, hq, hx⟩ := hg
    obtain ⟨its, rv, p, hz⟩ := I.tuple hq
    obtain ⟨f0, f1, f2, f3, f4, f5⟩ := hf it (by simp)
    have hai : a ≠ it := fun z => by
      obtain ⟨o1, q1, q2, _⟩ := hit
      obtain ⟨o2, q3, q4, _⟩ := p
      rw [z, q1] at q3
      cases q3
      rw [q2] at q4
      injection q4 with z2
      exact absurd z2 (by decide)
    have hl := rv.length
    exact enum_endT (I.ok.hd hc) he hit p (by simp; omega) fun h' eb => ⟨rfl, I.turned (t' := s.toks) (fun b o hb q => eb b o hb q) f0 f1 f3 f4 f5⟩
  self := fun A i s Q E st h => let ⟨⟨_, he⟩, _⟩ := st; wpAny_pyIter_enum he h
def iEnumA (K : PySem.W.Frag) (ta : TA) : TI := fun σ H R => ta σ H fun vs H1 => ∃ (a : Addr) (xs : List V), vs = [.ref a] ∧ ((SqL K H1 a xs ∧ R (Ite K a) H1) ∨ (SqT K H1 a xs ∧ R (IteT K a) H1))
theorem pi_enumA {X : Cx} {e : Expr} {ta : TA} {p pos tpos : Pos} {elts : List Expr} {kk : Nat} (hg : Gl X "enumerate") (hm : X.mg "enumerate" = none) (ha : PA X [e] ta) (hs : starEach [e] X.env = [(false, eval e X.env)] := by rfl) :
    PI X (.Tuple elts kk tpos) (.Call (.Name "enumerate" p) [e] [] pos) (iEnumA X.K ta) := by
  refine ⟨fun pins s σ H R I h => Call_ (ld_blt I hg hm boot_enumerate (PyProof.Rows.callWith_type1 (thn (ha.run pos pins s σ H _ I h) fun us s1 ⟨vs, H1, I1, r1, a, xs, ex, q1⟩ => ?_) hs rfl))⟩
  subst ex
  have new : ∀ b ∈ [s1.heap.objs.size + 1, s1.heap.objs.size], FpOk X pins H1 b := fun b hb => by
    have hle : s1.heap.objs.size ≤ b := by
      rcases (by simpa using hb : b = s1.heap.objs.size + 1 ∨ b = s1.heap.objs.size) with z | z
      · rw [z]; exact Nat.le_add_right _ _
      · rw [z]; exact Nat.le_refl _
    exact I1.fpOk hle (I1.hok.fresh hle)
  cases r1 with
  | cons r rr =>
    cases rr
    cases r
    rcases q1 with ⟨hq, q⟩ | ⟨hq, q⟩
    · obtain ⟨its, rv, p', hz⟩ := I1.list hq
      refine call_enumerate_list p'.isList fun h' he hit hsz hk => wpAny_pyIter_enum he ?_
      exact ⟨s1.heap.objs.size + 1, [s1.heap.objs.size + 1, s1.heap.objs.size], _, _, H1, rfl, I1.kept (t' := s1.toks) hk, turn_enum a (s1.heap.objs.size + 1) s1.heap.objs.size, ⟨⟨.none, he⟩, hit, Nat.succ_ne_self _⟩, new, q⟩
    · obtain ⟨its, rv, p', hz⟩ := I1.tuple hq
      refine enum1_begins (begins_tuple a its.toArray) p' fun h' he hit hk => wpAny_pyIter_enum he ?_
      exact ⟨s1.heap.objs.size + 1, [s1.heap.objs.size + 1, s1.heap.objs.size], _, _, H1, rfl, I1.kept (t' := s1.toks) hk, turn_enumT a (s1.heap.objs.size + 1) s1.heap.objs.size, ⟨⟨.none, he⟩, ⟨_, hit, rfl, rfl⟩, Nat.succ_ne_self _⟩, new, q⟩
end R

set_option Elab.async false
set_option linter.all false
set_option maxRecDepth 100000
set_option maxHeartbeats 4000000
/-! R3w: set(list of whole numbers), sorted(set(..)) -/
namespace R
open PySem PySem.Spec PyProof.Rows L2
section
variable {P : Program} {w : World} {A : Around} {E : Value → Shared → Prop} {s : Shared}
/-- an empty set, new -/
abbrev eSet (w : World) : Obj := { cls := .type "set", dict := none, data := .set #[] 0 (.fresh 0 0 (!w.params.followText "set-order")) }
set_option maxRecDepth 100000 in
set_option maxHeartbeats 3200000 in
theorem call_set_lst {l : Addr} {items : Array Value} (ns : List Int) {Q : Value → Shared → Prop} (hh : A.handled = none) (hl : s.heap.IsList l items) (hit : IntsAre items.toList ns) (hb : ns.length + 1 < scanBound)
    (k : ∀ (h' : Heap) (tk c : Nat), SetR w h' s.heap.objs.size (fun j => decide (j ∈ ns)) c → c ≤ ns.length → (∀ b o, s.heap.get? b = some o → h'.get? b = some o) → Q (.ref s.heap.objs.size) { s with heap := h', toks := tk }) : wpAny (model P w) A (call (.type "set") [.ref l]) Q E s := by
  have hsz : items.size = ns.length := by
    have z := IntsAre.length hit
    rwa [Array.length_toList] at z
  obtain ⟨c0, t0, hmro⟩ := F.called_set.mro
  have f1 := F.called_set.made
  have f2 := F.called_set.sub
  refine wpAny_call (codeAny_of_tree ?_)
  show wpAny _ _ (callAny (.type "set") _) _ _ _
  refine wpAny_pure ⟨Code.quiet_builtin _ (by decide +kernel), codeAny_builtin F.entry_type_call ?_⟩
  rw [Around.under_plain (weight_type_call_type "set" [.ref l] []) rfl]
  have f3 := F.called_set.notType
  have f4 := F.called_set.canCreate
  have f5 := F.typeCall_set_1 (.ref l)
  repeat (any_goals (first | assumption | wp_step))
  refine codeAny_mono (code_set_led1 (.ref l) (E := E) (Q₁ := fun ob s₁ => ob = .ref s.heap.objs.size ∧ s₁ = { s with heap := s.heap.push (eSet w) }) ⟨rfl, rfl⟩) fun r s₁ hr => ?_
  cases r with
  | error e => exact hr
  | ok fl =>
    cases fl with
    | ret ob =>
      obtain ⟨rfl, rfl⟩ := hr
      have gS : (s.heap.push (eSet w)).get? s.heap.objs.size = some (eSet w) := Heap.get?_push_size _ rfl
      have hT : Shared.TypeIs { s with heap := s.heap.push (eSet w) } (.ref s.heap.objs.size) "set" := ⟨_, gS, rfl⟩
      have f6 := F.called_set.init.lookup
      have f7 := F.called_set.init.bind (.ref s.heap.objs.size)
      repeat (any_goals (first | assumption | wp_step))
      refine codeAny_mono (codeAny_call_builtin (R := wants (fun r s₂ => r = .none ∧ ∃ h' tk c, s₂ = { s with heap := h', toks := tk } ∧ SetR w h' s.heap.objs.size (fun j => decide (j ∈ ns)) c ∧ c ≤ ns.length ∧ (∀ b o, s.heap.get? b = some o → h'.get? b = some o)) E) F.called_set.init.plain F.entry_set_init (check_set_init_1 hT ?_)) fun r₂ s₂ hr₂ => ?_
      · obtain ⟨oL, gL, cL, nL', dL'⟩ := hl
        obtain ⟨a1, a2, a3, a4⟩ := oL
        simp only at cL dL'
        subst cL
        subst dL'
        have gL' : (s.heap.push (eSet w)).get? l = some { cls := .type "list", dict := a2, data := .seq items nL', slots := a4 } := Heap.get?_push_of_some _ gL
        have f8 := F.sub_list_set
        have f9 := F.sub_list_frozenset
        have f10 : (Value.type "list" == Value.type "dict") = false := by decide
        have hL : (s.heap.push (eSet w)).IsList l items := ⟨_, gL', rfl, nL', rfl⟩
        have lt0 : l < s.heap.objs.size := Heap.lt_size gL
        have z1 : (s.heap.push (eSet w)).objs.size = s.heap.objs.size + 1 := Heap.size_push ..
        have hh3 : A.in1.in1.in1.handled = none := by simp [hh]
        have ne1 : l ≠ (s.heap.push (eSet w)).objs.size := by rw [z1]; exact Nat.ne_of_lt (Nat.lt_succ_of_lt lt0)
        have ne2 : s.heap.objs.size ∉ [(s.heap.push (eSet w)).objs.size, l] := by
          rw [z1]
          simp only [List.mem_cons, List.mem_singleton, List.not_mem_nil, or_false, not_or]
          exact ⟨Nat.ne_of_lt (Nat.lt_succ_self _), Nat.ne_of_gt lt0⟩
        have hval : ∀ (i : Nat) (v : Value), items[i]? = some v → ∃ z t, ns[i]? = some z ∧ v = .int z t := fun i v hv => by
          have hi : i < ns.length := by rw [← hsz]; exact (Array.getElem?_eq_some_iff.mp hv).1
          obtain ⟨t, e⟩ := PyProof.Rows.IntsAre.int_at hit i v (by rw [Array.getElem?_toList]; exact hv)
          refine ⟨ns[i], t, List.getElem?_eq_getElem hi, ?_⟩
          rw [e, List.getD_eq_getElem?_getD, List.getElem?_eq_getElem hi] <;> rfl
        unfold Builtin.«set.__init__» noKeywords Builtin.Frozenset.updateFrom
        generalize hPI : pyIter = PI
        wp_walk
        subst hPI
        refine wpAny_pyIter_list hL (wpAny_bind (wpAny_runValue ?_))
        refine set_update_ints ((Walks.list hh3 _ l ne1 items).toS) s.heap.objs.size ne2 ns hsz hb hval (items.size - 0) 0 _ (by omega) (Nat.zero_le _) ⟨⟨_, Heap.get?_push_size _ rfl, rfl, rfl⟩, (hL.at fun o e => Heap.get?_push_of_some _ e)⟩ ⟨0, Nat.le_refl 0, setR_new_at (Heap.get?_push_of_some _ gS)⟩ ?_
        intro s' c' hm hc' hS'
        obtain ⟨h', g2, d2, tk', o2⟩ := s'
        have eg : g2 = s.gens := hm.gens
        have ed : d2 = s.drawn := hm.drawn
        have eo : o2 = s.os := hm.os
        subst eg ed eo
        show wpAny _ _ _ _ _ _
        refine wpAny_pure ?_
        show wpAny _ _ (ret Value.none) _ _ _
        rw [hsz] at hc'
        refine wpAny_pure ⟨rfl, h', tk', c', rfl, hS', hc', fun b o e => ?_⟩
        have b0 : b < s.heap.objs.size := Heap.lt_size e
        have b1 : b ≠ (s.heap.push (eSet w)).objs.size := by rw [z1]; exact Nat.ne_of_lt (Nat.lt_succ_of_lt b0)
        exact hm.heap b o (by simp only [List.mem_cons, List.mem_singleton, List.not_mem_nil, or_false, not_or]; exact ⟨Nat.ne_of_lt b0, b1⟩) (Heap.get?_push_of_some _ (Heap.get?_push_of_some _ e))
      · cases r₂ with
        | error e => exact hr₂
        | ok fl₂ =>
          cases fl₂ with
          | ret r =>
            obtain ⟨rfl, h', tk, c', rfl, z1, z2, z3⟩ := hr₂
            repeat (any_goals (first | assumption | wp_step))
            exact k _ _ _ z1 z2 z3
          | _ => exact hr₂.elim
    | _ => exact hr.elim
end
end R

set_option Elab.async false
set_option linter.all false
set_option maxRecDepth 100000
set_option maxHeartbeats 4000000
/-! R3a: readings; operators by values -/
namespace R
open PySem PySem.Spec PyProof.Rows L2

theorem sz_line : SZ = sizeLine := by rw [sizeLine_eq]; rfl
theorem PE.imp {X : Cx} {e : Expr} {t t' : TE} (h : PE X e t) (hi : ∀ σ H Q, t' σ H Q → t σ H Q) : PE X e t' := ⟨fun pins s σ H Q I q => h.run pins s σ H Q I (hi _ _ _ q)⟩
theorem PT.imp {X : Cx} {e : Expr} {t t' : TT} (h : PT X e t) (hi : ∀ σ H Q, t' σ H Q → t σ H Q) : PT X e t' := ⟨fun pins s σ H Q I q => h.run pins s σ H Q I (hi _ _ _ q)⟩
theorem PW.imp {X : Cx} {e : Expr} {t t' : TT} (h : PW X e t) (hi : ∀ σ H Q, t' σ H Q → t σ H Q) : PW X e t' := ⟨fun w pins s σ H Q I q => h.run w pins s σ H Q I (hi _ _ _ q)⟩
theorem PA.imp {X : Cx} {e : List Expr} {t t' : TA} (h : PA X e t) (hi : ∀ σ H Q, t' σ H Q → t σ H Q) : PA X e t' := ⟨fun p pins s σ H Q I q => h.run p pins s σ H Q I (hi _ _ _ q)⟩
theorem PS.imp {X : Cx} {e : Stmt} {t t' : TS} (h : PS X e t) (hi : ∀ D σ H, t' D σ H → t D σ H) : PS X e t' := ⟨fun pins s σ H D I q => h.run pins s σ H D I (hi _ _ _ q)⟩
theorem PSs.imp {X : Cx} {e : List Stmt} {t t' : TS} (h : PSs X e t) (hi : ∀ D σ H, t' D σ H → t D σ H) : PSs X e t' := ⟨fun pins s σ H D I q => h.run pins s σ H D I (hi _ _ _ q)⟩
theorem OpR.imp {X : Cx} {f : Value → Value → Sem Value} {r r' : R2} (h : OpR X f r) (hi : ∀ x y H Q, r' x y H Q → r x y H Q) : OpR X f r' := fun pins s σ H x y v u Q I rx ry q => h pins s σ H x y v u Q I rx ry (hi _ _ _ _ q)

section
variable (K : PySem.W.Frag) (fa : Nat → Option Addr)
/-- the frame's names -/
structure EnvR (t m : List Addr) (H : Hp) (σ : Env) (σV : L2.St) : Prop where
  len : σ.length = σV.length
  at_ : ∀ (i : Nat) (u : U), σ[i]? = some (some u) → ∃ v, σV[i]? = some (some v) ∧ Rp K fa t m m.length H u v
/-- what is known behind -/
def Kn (bs : List Nat) (t m : List Addr) (H : Hp) (u : U) (μ' : Mu) (Q : VK) : Prop :=
  ∀ m' H' v, Ex m H m' H' → Me K fa bs t m' H' μ' → Rp K fa t m' m'.length H' u v → Q v H'
def KnA (bs : List Nat) (t m : List Addr) (H : Hp) (us : List U) (μ' : Mu) (Q : List V → Hp → Prop) : Prop :=
  ∀ m' H' vs, Ex m H m' H' → Me K fa bs t m' H' μ' → RpA K fa t m' m'.length H' us vs → Q vs H'
abbrev Ev := Env → Mu → Option (U × Mu)
def tE (n0 : Nat) (ev : Ev) : TE := fun σV H Q => ∃ t bs m σ μ u μ', bs.length = n0 ∧ EnvR K fa t m H σ σV ∧ Me K fa bs t m H μ ∧ ev σ μ = some (u, μ') ∧ Kn K fa bs t m H u μ' Q
def tT (n0 : Nat) (ev : Ev) : TT := fun σV H Q => ∃ t bs m σ μ u μ' b, bs.length = n0 ∧ EnvR K fa t m H σ σV ∧ Me K fa bs t m H μ ∧ ev σ μ = some (u, μ') ∧ truth μ' u = some b ∧
  ∀ m' H', Ex m H m' H' → Me K fa bs t m' H' μ' → Q b H'
def tL (n0 : Nat) (ev : Env → Mu → Option (List U × Mu)) : TA := fun σV H Q => ∃ t bs m σ μ us μ', bs.length = n0 ∧ EnvR K fa t m H σ σV ∧ Me K fa bs t m H μ ∧ ev σ μ = some (us, μ') ∧ KnA K fa bs t m H us μ' Q
/-- two values, then something -/
def rV2 (f : Mu → U → U → Option (U × Mu)) : R2 := fun x y H Q => ∃ t bs m μ a b u μ', Me K fa bs t m H μ ∧ Rp K fa t m m.length H a x ∧ Rp K fa t m m.length H b y ∧ f μ a b = some (u, μ') ∧ Kn K fa bs t m H u μ' Q
end
section
variable {K : PySem.W.Frag} {fa : Nat → Option Addr} {t m m' : List Addr} {H H' : Hp} {σ : Env} {σV : L2.St} {bs : List Nat} {μ μ' : Mu} {u : U} {v : V} {Q : VK} {n0 : Nat}
theorem EnvR.ex (h : EnvR K fa t m H σ σV) (e : Ex m H m' H') : EnvR K fa t m' H' σ σV := ⟨h.len, fun i u q => let ⟨v, a, b⟩ := h.at_ i u q; ⟨v, a, b.ex e e.len⟩⟩
theorem Rp.ex' (h : Rp K fa t m m.length H u v) (e : Ex m H m' H') : Rp K fa t m' m'.length H' u v := h.ex e e.len
theorem RpA.ex' {us : List U} {vs : List V} (h : RpA K fa t m m.length H us vs) (e : Ex m H m' H') : RpA K fa t m' m'.length H' us vs := h.ex e e.len
theorem Kn.ex (k : Kn K fa bs t m H u μ' Q) (e : Ex m H m' H') : Kn K fa bs t m' H' u μ' Q := fun m2 H2 v e2 M r => k m2 H2 v (e.trans e2) M r
/-- nothing changes -/
theorem Kn.here (k : Kn K fa bs t m H u μ Q) (M : Me K fa bs t m H μ) (r : Rp K fa t m m.length H u v) : Q v H := k m H v (Ex.refl m H) M r
/-- a new frozen object -/
theorem Kn.new {p : Addr} {o : HO} (k : Kn K fa bs t m H u μ Q) (M : Me K fa bs t m H μ) (h : H p = none) (r : Rp K fa t m m.length (upd H p o) u v) : Q v (upd H p o) := k m _ v (Ex.upd h) (M.upd h) r
/-- a new tuple -/
theorem Kn.tup {p : Addr} {xs : List U} {vs : List V} (k : Kn K fa bs t m H (.tup xs) μ Q) (M : Me K fa bs t m H μ) (h : H p = none) (r : RpA K fa t m m.length H xs vs) : Q (.ref p) (upd H p (.tup vs)) := by
  obtain ⟨n1, n2⟩ := M.fresh h
  exact k.new M h (.tup ⟨upd_same, n1, n2⟩ (r.ex' (Ex.upd h)))
/-- a new list, frozen or mutable -/
theorem Kn.lst {p : Addr} {xs : List U} {vs : List V} {al : Bool} (k : Kn K fa bs t m H (fresh al (.lst xs) μ).1 (fresh al (.lst xs) μ).2 Q) (M : Me K fa bs t m H μ) (h : H p = none) (r : RpA K fa t m m.length H xs vs) : Q (.ref p) (upd H p (.lst vs)) := by
  obtain ⟨n1, n2⟩ := M.fresh h
  cases al with
  | false => exact k.new M h (.lst ⟨upd_same, n1, n2⟩ (r.ex' (Ex.upd h)))
  | true =>
    have e : Ex m H (m ++ [p]) (upd H p (.lst vs)) := Ex.alloc h
    refine k (m ++ [p]) _ _ e (M.alloc h (.lst upd_same (r.ex e (by simp)))) (.ob (by simp [← M.len]) (by simp [← M.len]))
theorem Kn.dk {p : Addr} {kvs : List (Key × V)} {us : List U} {al : Bool} (k : Kn K fa bs t m H (fresh al (.dk (kvs.map (·.1)) us) μ).1 (fresh al (.dk (kvs.map (·.1)) us) μ).2 Q) (M : Me K fa bs t m H μ) (h : H p = none) (r : RpA K fa t m m.length H us (kvs.map (·.2))) : Q (.ref p) (upd H p (.dK kvs)) := by
  obtain ⟨n1, n2⟩ := M.fresh h
  cases al with
  | false => exact k.new M h (.dK upd_same n1 n2 (r.ex' (Ex.upd h)))
  | true =>
    have e : Ex m H (m ++ [p]) (upd H p (.dK kvs)) := Ex.alloc h
    refine k (m ++ [p]) _ _ e (M.alloc h (.dK upd_same (r.ex e (by simp)))) (.ob (by simp [← M.len]) (by simp [← M.len]))
theorem Kn.dt {p : Addr} {kvs : List (List Key × V)} {us : List U} {al : Bool} (k : Kn K fa bs t m H (fresh al (.dt (kvs.map (·.1)) us) μ).1 (fresh al (.dt (kvs.map (·.1)) us) μ).2 Q) (M : Me K fa bs t m H μ) (h : H p = none) (r : RpA K fa t m m.length H us (kvs.map (·.2))) : Q (.ref p) (upd H p (.dT kvs)) := by
  obtain ⟨n1, n2⟩ := M.fresh h
  cases al with
  | false => exact k.new M h (.dT upd_same n1 n2 (r.ex' (Ex.upd h)))
  | true =>
    have e : Ex m H (m ++ [p]) (upd H p (.dT kvs)) := Ex.alloc h
    refine k (m ++ [p]) _ _ e (M.alloc h (.dT upd_same (r.ex e (by simp)))) (.ob (by simp [← M.len]) (by simp [← M.len]))
/-- the object of a mutable one -/
theorem Me.obj (M : Me K fa bs t m H μ) {i : Nat} {v : V} {o : U} (r : Rp K fa t m m.length H (.ob i) v) (h : μ[i]? = some o) : ∃ a, v = .ref a ∧ m[i]? = some a ∧ Ct K fa t m (bs[i]?.getD m.length) H a o := by
  cases r with
  | ob hi ha => exact ⟨_, rfl, ha, M.ct i _ _ ha h⟩
theorem Me.objF (M : Me K fa bs t m H μ) {i : Nat} {v : V} {o : U} (r : Rp K fa t m m.length H (.ob i) v) (h : μ[i]? = some o) : ∃ a, v = .ref a ∧ m[i]? = some a ∧ Ct K fa t m m.length H a o := by
  obtain ⟨a, h1, h2, c⟩ := M.obj r h
  exact ⟨a, h1, h2, c.ex (Ex.refl m H) (M.bnd i) rfl⟩
/-- what stands as a list: frozen or mutable -/
theorem asL_ok (M : Me K fa bs t m H μ) {u : U} {v : V} {xs : List U} (r : Rp K fa t m m.length H u v) (h : asL μ u = some xs) : ∃ a vs, v = .ref a ∧ SqL K H a vs ∧ RpA K fa t m m.length H xs vs := by
  cases u with
  | lst ys =>
    cases h
    cases r with
    | lst f ra => exact ⟨_, _, rfl, f.sq, ra⟩
  | ob i =>
    simp only [asL] at h
    split at h
    · rename_i ys e
      cases h
      obtain ⟨a, rfl, ha, c⟩ := M.objF r e
      cases c with
      | lst hH ra => exact ⟨a, _, rfl, SqL.of hH, ra⟩
    · cases h
  | _ => simp [asL] at h
theorem asL_at (M : Me K fa bs t m H μ) {u : U} {v : V} {xs : List U} (r : Rp K fa t m m.length H u v) (h : asL μ u = some xs) : ∃ a vs, v = .ref a ∧ H a = some (.lst vs) ∧ RpA K fa t m m.length H xs vs := by
  cases u with
  | lst ys =>
    cases h
    cases r with
    | lst f ra => exact ⟨_, _, rfl, f.1, ra⟩
  | ob i =>
    simp only [asL] at h
    split at h
    · rename_i ys e
      cases h
      obtain ⟨a, rfl, ha, c⟩ := M.objF r e
      cases c with
      | lst hH ra => exact ⟨a, _, rfl, hH, ra⟩
    · cases h
  | _ => simp [asL] at h
theorem asS_ok (M : Me K fa bs t m H μ) {u : U} {v : V} {xs : List U} (r : Rp K fa t m m.length H u v) (h : asS μ u = some xs) : ∃ a vs, v = .ref a ∧ (SqL K H a vs ∨ SqT K H a vs) ∧ RpA K fa t m m.length H xs vs := by
  cases u with
  | tup ys =>
    cases h
    cases r with
    | tup f ra => exact ⟨_, _, rfl, .inr f.sq, ra⟩
  | _ =>
    obtain ⟨a, vs, e, f, ra⟩ := asL_ok M r h
    exact ⟨a, vs, e, .inl f, ra⟩

/-! ### data -/
theorem mapO_len {α β : Type} {f : α → Option β} : ∀ {xs : List α} {ys : List β}, mapO f xs = some ys → xs.length = ys.length
  | [], _, h => by cases h; rfl
  | x :: xs, ys, h => by
    simp only [mapO] at h
    split at h
    · split at h
      · rename_i e; cases h; simp [mapO_len e]
      · cases h
    · cases h
theorem mapO_cons {α β : Type} {f : α → Option β} {x : α} {xs : List α} {ys : List β} (h : mapO f (x :: xs) = some ys) : ∃ z zs, f x = some z ∧ mapO f xs = some zs ∧ ys = z :: zs := by
  simp only [mapO] at h
  split at h
  · rename_i z e
    split at h
    · rename_i zs e'; cases h; exact ⟨z, zs, e, e', rfl⟩
    · cases h
  · cases h
mutual
theorem Dp.of (M : Me K fa bs t m H μ) : ∀ (k : Nat) (u : U) (v : V) (d : PyData), Rp K fa t m m.length H u v → dat μ k u = some d → Dp K H v d ∧ d.plain = true ∧ d.depth ≤ k
  | k, .non, v, d, r, h => by
    cases r; simp [dat] at h; subst h; exact ⟨.non, rfl, Nat.zero_le _⟩
  | k, .bl b, v, d, r, h => by
    cases r; simp [dat] at h; subst h; exact ⟨.bl b, rfl, Nat.zero_le _⟩
  | k, .int i, v, d, r, h => by
    cases r; simp [dat] at h; subst h; exact ⟨.int i, rfl, Nat.zero_le _⟩
  | k, .str x, v, d, r, h => by
    cases r; simp [dat] at h; subst h; exact ⟨.str x, rfl, Nat.zero_le _⟩
  | 0, .tup xs, v, d, r, h => by simp [dat] at h
  | k + 1, .tup xs, v, d, r, h => by
    simp only [dat] at h
    split at h
    · rename_i ds e
      cases h
      cases r with
      | tup f ra =>
        obtain ⟨h1, h2, h3⟩ := Dp.ofs M k xs _ ds ra e
        exact ⟨.tup f.sq h1, h2, by simp only [PyData.depth]; omega⟩
    · cases h
  | 0, .lst xs, v, d, r, h => by simp [dat] at h
  | k + 1, .lst xs, v, d, r, h => by
    simp only [dat] at h
    split at h
    · rename_i ds e
      cases h
      cases r with
      | lst f ra =>
        obtain ⟨h1, h2, h3⟩ := Dp.ofs M k xs _ ds ra e
        exact ⟨.lst f.sq h1, h2, by simp only [PyData.depth]; omega⟩
    · cases h
  | 0, .ob i, v, d, r, h => by simp [dat] at h
  | k + 1, .ob i, v, d, r, h => by
    simp only [dat] at h
    split at h
    · rename_i o e
      obtain ⟨a, rfl, ha, c⟩ := M.objF r e
      cases c with
      | lst hH ra =>
        cases k with
        | zero => simp [dat] at h
        | succ k =>
          simp only [dat] at h
          split at h
          · rename_i ds e
            cases h
            obtain ⟨h1, h2, h3⟩ := Dp.ofs M k _ _ ds ra e
            exact ⟨.lst (SqL.of hH) h1, h2, by simp only [PyData.depth]; omega⟩
          · cases h
      | dK _ _ => cases k <;> simp [dat] at h
      | dT _ _ => cases k <;> simp [dat] at h
    · cases h
  | k, .dk _ _, v, d, r, h => by cases k <;> simp [dat] at h
  | k, .dt _ _, v, d, r, h => by cases k <;> simp [dat] at h
  | k, .fn _, v, d, r, h => by cases k <;> simp [dat] at h
  | k, .scr _, v, d, r, h => by cases k <;> simp [dat] at h
theorem Dp.ofs (M : Me K fa bs t m H μ) : ∀ (k : Nat) (us : List U) (vs : List V) (ds : List PyData), RpA K fa t m m.length H us vs → mapO (dat μ k) us = some ds → DpAll K H vs ds ∧ PyData.plainAll ds = true ∧ PyData.depthAll ds ≤ k
  | k, [], _, ds, .nil, h => by cases h; exact ⟨.nil, rfl, Nat.zero_le _⟩
  | k, u :: us, _, ds, .cons r ra, h => by
    obtain ⟨z, zs, e1, e2, rfl⟩ := mapO_cons h
    obtain ⟨a1, a2, a3⟩ := Dp.of M k u _ z r e1
    obtain ⟨b1, b2, b3⟩ := Dp.ofs M k us _ zs ra e2
    exact ⟨.cons a1 b1, by simp [PyData.plainAll, a2, b2], by simp only [PyData.depthAll]; omega⟩
end
end
end R

set_option Elab.async false
set_option linter.all false
set_option maxRecDepth 100000
set_option maxHeartbeats 4000000
/-! R3t: tuple * int, any -/
namespace R
open PySem PySem.Spec PyProof.Rows L2
open AutoSeq1 (wpAny_loadPart')

theorem tuple_mul0 (l : Addr) (items : Array Value) (n : Nat) (dd : Option Addr) (sl : Array (Option Value)) (x : Int) (u : Tok) (c0 : (decide (x < -(2 ^ 63)) || decide (x ≥ 2 ^ 63)) = false) (c1 : (items.isEmpty || x == 1) = false) (c2 : (decide (x ≤ 0) || items.isEmpty) = true) :
    Meets (Builtin.«tuple.__mul__» ⟨[.ref l, .int x u], []⟩) (fun _ R s => s.heap.get? l = some { cls := .type "tuple", dict := dd, data := .seq items n, slots := sl } ∧
      R (.ok (.ret (Value.ref s.heap.objs.size))) { s with heap := s.heap.push { cls := Value.type "tuple", data := Data.seq #[] }, toks := s.toks }) :=
  .of_wp fun prog w A R s h => by
    obtain ⟨hp, g, d, tk, os⟩ := s
    obtain ⟨hl, h⟩ := h
    have f1 := AutoSeq1.idx_int
    wp_walk using wpAny_loadPart' hl
    repeat (first
      | (refine wpAny_ite_false (decide_eq_false (by rw [c0]; exact Bool.false_ne_true)) ?_; wp_walk using wpAny_loadPart' hl)
      | (refine wpAny_ite_false (decide_eq_false (by rw [c1]; exact Bool.false_ne_true)) ?_; wp_walk using wpAny_loadPart' hl)
      | (refine wpAny_ite_true (decide_eq_true c2) ?_; wp_walk using wpAny_loadPart' hl))
    exact ⟨_, rfl, h⟩
theorem tuple_mul1 (l : Addr) (items : Array Value) (n : Nat) (dd : Option Addr) (sl : Array (Option Value)) (x : Int) (u : Tok) (c0 : (decide (x < -(2 ^ 63)) || decide (x ≥ 2 ^ 63)) = false) (c1 : (items.isEmpty || x == 1) = true) :
    Meets (Builtin.«tuple.__mul__» ⟨[.ref l, .int x u], []⟩) (fun _ R s => s.heap.get? l = some { cls := .type "tuple", dict := dd, data := .seq items n, slots := sl } ∧
      R (.ok (.ret (Value.ref l))) { s with heap := s.heap, toks := s.toks }) :=
  .of_wp fun prog w A R s h => by
    obtain ⟨hp, g, d, tk, os⟩ := s
    obtain ⟨hl, h⟩ := h
    have f1 := AutoSeq1.idx_int
    wp_walk using wpAny_loadPart' hl
    repeat (first
      | (refine wpAny_ite_false (decide_eq_false (by rw [c0]; exact Bool.false_ne_true)) ?_; wp_walk using wpAny_loadPart' hl)
      | (refine wpAny_ite_true (decide_eq_true c1) ?_; wp_walk using wpAny_loadPart' hl))
    exact ⟨_, rfl, h⟩

def rMulT (K : PySem.W.Frag) : R2 := fun x y H Q => ∃ l k xs, x = .ref l ∧ y = .int k ∧ SqT K H l xs ∧ -(2 ^ 63) ≤ k ∧ k < 2 ^ 63 ∧ xs.length * k.toNat ≤ sizeLine ∧
  ((xs = [] ∨ k = 1) → Q (.ref l) H) ∧ (¬ (xs = [] ∨ k = 1) → ∀ p, H p = none → Q (.ref p) (upd H p (.tup (List.replicate k.toNat xs).flatten)))
section
variable {X : Cx}
theorem op_mulT : OpR X (binaryOp .Mult) (rMulT X.K) := by
  intro pins s σ H x y v u Q I rx ry h
  obtain ⟨l, k, xs, rfl, rfl, hT, h1, h2, hz, q1, q2⟩ := h
  cases rx
  obtain ⟨t, rfl⟩ := ry
  obtain ⟨its, r, ⟨⟨cls, dd, data, sl⟩, ho, hc, n, hd⟩, hs⟩ := I.tuple hT
  simp only at hc hd
  subst hc hd
  have hle : its.length = xs.length := r.length.symm
  have c0 : (decide (k < -(2 ^ 63)) || decide (k ≥ 2 ^ 63)) = false := by
    rw [decide_eq_false (by omega), decide_eq_false (by omega)] <;> rfl
  have hsz0 : its.toArray.size = xs.length := by rw [List.size_toArray, hle]
  have he : its.toArray.isEmpty = decide (xs = []) := by
    cases its with
    | nil => cases r; rfl
    | cons a b => cases r; rfl
  refine wpAny_binaryOp_repeat_ref (T := "tuple") (U := "int") (by decide) ⟨_, ho, rfl⟩ (fun s' => typeIs_int s' k t) noFill_tuple_mul F.fills_int_mul F.slot_int_rmul repeat_tuple F.slot_int_index.lookup
    (call_meets F.slot_int_rmul (typeIs_int s k t) F.entry_int_rmul (F.args_int_rmul_2 _ _) (int_rmul_tuple k t l its.toArray n dd sl)
      ⟨ho, rfl, ⟨_, ho, rfl⟩, ?_⟩)
  by_cases hw : xs = [] ∨ k = 1
  · have c1 : (its.toArray.isEmpty || k == 1) = true := by
      rw [he]
      rcases hw with e | e
      · simp [e]
      · simp [e]
    exact call_meets F.slot_tuple_mul ⟨_, ho, rfl⟩ F.entry_tuple_mul (F.args_tuple_mul_2 _ _) (tuple_mul1 l its.toArray n dd sl k t c0 c1) ⟨ho, ⟨.ref l, H, I, rfl, q1 hw⟩⟩
  · have hne : xs ≠ [] := fun e => hw (.inl e)
    have hk1 : k ≠ 1 := fun e => hw (.inr e)
    have hi : its.toArray.isEmpty = false := by rw [he]; exact decide_eq_false hne
    have c1 : (its.toArray.isEmpty || k == 1) = false := by
      rw [hi, Bool.false_or]
      exact beq_eq_false_iff_ne.mpr hk1
    by_cases hk : k ≤ 0
    · have c2 : (decide (k ≤ 0) || its.toArray.isEmpty) = true := by simp [hk]
      refine call_meets F.slot_tuple_mul ⟨_, ho, rfl⟩ F.entry_tuple_mul (F.args_tuple_mul_2 _ _) (tuple_mul0 l its.toArray n dd sl k t c0 c1 c2) ⟨ho, ?_⟩
      have e0 : (List.replicate k.toNat xs).flatten = [] := by rw [show k.toNat = 0 by omega]; rfl
      have qq := q2 hw s.heap.objs.size (I.hok.fresh (Nat.le_refl _))
      rw [e0] at qq
      exact ⟨.ref s.heap.objs.size, _, I.laid (t' := s.toks) (o := .tup []) (fun b ob q => Heap.get?_push_of_some _ q) (Nat.le_refl _) ⟨Nat.zero_le _, [], .nil, IsTup.new _ _⟩, rfl, qq⟩
    · have c2 : (decide (k ≤ 0) || its.toArray.isEmpty) = false := by
        rw [hi, Bool.or_false]
        exact decide_eq_false (by omega)
      have flen : (List.replicate k.toNat its).flatten.length ≤ sizeLine := by
        rw [PyProof.Rows.lm_len_rep_flat, hle, Nat.mul_comm]; exact hz
      have hm : ((its.toArray.size : Nat) : Int) * k ≤ sizeLine := by
        rw [hsz0]
        have : ((xs.length * k.toNat : Nat) : Int) ≤ (sizeLine : Nat) := by exact_mod_cast hz
        rw [Int.natCast_mul, Int.toNat_of_nonneg (by omega)] at this
        exact this
      have hsl := sizeLine_eq
      have c4 : Builtin.Tuple.tupleTooMany (((its.toArray.size : Nat) : Int) * k) = false := by
        unfold Builtin.Tuple.tupleTooMany
        rw [sizeLine_eq]
        exact decide_eq_false (by omega)
      refine call_meets F.slot_tuple_mul ⟨_, ho, rfl⟩ F.entry_tuple_mul (F.args_tuple_mul_2 _ _) (tuple_mulW l its.toArray n dd sl k t c0 c1 c2 (by omega) c4 (by rw [size_rep, List.size_toArray]; exact flen)) ⟨ho, ?_⟩
      rw [size_rep]
      refine ⟨.ref s.heap.objs.size, _, I.laid (t' := s.toks) (o := .tup (List.replicate k.toNat xs).flatten) (fun b ob q => Heap.get?_push_of_some _ q) (Nat.le_refl _) ?_, rfl, q2 hw _ (I.hok.fresh (Nat.le_refl _))⟩
      exact ⟨by rw [PyProof.Rows.lm_len_rep_flat, Nat.mul_comm]; exact hz, _, r.rep k.toNat, IsTup.new _ _⟩
end
end R

set_option Elab.async false
set_option linter.all false
set_option maxRecDepth 100000
set_option maxHeartbeats 4000000
/-! R3b: operators by values -/
namespace R
open PySem PySem.Spec PyProof.Rows L2

def Bo.op : Bo → Operator
  | .add => .Add | .sub => .Sub | .mul => .Mult | .fdiv => .FloorDiv | .mod => .Mod | .pow => .Pow | .shl => .LShift | .shr => .RShift | .band => .BitAnd | .bor => .BitOr | .bxor => .BitXor
def Co.op : Co → CmpOp
  | .eq => .Eq | .ne => .NotEq | .lt => .Lt | .le => .LtE | .gt => .Gt | .ge => .GtE | .isin => .In | .notin => .NotIn | .is_ => .Is | .isnot => .IsNot

section
variable {X : Cx} {fa : Nat → Option Addr}
theorem logW {j : Int} (h : 0 < j ∧ j < 18446744073709551616) : j.natAbs.log2 < 9000 := by
  have h1 : j.natAbs < 2 ^ 64 := by omega
  have := (Nat.log2_lt (n := j.natAbs) (k := 64) (by omega)).mpr h1
  omega
theorem binR (al : Bool) (op : Bo) : OpR X (binaryOp op.op) (rV2 X.K fa fun μ a b => evBin al μ op a b) := by
  intro pins s σ H x y v u Q I rx ry h
  obtain ⟨t, bs, m, μ, a, b, w, μ', M, ra, rb, h, k⟩ := h
  have hz := sz_line
  simp only [evBin] at h
  split at h
  · cases h; cases ra; cases rb; exact op_add pins s σ H _ _ v u Q I rx ry ⟨_, _, rfl, rfl, k.here M (.int _)⟩
  · cases h; cases ra; cases rb; exact op_sub pins s σ H _ _ v u Q I rx ry ⟨_, _, rfl, rfl, k.here M (.int _)⟩
  · split at h
    · rename_i hm
      cases h; cases ra; cases rb
      refine op_mul pins s σ H _ _ v u Q I rx ry ⟨_, _, rfl, rfl, ?_, k.here M (.int _)⟩
      simpa [mulOk, CMul] using hm
    · cases h
  · split at h
    · rename_i hm
      cases h; cases ra; cases rb
      refine op_fdivW pins s σ H _ _ v u Q I rx ry ⟨_, _, rfl, rfl, ⟨hm.1, logW hm⟩, k.here M (.int _)⟩
    · cases h
  · split at h
    · rename_i hm
      cases h; cases ra; cases rb
      exact op_mod pins s σ H _ _ v u Q I rx ry ⟨_, _, rfl, rfl, hm, k.here M (.int _)⟩
    · cases h
  · split at h
    · rename_i hm
      cases h; cases ra; cases rb
      exact op_pow pins s σ H _ _ v u Q I rx ry ⟨_, _, rfl, rfl, hm, k.here M (.int _)⟩
    · cases h
  · split at h
    · rename_i hm
      cases h; cases ra; cases rb
      exact op_shl pins s σ H _ _ v u Q I rx ry ⟨_, _, rfl, rfl, hm, k.here M (.int _)⟩
    · cases h
  · split at h
    · rename_i hm
      cases h; cases ra; cases rb
      exact op_shr pins s σ H _ _ v u Q I rx ry ⟨_, _, rfl, rfl, hm, k.here M (.int _)⟩
    · cases h
  · cases h; cases ra; cases rb; exact op_and pins s σ H _ _ v u Q I rx ry ⟨_, _, rfl, rfl, k.here M (.int _)⟩
  · cases h; cases ra; cases rb; exact op_or pins s σ H _ _ v u Q I rx ry ⟨_, _, rfl, rfl, k.here M (.int _)⟩
  · cases h; cases ra; cases rb; exact op_xor pins s σ H _ _ v u Q I rx ry ⟨_, _, rfl, rfl, k.here M (.int _)⟩
  · split at h
    · rename_i hm
      cases h; cases ra; cases rb
      exact op_add_str pins s σ H _ _ v u Q I rx ry ⟨_, _, rfl, rfl, by omega, k.here M (.str _)⟩
    · cases h
  · split at h
    · rename_i xs ys hm
      cases h
      cases ra with
      | tup f1 r1 =>
        cases rb with
        | tup f2 r2 =>
          have l1 := r1.length
          have l2 := r2.length
          refine op_catA pins s σ H _ _ v u Q I rx ry ⟨_, _, _, _, rfl, rfl, f1.sq, f2.sq, by omega, fun e => ?_, fun _ e => ?_, fun _ _ p hp => k.tup M hp (r1.append r2)⟩
          · subst e
            cases r1
            exact k.here M (.tup f2 r2)
          · subst e
            cases r2
            refine k.here M ?_
            rw [List.append_nil]
            exact .tup f1 r1
    · cases h
  · split at h
    · rename_i xs ys e1 e2
      split at h
      · rename_i hm
        obtain ⟨rfl, rfl⟩ := Prod.mk.inj (Option.some.inj h)
        obtain ⟨l, vs, rfl, hl, r1⟩ := asL_at M ra e1
        obtain ⟨l', ws, rfl, hl', r2⟩ := asL_at M rb e2
        have l1 := r1.length
        have l2 := r2.length
        exact op_cat pins s σ H _ _ v u Q I rx ry ⟨_, _, _, _, rfl, rfl, hl, hl', by omega, fun p hp => k.lst M hp (r1.append r2)⟩
      · cases h
    · cases h
  · split at h
    · rename_i xs kk hm
      cases h
      cases ra with
      | tup f1 r1 =>
        cases rb
        have l1 := r1.length
        refine op_mulT pins s σ H _ _ v u Q I rx ry ⟨_, _, _, rfl, rfl, f1.sq, hm.1, hm.2.1, by rw [← l1]; omega, fun e => ?_, fun _ p hp => k.tup M hp (r1.rep _)⟩
        refine k.here M ?_
        rcases e with e | e
        · subst e
          cases r1
          have : (List.replicate (Int.toNat kk) ([] : List U)).flatten = [] := List.flatten_replicate_nil
          rw [this]
          exact .tup f1 .nil
        · rw [e]
          have : (List.replicate (Int.toNat 1) xs).flatten = xs := by
            show (List.replicate 1 xs).flatten = xs
            simp
          rw [this]
          exact .tup f1 r1
    · cases h
  · split at h
    · rename_i xs e1
      split at h
      · rename_i hm
        obtain ⟨rfl, rfl⟩ := Prod.mk.inj (Option.some.inj h)
        obtain ⟨l, vs, rfl, hl, r1⟩ := asL_at M ra e1
        cases rb
        have l1 := r1.length
        exact op_rep pins s σ H _ _ v u Q I rx ry ⟨_, _, _, rfl, rfl, hl, hm.1, hm.2.1, by rw [← l1]; omega, fun p hp => k.lst M hp (r1.rep _)⟩
      · cases h
    · cases h
  · cases h

/-! ### comparisons -/
theorem room_eq {k : Nat} (r : Room k X.A) : X.A.units + 66 < cLine := by have := r.un; omega
def rC2 (K : PySem.W.Frag) (fa : Nat → Option Addr) (f : Mu → U → U → Option Bool) : R2 := fun x y H Q => ∃ t bs m μ a b c, Me K fa bs t m H μ ∧ Rp K fa t m m.length H a x ∧ Rp K fa t m m.length H b y ∧ f μ a b = some c ∧ Q (.bl c) H
theorem neg?_some {o : Option Bool} {c : Bool} (h : neg? o = some c) : ∃ d, o = some d ∧ c = !d := by
  cases o with
  | none => cases h
  | some d => exact ⟨d, rfl, (Option.some.inj h).symm⟩
theorem evEq_some {μ : Mu} {a b : U} {c : Bool} (h : evEq μ a b = some c) : ∃ d e, dat μ D0 a = some d ∧ dat μ D0 b = some e ∧ c = PyData.eqv d e := by
  simp only [evEq] at h
  split at h
  · rename_i d e h1 h2
    exact ⟨d, e, h1, h2, (Option.some.inj h).symm⟩
  · cases h
theorem evLt_some {μ : Mu} {a b : U} {c : Bool} (h : evLt μ a b = some c) : (∃ i j, a = .int i ∧ b = .int j ∧ c = decide (i < j)) ∨
    ∃ d e, dat μ D0 a = some d ∧ dat μ D0 b = some e ∧ d ≠ .none ∧ PySem.W.alike d e = true ∧ c = PySem.W.dataLt d e := by
  unfold evLt at h
  split at h
  · exact .inl ⟨_, _, rfl, rfl, (Option.some.inj h).symm⟩
  · cases h1 : dat μ D0 a with
    | none => rw [h1] at h; simp at h
    | some d =>
      cases h2 : dat μ D0 b with
      | none => rw [h1, h2] at h; cases d <;> simp at h
      | some e =>
        rw [h1, h2] at h
        by_cases hd : d = .none
        · subst hd; simp at h
        · have h' : (if PySem.W.alike d e = true then some (PySem.W.dataLt d e) else none) = some c := by
            cases d <;> first | exact absurd rfl hd | exact h
          by_cases ha : PySem.W.alike d e = true
          · rw [if_pos ha] at h'
            exact .inr ⟨d, e, rfl, rfl, hd, ha, (Option.some.inj h').symm⟩
          · rw [if_neg ha] at h'; cases h'
theorem d0 : D0 = 12 := rfl
theorem eqR (hu : X.A.units + 66 < cLine) : OpR X (compareOp .Eq) (rC2 X.K fa evEq) := by
  intro pins s σ H x y v u Q I rx ry h
  obtain ⟨t, bs, m, μ, a, b, c, M, ra, rb, h, q⟩ := h
  obtain ⟨d, e, h1, h2, rfl⟩ := evEq_some h
  obtain ⟨a1, a2, a3⟩ := Dp.of M D0 a x d ra h1
  obtain ⟨b1, b2, b3⟩ := Dp.of M D0 b y e rb h2
  obtain ⟨as, r1⟩ := Dp.reads I d x v a1 rx
  obtain ⟨bs, r2⟩ := Dp.reads I e y u b1 ry
  have hd := d0
  exact SeqAt.eq_plain r1 r2 a2 b2 (by omega) ⟨.bl _, H, I, rfl, q⟩
theorem neR (hu : X.A.units + 66 < cLine) : OpR X (compareOp .NotEq) (rC2 X.K fa fun μ a b => neg? (evEq μ a b)) := by
  intro pins s σ H x y v u Q I rx ry h
  obtain ⟨t, bs, m, μ, a, b, c, M, ra, rb, h, q⟩ := h
  obtain ⟨c', h0, rfl⟩ := neg?_some h
  obtain ⟨d, e, h1, h2, rfl⟩ := evEq_some h0
  obtain ⟨a1, a2, a3⟩ := Dp.of M D0 a x d ra h1
  obtain ⟨b1, b2, b3⟩ := Dp.of M D0 b y e rb h2
  obtain ⟨as, r1⟩ := Dp.reads I d x v a1 rx
  obtain ⟨bs, r2⟩ := Dp.reads I e y u b1 ry
  have hd := d0
  exact SeqAt.ne_plain r1 r2 a2 b2 (by omega) ⟨.bl _, H, I, rfl, q⟩
theorem ltR (hu : X.A.units + 66 < cLine) : OpR X (compareOp .Lt) (rC2 X.K fa evLt) := by
  intro pins s σ H x y v u Q I rx ry h
  obtain ⟨t, bs, m, μ, a, b, c, M, ra, rb, h, q⟩ := h
  have hd := d0
  rcases evLt_some h with ⟨i, j, rfl, rfl, rfl⟩ | ⟨d, e, h1, h2, hn, ha, rfl⟩
  · cases ra; cases rb
    exact op_lt pins s σ H _ _ v u Q I rx ry ⟨_, _, rfl, rfl, q⟩
  · obtain ⟨a1, a2, a3⟩ := Dp.of M D0 a x d ra h1
    obtain ⟨b1, b2, b3⟩ := Dp.of M D0 b y e rb h2
    obtain ⟨as, r1⟩ := Dp.reads I d x v a1 rx
    obtain ⟨bs, r2⟩ := Dp.reads I e y u b1 ry
    exact PySem.W.lt_data r1 r2 ha hn (by omega) ⟨.bl _, H, I, rfl, q⟩
theorem gtR (hu : X.A.units + 66 < cLine) : OpR X (compareOp .Gt) (rC2 X.K fa fun μ a b => evLt μ b a) := by
  intro pins s σ H x y v u Q I rx ry h
  obtain ⟨t, bs, m, μ, a, b, c, M, ra, rb, h, q⟩ := h
  have hd := d0
  rcases evLt_some h with ⟨i, j, rfl, rfl, rfl⟩ | ⟨d, e, h1, h2, hn, ha, rfl⟩
  · cases ra; cases rb
    exact op_gt pins s σ H _ _ v u Q I rx ry ⟨_, _, rfl, rfl, q⟩
  · obtain ⟨a1, a2, a3⟩ := Dp.of M D0 b y d rb h1
    obtain ⟨b1, b2, b3⟩ := Dp.of M D0 a x e ra h2
    obtain ⟨as, r1⟩ := Dp.reads I d y u a1 ry
    obtain ⟨bs, r2⟩ := Dp.reads I e x v b1 rx
    exact PySem.W.gt_data r2 r1 (by rw [PySem.W.alike_comm]; exact ha) (PySem.W.ne_none_both ha hn) (by omega) ⟨.bl _, H, I, rfl, q⟩
theorem leR (hu : X.A.units + 66 < cLine) : OpR X (compareOp .LtE) (rC2 X.K fa fun μ a b => neg? (evLt μ b a)) := by
  intro pins s σ H x y v u Q I rx ry h
  obtain ⟨t, bs, m, μ, a, b, c, M, ra, rb, h, q⟩ := h
  have hd := d0
  obtain ⟨c', h0, rfl⟩ := neg?_some h
  rcases evLt_some h0 with ⟨i, j, rfl, rfl, rfl⟩ | ⟨d, e, h1, h2, hn, ha, rfl⟩
  · cases ra; cases rb
    refine op_le pins s σ H _ _ v u Q I rx ry ⟨_, _, rfl, rfl, ?_⟩
    have e1 : (!decide (i < j)) = decide (j ≤ i) := by
      by_cases z : i < j
      · rw [decide_eq_true z, decide_eq_false (by omega)]; rfl
      · rw [decide_eq_false z, decide_eq_true (by omega)]; rfl
    rw [e1] at q; exact q
  · obtain ⟨a1, a2, a3⟩ := Dp.of M D0 b y d rb h1
    obtain ⟨b1, b2, b3⟩ := Dp.of M D0 a x e ra h2
    obtain ⟨as, r1⟩ := Dp.reads I d y u a1 ry
    obtain ⟨bs, r2⟩ := Dp.reads I e x v b1 rx
    exact PySem.W.le_data r2 r1 (by rw [PySem.W.alike_comm]; exact ha) (PySem.W.ne_none_both ha hn) (by omega) ⟨.bl _, H, I, rfl, q⟩
theorem geR (hu : X.A.units + 66 < cLine) : OpR X (compareOp .GtE) (rC2 X.K fa fun μ a b => neg? (evLt μ a b)) := by
  intro pins s σ H x y v u Q I rx ry h
  obtain ⟨t, bs, m, μ, a, b, c, M, ra, rb, h, q⟩ := h
  have hd := d0
  obtain ⟨c', h0, rfl⟩ := neg?_some h
  rcases evLt_some h0 with ⟨i, j, rfl, rfl, rfl⟩ | ⟨d, e, h1, h2, hn, ha, rfl⟩
  · cases ra; cases rb
    refine op_ge pins s σ H _ _ v u Q I rx ry ⟨_, _, rfl, rfl, ?_⟩
    have e1 : (!decide (i < j)) = decide (j ≤ i) := by
      by_cases z : i < j
      · rw [decide_eq_true z, decide_eq_false (by omega)]; rfl
      · rw [decide_eq_false z, decide_eq_true (by omega)]; rfl
    rw [e1] at q; exact q
  · obtain ⟨a1, a2, a3⟩ := Dp.of M D0 a x d ra h1
    obtain ⟨b1, b2, b3⟩ := Dp.of M D0 b y e rb h2
    obtain ⟨as, r1⟩ := Dp.reads I d x v a1 rx
    obtain ⟨bs, r2⟩ := Dp.reads I e y u b1 ry
    exact PySem.W.ge_data r1 r2 ha hn (by omega) ⟨.bl _, H, I, rfl, q⟩

/-! ### is None -/
theorem isN_ok {t m : List Addr} {n : Nat} {H : Hp} {u : U} {v : V} {K : PySem.W.Frag} (r : Rp K fa t m n H u v) : decide (v = .non) = isNon u := by
  cases r <;> rfl
theorem isR : OpR X (compareOp .Is) (rC2 X.K fa fun μ a b => evCmp μ .is_ a b) := by
  intro pins s σ H x y v u Q I rx ry h
  obtain ⟨t, bs, m, μ, a, b, c, M, ra, rb, h, q⟩ := h
  cases b <;> simp [evCmp] at h
  subst h
  cases rb
  exact op_isN pins s σ H _ _ v u Q I rx ry ⟨rfl, by rw [isN_ok ra]; exact q⟩
theorem isnotR : OpR X (compareOp .IsNot) (rC2 X.K fa fun μ a b => evCmp μ .isnot a b) := by
  intro pins s σ H x y v u Q I rx ry h
  obtain ⟨t, bs, m, μ, a, b, c, M, ra, rb, h, q⟩ := h
  cases b with
  | non =>
    have h' : some (!isNon a) = some c := h
    cases h'
    cases rb
    exact op_notN pins s σ H _ _ v u Q I rx ry ⟨rfl, by rw [isN_ok ra]; exact q⟩
  | _ => simp [evCmp] at h

/-! ### dicts -/
theorem lk_valV {κ : Type} [DecidableEq κ] {K : PySem.W.Frag} {t m : List Addr} {n : Nat} {H : Hp} : ∀ {kvs : List (κ × V)} {us : List U} (q : κ), RpA K fa t m n H us (kvs.map (·.2)) →
    (∃ u v, lk (kvs.map (·.1)) us q = some u ∧ valV kvs q = some v ∧ Rp K fa t m n H u v) ∨ (lk (kvs.map (·.1)) us q = none ∧ valV kvs q = none)
  | [], _, q, .nil => .inr ⟨rfl, rfl⟩
  | kv :: kvs, _, q, .cons (u := u) r ra => by
    by_cases hk : kv.1 = q
    · exact .inl ⟨u, kv.2, by simp [lk, hk], valV_pos hk, r⟩
    · rcases lk_valV q ra with ⟨u', v', e1, e2, r'⟩ | ⟨e1, e2⟩
      · exact .inl ⟨u', v', by simp [lk, hk, e1], by rw [valV_neg hk]; exact e2, r'⟩
      · exact .inr ⟨by simp [lk, hk, e1], by rw [valV_neg hk]; exact e2⟩
theorem sky_ok {K : PySem.W.Frag} {t m : List Addr} {n : Nat} {H : Hp} {u : U} {v : V} {q : Key} (r : Rp K fa t m n H u v) (h : sky u = some q) : v = kV q := by
  cases r <;> simp [sky] at h <;> subst h <;> rfl
theorem skys_ok {K : PySem.W.Frag} {t m : List Addr} {n : Nat} {H : Hp} : ∀ {us : List U} {vs : List V} {qs : List Key}, RpA K fa t m n H us vs → mapO sky us = some qs → vs = qs.map kV
  | _, _, _, .nil, h => by cases h; rfl
  | _, _, _, .cons r ra, h => by
    obtain ⟨z, zs, e1, e2, rfl⟩ := mapO_cons h
    rw [sky_ok r e1, skys_ok ra e2]; rfl
theorem tky_ok {K : PySem.W.Frag} {t m : List Addr} {n : Nat} {H : Hp} {u : U} {v : V} {q : List Key} (r : Rp K fa t m n H u v) (h : tky u = some q) : ∃ b, v = .ref b ∧ H b = some (.tup (q.map kV)) := by
  cases u <;> simp [tky] at h
  cases r with
  | tup f ra =>
    rw [← skys_ok ra h]
    exact ⟨_, rfl, f.1⟩
/-- the dict at v -/
theorem dk_at {K : PySem.W.Frag} {t m : List Addr} {H : Hp} {bs : List Nat} {μ : Mu} {u : U} {v : V} {ks : List Key} {us : List U} (M : Me K fa bs t m H μ) (r : Rp K fa t m m.length H u v) (h : cont μ u = some (.dk ks us)) :
    ∃ a kvs, v = .ref a ∧ H a = some (.dK kvs) ∧ kvs.map (·.1) = ks ∧ RpA K fa t m m.length H us (kvs.map (·.2)) := by
  cases u with
  | ob i =>
    simp only [cont] at h
    obtain ⟨a, rfl, ha, c⟩ := M.objF r h
    cases c with
    | dK hH ra => exact ⟨a, _, rfl, hH, rfl, ra⟩
  | dk ks' us' =>
    cases h
    cases r with
    | dK hH _ _ ra => exact ⟨_, _, rfl, hH, rfl, ra⟩
  | _ => simp [cont] at h
theorem dt_at {K : PySem.W.Frag} {t m : List Addr} {H : Hp} {bs : List Nat} {μ : Mu} {u : U} {v : V} {ks : List (List Key)} {us : List U} (M : Me K fa bs t m H μ) (r : Rp K fa t m m.length H u v) (h : cont μ u = some (.dt ks us)) :
    ∃ a kvs, v = .ref a ∧ H a = some (.dT kvs) ∧ kvs.map (·.1) = ks ∧ RpA K fa t m m.length H us (kvs.map (·.2)) := by
  cases u with
  | ob i =>
    simp only [cont] at h
    obtain ⟨a, rfl, ha, c⟩ := M.objF r h
    cases c with
    | dT hH ra => exact ⟨a, _, rfl, hH, rfl, ra⟩
  | dt ks' us' =>
    cases h
    cases r with
    | dT hH _ _ ra => exact ⟨_, _, rfl, hH, rfl, ra⟩
  | _ => simp [cont] at h
theorem dget_ok {K : PySem.W.Frag} {t m : List Addr} {H : Hp} {bs : List Nat} {μ : Mu} {d k : U} {x y : V} {o : Option U} (M : Me K fa bs t m H μ) (r : Rp K fa t m m.length H d x) (rk : Rp K fa t m m.length H k y) (h : dget μ d k = some o) :
    ∃ a, x = .ref a ∧ IsD H a ∧ ((∃ u v, o = some u ∧ DGet H a y (some v) ∧ Rp K fa t m m.length H u v) ∨ (o = none ∧ DGet H a y none)) := by
  simp only [dget] at h
  split at h
  · rename_i ks us hc
    obtain ⟨a, kvs, rfl, hH, rfl, ra⟩ := dk_at M r hc
    split at h
    · rename_i q hq
      cases h
      have ey := sky_ok rk hq
      subst ey
      refine ⟨a, rfl, .inl ⟨_, .inl hH⟩, ?_⟩
      rcases lk_valV q ra with ⟨u', v', e1, e2, r'⟩ | ⟨e1, e2⟩
      · exact .inl ⟨u', v', e1, .inl ⟨kvs, q, .inl hH, rfl, e2.symm⟩, r'⟩
      · exact .inr ⟨e1, .inl ⟨kvs, q, .inl hH, rfl, e2.symm⟩⟩
    · cases h
  · rename_i ks us hc
    obtain ⟨a, kvs, rfl, hH, rfl, ra⟩ := dt_at M r hc
    split at h
    · rename_i q hq
      cases h
      obtain ⟨b, rfl, hb⟩ := tky_ok rk hq
      refine ⟨a, rfl, .inr ⟨_, .inl hH⟩, ?_⟩
      rcases lk_valV q ra with ⟨u', v', e1, e2, r'⟩ | ⟨e1, e2⟩
      · exact .inl ⟨u', v', e1, .inr ⟨kvs, q, b, .inl hH, rfl, hb, e2.symm⟩, r'⟩
      · exact .inr ⟨e1, .inr ⟨kvs, q, b, .inl hH, rfl, hb, e2.symm⟩⟩
    · cases h
  · cases h

/-! ### in -/
theorem evIn_some {μ : Mu} {a b : U} {c : Bool} (h : evIn μ a b = some c) : (∃ o, dget μ b a = some o ∧ c = o.isSome) ∨
    ∃ x ys, dat μ D0 a = some x ∧ (dat μ D0 b = some (.tuple ys) ∨ dat μ D0 b = some (.list ys)) ∧ c = ys.any fun y => y.eqv x := by
  simp only [evIn] at h
  split at h
  · split at h
    · rename_i o ho; exact .inl ⟨o, ho, (Option.some.inj h).symm⟩
    · cases h
  · split at h
    · rename_i o ho; exact .inl ⟨o, ho, (Option.some.inj h).symm⟩
    · cases h
  · split at h
    · rename_i x ys h1 h2; exact .inr ⟨x, ys, h1, .inl h2, (Option.some.inj h).symm⟩
    · rename_i x ys h1 h2; exact .inr ⟨x, ys, h1, .inr h2, (Option.some.inj h).symm⟩
    · cases h
theorem inR (hu : X.A.units + 66 < cLine) : OpR X (compareOp .In) (rC2 X.K fa evIn) := by
  intro pins s σ H x y v u Q I rx ry h
  obtain ⟨t, bs, m, μ, a, b, c, M, ra, rb, h, q⟩ := h
  have hd := d0
  rcases evIn_some h with ⟨o, ho, rfl⟩ | ⟨d, ys, h1, h2, rfl⟩
  · obtain ⟨p, rfl, _, hg⟩ := dget_ok M rb ra ho
    cases ry
    rcases hg with ⟨u', v', rfl, g, _⟩ | ⟨rfl, g⟩
    · exact d_in (by omega) I g rx fun s' I' => ⟨.bl true, H, I', rfl, q⟩
    · exact d_in (by omega) I g rx fun s' I' => ⟨.bl false, H, I', rfl, q⟩
  · obtain ⟨a1, a2, a3⟩ := Dp.of M D0 a x d ra h1
    obtain ⟨as, r1⟩ := Dp.reads I d x v a1 rx
    rcases h2 with h2 | h2
    · obtain ⟨b1, b2, b3⟩ := Dp.of M D0 b y _ rb h2
      obtain ⟨bs, r2⟩ := Dp.reads I _ y u b1 ry
      exact SeqAt.in_tuple_data r2 r1 b2 a2 (by simp only [PyData.depth] at b3; omega) ⟨.bl _, H, I, rfl, q⟩
    · obtain ⟨b1, b2, b3⟩ := Dp.of M D0 b y _ rb h2
      obtain ⟨bs, r2⟩ := Dp.reads I _ y u b1 ry
      exact SeqAt.in_list_data r2 r1 b2 a2 (by simp only [PyData.depth] at b3; omega) ⟨.bl _, H, I, rfl, q⟩
theorem notinR (hu : X.A.units + 66 < cLine) : OpR X (compareOp .NotIn) (rC2 X.K fa fun μ a b => neg? (evIn μ a b)) := by
  intro pins s σ H x y v u Q I rx ry h
  obtain ⟨t, bs, m, μ, a, b, c, M, ra, rb, h, q⟩ := h
  have hd := d0
  obtain ⟨c', h0, rfl⟩ := neg?_some h
  rcases evIn_some h0 with ⟨o, ho, rfl⟩ | ⟨d, ys, h1, h2, rfl⟩
  · obtain ⟨p, rfl, _, hg⟩ := dget_ok M rb ra ho
    cases ry
    rcases hg with ⟨u', v', rfl, g, _⟩ | ⟨rfl, g⟩
    · exact d_notIn (by omega) I g rx fun s' I' => ⟨.bl false, H, I', rfl, q⟩
    · exact d_notIn (by omega) I g rx fun s' I' => ⟨.bl true, H, I', rfl, q⟩
  · obtain ⟨a1, a2, a3⟩ := Dp.of M D0 a x d ra h1
    obtain ⟨as, r1⟩ := Dp.reads I d x v a1 rx
    rcases h2 with h2 | h2
    · obtain ⟨b1, b2, b3⟩ := Dp.of M D0 b y _ rb h2
      obtain ⟨bs, r2⟩ := Dp.reads I _ y u b1 ry
      exact SeqAt.notIn_tuple_data r2 r1 b2 a2 (by simp only [PyData.depth] at b3; omega) ⟨.bl _, H, I, rfl, q⟩
    · obtain ⟨b1, b2, b3⟩ := Dp.of M D0 b y _ rb h2
      obtain ⟨bs, r2⟩ := Dp.reads I _ y u b1 ry
      exact SeqAt.notIn_list_data r2 r1 b2 a2 (by simp only [PyData.depth] at b3; omega) ⟨.bl _, H, I, rfl, q⟩
/-- any comparison -/
theorem cmpR (hu : X.A.units + 66 < cLine) (op : Co) : OpR X (compareOp op.op) (rC2 X.K fa fun μ a b => evCmp μ op a b) := by
  cases op
  · exact eqR hu
  · exact neR hu
  · exact ltR hu
  · exact leR hu
  · exact gtR hu
  · exact geR hu
  · exact inR hu
  · exact notinR hu
  · exact isR
  · exact isnotR
end
end R

set_option Elab.async false
set_option linter.all false
set_option maxRecDepth 100000
set_option maxHeartbeats 4000000
/-! R3c: subscripts, slices, builtins, isinstance, methods -/
namespace R
open PySem PySem.Spec PyProof.Rows L2

section
variable {X : Cx} {fa : Nat → Option Addr}
/-! ### what a value is, by its content -/
theorem cont_lst {K : PySem.W.Frag} {t m : List Addr} {H : Hp} {bs : List Nat} {μ : Mu} {u : U} {v : V} {xs : List U} (M : Me K fa bs t m H μ) (r : Rp K fa t m m.length H u v) (h : cont μ u = some (.lst xs)) :
    ∃ a vs, v = .ref a ∧ H a = some (.lst vs) ∧ RpA K fa t m m.length H xs vs := by
  have h' : asL μ u = some xs := by
    cases u <;> simp [cont] at h <;> simp [asL, h]
  exact asL_at M r h'
theorem ob_not {K : PySem.W.Frag} {t m : List Addr} {H : Hp} {bs : List Nat} {μ : Mu} {i : Nat} {v : V} {o : U} (M : Me K fa bs t m H μ) (r : Rp K fa t m m.length H (.ob i) v) (h : μ[i]? = some o) :
    (∃ xs, o = .lst xs) ∨ (∃ ks us, o = .dk ks us) ∨ ∃ ks us, o = .dt ks us := by
  obtain ⟨a, _, _, c⟩ := M.objF r h
  cases c with
  | lst _ _ => exact .inl ⟨_, rfl⟩
  | dK _ _ => exact .inr (.inl ⟨_, _, rfl⟩)
  | dT _ _ => exact .inr (.inr ⟨_, _, rfl⟩)
theorem cont_tup {K : PySem.W.Frag} {t m : List Addr} {H : Hp} {bs : List Nat} {μ : Mu} {u : U} {v : V} {xs : List U} (M : Me K fa bs t m H μ) (r : Rp K fa t m m.length H u v) (h : cont μ u = some (.tup xs)) : u = .tup xs := by
  cases u with
  | ob i => rcases ob_not M r h with ⟨_, e⟩ | ⟨_, _, e⟩ | ⟨_, _, e⟩ <;> cases e
  | tup ys => cases h; rfl
  | _ => simp [cont] at h
theorem cont_str {K : PySem.W.Frag} {t m : List Addr} {H : Hp} {bs : List Nat} {μ : Mu} {u : U} {v : V} {x : Str} (M : Me K fa bs t m H μ) (r : Rp K fa t m m.length H u v) (h : cont μ u = some (.str x)) : u = .str x := by
  cases u with
  | ob i => rcases ob_not M r h with ⟨_, e⟩ | ⟨_, _, e⟩ | ⟨_, _, e⟩ <;> cases e
  | str ys => cases h; rfl
  | _ => simp [cont] at h

theorem atI_ok {K : PySem.W.Frag} {t m : List Addr} {n : Nat} {H : Hp} {xs : List U} {vs : List V} {i : Int} {u : U} (r : RpA K fa t m n H xs vs) (h : atI xs i = some u) : ∃ v, atI vs i = some v ∧ Rp K fa t m n H u v := by
  unfold atI at h ⊢
  rw [r.length] at h
  cases e : ixN vs.length i with
  | none => rw [e] at h; cases h
  | some j =>
    rw [e] at h
    exact r.get h
def rIdx (K : PySem.W.Frag) (fa : Nat → Option Addr) : R2 := fun x y H Q => ∃ t bs m μ a b u, Me K fa bs t m H μ ∧ Rp K fa t m m.length H a x ∧ Rp K fa t m m.length H b y ∧ evIdx μ a b = some u ∧ ∀ v, Rp K fa t m m.length H u v → Q v H
theorem idxR (hu : X.A.units + 66 < cLine) : IxR X (rIdx X.K fa) := by
  intro value slice pins s σ H x y v u Q I rx ry h hs
  obtain ⟨t, bs, m, μ, a, b, w, M, ra, rb, h, q⟩ := h
  have dict : ∀ o, dget μ a b = some o → o = some w → wpAny (model X.prog X.w) X.A (subscriptTail value slice v u) (EP X pins σ Q) X.xe s := fun o ho eo => by
    obtain ⟨p, rfl, _, hg⟩ := dget_ok M ra rb ho
    cases rx
    rcases hg with ⟨u', v', rfl, g, r'⟩ | ⟨rfl, g⟩
    · cases eo
      exact tail_any (dict_typeIs I g) PySem.F.slot_dict_getitem.lookup (d_getItem (by omega) I g ry fun w' s3 I3 rw' => ⟨v', H, I3, rw', q v' r'⟩) (hs)
    · cases eo
  simp only [evIdx] at h
  split at h
  · cases ho : dget μ a b with
    | none => rw [ho] at h; cases h
    | some o => rw [ho] at h; exact dict o ho h
  · cases ho : dget μ a b with
    | none => rw [ho] at h; cases h
    | some o => rw [ho] at h; exact dict o ho h
  · rename_i z hc
    have ea := cont_str M ra hc
    subst ea
    split at h
    · rename_i j
      split at h
      · rename_i hz
        split at h
        · rename_i c hcc
          cases h
          cases ra; cases rb
          have hl := sz_line
          exact ix_seq value slice pins s σ H _ _ v u Q I rx ry (.inr (.inr ⟨z, j, c, rfl, rfl, by omega, hcc, q _ (.str _)⟩)) hs
        · cases h
      · cases h
    · cases h
  · rename_i xs hc
    have ea := cont_tup M ra hc
    subst ea
    split at h
    · rename_i j
      cases rb
      cases ra with
      | tup f r1 =>
        obtain ⟨w', e1, r'⟩ := atI_ok r1 h
        exact ix_seq value slice pins s σ H _ _ v u Q I rx ry (.inr (.inl ⟨_, _, j, w', rfl, rfl, f.sq, e1, q _ r'⟩)) hs
    · cases h
  · rename_i xs hc
    obtain ⟨p, vs, rfl, hH, r1⟩ := cont_lst M ra hc
    split at h
    · rename_i j
      cases rb
      obtain ⟨w', e1, r'⟩ := atI_ok r1 h
      exact ix_seq value slice pins s σ H _ _ v u Q I rx ry (.inl ⟨_, _, j, w', rfl, rfl, SqL.of hH, e1, q _ r'⟩) hs
    · cases h
  · cases h

/-! ### slices -/
def rSlU (K : PySem.W.Frag) (fa : Nat → Option Addr) (al : Bool) : V → Option Int → Option Int → Hp → VK → Prop := fun x lo hi H Q => ∃ t bs m μ a l h u μ', Me K fa bs t m H μ ∧ Rp K fa t m m.length H a x ∧ bnd l = some lo ∧ bnd h = some hi ∧ evSlc al μ a l h = some (u, μ') ∧ Kn K fa bs t m H u μ' Q
theorem cut_ok {K : PySem.W.Frag} {t m : List Addr} {n : Nat} {H : Hp} {xs : List U} {vs : List V} (lo hi : Option Int) (r : RpA K fa t m n H xs vs) : RpA K fa t m n H (cutU xs lo hi) (cutV vs lo hi) := by
  unfold cutU cutV
  rw [r.length]
  exact (r.drop _).take _
theorem cut_whole {xs : List U} {lo hi : Option Int} (h : HT.sIx xs.length 0 lo = 0 ∧ HT.sIx xs.length xs.length hi = xs.length) : cutU xs lo hi = xs := by
  unfold cutU
  rw [h.1, h.2, List.drop_zero, Nat.sub_zero, List.take_length]
theorem slR (al : Bool) : SlR X (rSlU X.K fa al) := by
  intro pins s σ H x v vl vu lo hi sl Q I rx hs pl pu h
  obtain ⟨t, bs, m, μ, a, l, hh, u, μ', M, ra, e1, e2, h, k⟩ := h
  simp only [evSlc, e1, e2] at h
  split at h
  · rename_i xs
    cases h
    cases ra with
    | tup f r1 =>
      refine sl_tupA pins s σ H _ v vl vu lo hi sl Q I rx hs pl pu ⟨_, _, rfl, f.sq, fun hw => ?_, fun _ p hp => k.tup M hp (cut_ok lo hi r1)⟩
      rw [← r1.length] at hw
      refine k.here M ?_
      rw [cut_whole hw]
      exact .tup f r1
  · rename_i z
    split at h
    · rename_i hz
      cases h
      cases ra
      have hl := sz_line
      exact C8.sl_txt pins s σ H _ v vl vu lo hi sl Q I rx hs pl pu ⟨z, rfl, by omega, k.here M (.str _)⟩
    · cases h
  · split at h
    · rename_i xs hx
      obtain ⟨rfl, rfl⟩ := Prod.mk.inj (Option.some.inj h)
      obtain ⟨p, vs, rfl, hH, r1⟩ := asL_at M ra hx
      exact sl_list pins s σ H _ v vl vu lo hi sl Q I rx hs pl pu ⟨_, _, rfl, SqL.of hH, fun p hp => k.lst M hp (cut_ok lo hi r1)⟩
    · cases h

/-! ### truth -/
def rTru (K : PySem.W.Frag) (fa : Nat → Option Addr) : V → Hp → (Bool → Hp → Prop) → Prop := fun x H Q => ∃ t bs m μ a b, Me K fa bs t m H μ ∧ Rp K fa t m m.length H a x ∧ truth μ a = some b ∧ Q b H
theorem truV_ok {K : PySem.W.Frag} {t m : List Addr} {H : Hp} {bs : List Nat} {μ : Mu} {a : U} {x : V} {b : Bool} (M : Me K fa bs t m H μ) (r : Rp K fa t m m.length H a x) (h : truth μ a = some b) : TruV K x H b := by
  have hl := sz_line
  cases a with
  | non => cases r; cases h; rfl
  | bl c => cases r; cases h; rfl
  | int i => cases r; cases h; rfl
  | str z =>
    cases r
    simp only [truth] at h
    split at h
    · rename_i hz; cases h; exact ⟨by omega, rfl⟩
    · cases h
  | tup xs =>
    cases h
    cases r with
    | tup f ra => exact .inr (.inl ⟨_, f.sq, by cases ra <;> rfl⟩)
  | lst xs =>
    cases h
    cases r with
    | lst f ra => exact .inl ⟨_, f.sq, by cases ra <;> rfl⟩
  | ob i =>
    simp only [truth] at h
    split at h
    · rename_i xs e
      cases h
      obtain ⟨p, rfl, _, c⟩ := M.objF r e
      cases c with
      | lst hH ra => exact .inl ⟨_, SqL.of hH, by cases ra <;> rfl⟩
    · rename_i ks us e
      cases h
      obtain ⟨p, rfl, _, c⟩ := M.objF r e
      cases c with
      | @dK kvs _ hH ra => exact .inr (.inr ⟨_, hH, by cases kvs <;> rfl⟩)
    · cases h
  | _ => simp [truth] at h
theorem truR : TruR X (rTru X.K fa) := by
  intro pins s σ H x v Q I rx h
  obtain ⟨t, bs, m, μ, a, b, M, ra, h, q⟩ := h
  exact tru_ok pins s σ H x v Q I rx ⟨b, truV_ok M ra h, q⟩
end
end R

set_option Elab.async false
set_option linter.all false
set_option maxRecDepth 100000
set_option maxHeartbeats 4000000
/-! R3d: builtin functions, isinstance, methods, stores, by values -/
namespace R
open PySem PySem.Spec PyProof.Rows L2

section
variable {X : Cx} {fa : Nat → Option Addr}
/-- values in, a value out -/
def rVs (K : PySem.W.Frag) (fa : Nat → Option Addr) (f : Mu → List U → Option (U × Mu)) : List V → Hp → VK → Prop := fun xs H Q => ∃ t bs m μ us u μ', Me K fa bs t m H μ ∧ RpA K fa t m m.length H us xs ∧ f μ us = some (u, μ') ∧ Kn K fa bs t m H u μ' Q
theorem rpa1 {K : PySem.W.Frag} {t m : List Addr} {n : Nat} {H : Hp} {u : U} {xs : List V} (r : RpA K fa t m n H [u] xs) : ∃ v, xs = [v] ∧ Rp K fa t m n H u v := by
  cases r with
  | cons h q => cases q; exact ⟨_, rfl, h⟩
theorem rpa2 {K : PySem.W.Frag} {t m : List Addr} {n : Nat} {H : Hp} {u w : U} {xs : List V} (r : RpA K fa t m n H [u, w] xs) : ∃ v z, xs = [v, z] ∧ Rp K fa t m n H u v ∧ Rp K fa t m n H w z := by
  cases r with
  | cons h q =>
    obtain ⟨z, rfl, h2⟩ := rpa1 q
    exact ⟨_, z, rfl, h, h2⟩
def biF (b : Bi) : Mu → List U → Option (U × Mu) := fun μ us => match evBi μ b us with
  | some u => some (u, μ)
  | none => none
theorem biF_some {b : Bi} {μ μ' : Mu} {us : List U} {u : U} (h : biF b μ us = some (u, μ')) : evBi μ b us = some u ∧ μ' = μ := by
  unfold biF at h
  split at h
  · rename_i u' e
    cases h
    exact ⟨e, rfl⟩
  · cases h
theorem intsRp {K : PySem.W.Frag} {t m : List Addr} {n : Nat} {H : Hp} : ∀ {us : List U} {vs : List V} {ns : List Int}, RpA K fa t m n H us vs → mapO asInt us = some ns → vs = ns.map V.int
  | _, _, _, .nil, h => by cases h; rfl
  | _, _, _, .cons r ra, h => by
    obtain ⟨z, zs, e1, e2, rfl⟩ := mapO_cons h
    rw [intsRp ra e2]
    cases r <;> simp [asInt] at e1
    subst e1; rfl
theorem blsRp {K : PySem.W.Frag} {t m : List Addr} {n : Nat} {H : Hp} : ∀ {us : List U} {vs : List V} {ns : List Bool}, RpA K fa t m n H us vs → mapO asBl us = some ns → vs = ns.map V.bl
  | _, _, _, .nil, h => by cases h; rfl
  | _, _, _, .cons r ra, h => by
    obtain ⟨z, zs, e1, e2, rfl⟩ := mapO_cons h
    rw [blsRp ra e2]
    cases r <;> simp [asBl] at e1
    subst e1; rfl
theorem lenR : CallR X (.builtin "len") (rVs X.K fa (biF .len)) := by
  intro pins s σ H xs us Q I rx h
  obtain ⟨t, bs, m, μ, as, u, μ', M, ra, h, k⟩ := h
  obtain ⟨h, rfl⟩ := biF_some h
  have hl := sz_line
  match as, h with
  | [a], h =>
    obtain ⟨v, rfl, r⟩ := rpa1 ra
    simp only [evBi] at h
    split at h
    · rename_i z hc
      have ea := cont_str M r hc
      subst ea
      split at h
      · rename_i hz
        cases h
        cases r
        exact call_len pins s σ H _ us Q I rx ⟨_, _, rfl, ⟨by omega, rfl⟩, k.here M (.int _)⟩
      · cases h
    · rename_i ys hc
      have ea := cont_tup M r hc
      subst ea
      cases h
      cases r with
      | tup f r1 => exact call_len pins s σ H _ us Q I rx ⟨_, _, rfl, .inr ⟨_, f.sq, rfl⟩, by rw [← r1.length]; exact k.here M (.int _)⟩
    · rename_i ys hc
      obtain ⟨p, vs, rfl, hH, r1⟩ := cont_lst M r hc
      cases h
      exact call_len pins s σ H _ us Q I rx ⟨_, _, rfl, .inl ⟨_, SqL.of hH, rfl⟩, by rw [← r1.length]; exact k.here M (.int _)⟩
    · rename_i ks ys hc
      obtain ⟨p, kvs, rfl, hH, rfl, r1⟩ := dk_at M r hc
      cases h
      exact call_lenD pins s σ H _ us Q I rx ⟨_, _, rfl, hH, by have q := k.here M (.int _); rw [List.length_map] at q; exact q⟩
    · rename_i ks ys hc
      obtain ⟨p, kvs, rfl, hH, rfl, r1⟩ := dt_at M r hc
      cases h
      exact call_len_dT pins s σ H _ us Q I rx ⟨_, _, rfl, hH, by have q := k.here M (.int _); rw [List.length_map] at q; exact q⟩
    · cases h
  | [], h => simp [evBi] at h
  | _ :: _ :: _, h => simp [evBi] at h
theorem intR : CallR X (.type "int") (rVs X.K fa (biF .int)) := by
  intro pins s σ H xs us Q I rx h
  obtain ⟨t, bs, m, μ, as, u, μ', M, ra, h, k⟩ := h
  obtain ⟨h, rfl⟩ := biF_some h
  match as, h with
  | [.int i], h =>
    obtain ⟨v, rfl, r⟩ := rpa1 ra
    cases h; cases r
    exact call_int1 pins s σ H _ us Q I rx (.inl ⟨i, rfl, k.here M (.int _)⟩)
  | [.bl b], h =>
    obtain ⟨v, rfl, r⟩ := rpa1 ra
    cases h; cases r
    exact call_int1 pins s σ H _ us Q I rx (.inr ⟨b, rfl, k.here M (.int _)⟩)
theorem absR : CallR X (.builtin "abs") (rVs X.K fa (biF .abs)) := by
  intro pins s σ H xs us Q I rx h
  obtain ⟨t, bs, m, μ, as, u, μ', M, ra, h, k⟩ := h
  obtain ⟨h, rfl⟩ := biF_some h
  match as, h with
  | [.int i], h =>
    obtain ⟨v, rfl, r⟩ := rpa1 ra
    cases h; cases r
    exact call_abs pins s σ H _ us Q I rx ⟨i, rfl, k.here M (.int _)⟩
theorem bls_ok {K : PySem.W.Frag} {t m : List Addr} {H : Hp} {bs : List Nat} {μ : Mu} {a : U} {v : V} {ns : List Bool} (M : Me K fa bs t m H μ) (r : Rp K fa t m m.length H a v) (h : bls μ a = some ns) : ∃ p, v = .ref p ∧ SqL K H p (ns.map V.bl) := by
  unfold bls at h
  split at h
  · rename_i xs e
    obtain ⟨p, vs, rfl, hH, r1⟩ := asL_at M r e
    have := blsRp r1 h
    subst this
    exact ⟨p, rfl, SqL.of hH⟩
  · cases h
theorem intL_ok {K : PySem.W.Frag} {t m : List Addr} {H : Hp} {bs : List Nat} {μ : Mu} {a : U} {v : V} {ns : List Int} (M : Me K fa bs t m H μ) (r : Rp K fa t m m.length H a v) (h : intL μ a = some ns) : ∃ p, v = .ref p ∧ SqL K H p (ns.map V.int) := by
  unfold intL at h
  split at h
  · rename_i xs e
    obtain ⟨p, vs, rfl, hH, r1⟩ := asL_at M r e
    have := intsRp r1 h
    subst this
    exact ⟨p, rfl, SqL.of hH⟩
  · cases h
theorem intT_ok {K : PySem.W.Frag} {t m : List Addr} {H : Hp} {bs : List Nat} {μ : Mu} {a : U} {v : V} {ns : List Int} (M : Me K fa bs t m H μ) (r : Rp K fa t m m.length H a v) (h : intT μ a = some ns) : ∃ p, v = .ref p ∧ (SqL K H p (ns.map V.int) ∨ SqT K H p (ns.map V.int)) := by
  unfold intT at h
  split at h
  · rename_i xs e
    obtain ⟨p, vs, rfl, hH, r1⟩ := asS_ok M r e
    have := intsRp r1 h
    subst this
    exact ⟨p, rfl, hH⟩
  · cases h
theorem allR (hc : X.calm = true) : CallR X (.builtin "all") (rVs X.K fa (biF .all)) := by
  intro pins s σ H xs us Q I rx h
  obtain ⟨t, bs, m, μ, as, u, μ', M, ra, h, k⟩ := h
  obtain ⟨h, rfl⟩ := biF_some h
  match as, h with
  | [a], h =>
    obtain ⟨v, rfl, r⟩ := rpa1 ra
    simp only [evBi, Option.map_eq_some_iff] at h
    obtain ⟨ns, e, rfl⟩ := h
    obtain ⟨p, rfl, hS⟩ := bls_ok M r e
    exact cr_all hc pins s σ H _ us Q I rx ⟨p, ns, rfl, hS, k.here M (.bl _)⟩
  | [], h => simp [evBi] at h
  | _ :: _ :: _, h => simp [evBi] at h
theorem anyR (hc : X.calm = true) : CallR X (.builtin "any") (rVs X.K fa (biF .any)) := by
  intro pins s σ H xs us Q I rx h
  obtain ⟨t, bs, m, μ, as, u, μ', M, ra, h, k⟩ := h
  obtain ⟨h, rfl⟩ := biF_some h
  match as, h with
  | [a], h =>
    obtain ⟨v, rfl, r⟩ := rpa1 ra
    simp only [evBi, Option.map_eq_some_iff] at h
    obtain ⟨ns, e, rfl⟩ := h
    obtain ⟨p, rfl, hS⟩ := bls_ok M r e
    exact cr_any hc pins s σ H _ us Q I rx ⟨p, ns, rfl, hS, k.here M (.bl _)⟩
  | [], h => simp [evBi] at h
  | _ :: _ :: _, h => simp [evBi] at h
theorem sumR (hc : X.calm = true) : CallR X (.builtin "sum") (rVs X.K fa (biF .sum)) := by
  intro pins s σ H xs us Q I rx h
  obtain ⟨t, bs, m, μ, as, u, μ', M, ra, h, k⟩ := h
  obtain ⟨h, rfl⟩ := biF_some h
  match as, h with
  | [a], h =>
    obtain ⟨v, rfl, r⟩ := rpa1 ra
    simp only [evBi, Option.map_eq_some_iff] at h
    obtain ⟨ns, e, rfl⟩ := h
    obtain ⟨p, rfl, hS⟩ := intL_ok M r e
    exact cr_sum hc pins s σ H _ us Q I rx ⟨p, ns, rfl, hS, k.here M (.int _)⟩
  | [], h => simp [evBi] at h
  | _ :: _ :: _, h => simp [evBi] at h
theorem min2R (hc : X.calm = true) : CallR X (.builtin "min") (rVs X.K fa (biF .min2)) := by
  intro pins s σ H xs us Q I rx h
  obtain ⟨t, bs, m, μ, as, u, μ', M, ra, h, k⟩ := h
  obtain ⟨h, rfl⟩ := biF_some h
  match as, h with
  | [.int i, .int j], h =>
    obtain ⟨v, z, rfl, r, r2⟩ := rpa2 ra
    cases h; cases r; cases r2
    exact call_min2 hc pins s σ H _ us Q I rx ⟨i, j, rfl, k.here M (.int _)⟩
theorem max2R (hc : X.calm = true) : CallR X (.builtin "max") (rVs X.K fa (biF .max2)) := by
  intro pins s σ H xs us Q I rx h
  obtain ⟨t, bs, m, μ, as, u, μ', M, ra, h, k⟩ := h
  obtain ⟨h, rfl⟩ := biF_some h
  match as, h with
  | [.int i, .int j], h =>
    obtain ⟨v, z, rfl, r, r2⟩ := rpa2 ra
    cases h; cases r; cases r2
    exact call_max2 hc pins s σ H _ us Q I rx ⟨i, j, rfl, k.here M (.int _)⟩
theorem reads_ints {h : Heap} : ∀ {vs : List Value} {ns : List Int}, Vals (ns.map V.int) vs → ReadsAll h vs (ns.map PyData.int) []
  | [], [], _ => ReadsAll.nil
  | v :: vs, n :: ns, .cons r t => by
    obtain ⟨k, rfl⟩ := r
    exact ReadsAll.cons (as := []) (bs := []) (Reads.int n k) (reads_ints t)
theorem alike_intsAll (ns : List Int) : PySem.W.AlikeAll (ns.map PyData.int) := by
  refine ⟨fun x hx y hy => ?_, fun x hx => ?_⟩
  · obtain ⟨i, _, rfl⟩ := List.mem_map.mp hx
    obtain ⟨j, _, rfl⟩ := List.mem_map.mp hy
    rfl
  · obtain ⟨i, _, rfl⟩ := List.mem_map.mp hx
    exact fun z => by cases z
theorem maxD_ints : ∀ (ns : List Int) (x : Int), PySem.W.maxD (.int x) (ns.map PyData.int) = .int (ns.foldl (fun a b => if a < b then b else a) x)
  | [], x => rfl
  | n :: ns, x => by
    have ih := maxD_ints ns (if x < n then n else x)
    unfold PySem.W.maxD at ih ⊢
    rw [List.map_cons, List.foldl_cons, List.foldl_cons, ← ih]
    congr 1
    rw [PySem.W.dataLt_int]
    by_cases h : x < n <;> simp [h]
theorem minD_ints : ∀ (ns : List Int) (x : Int), PySem.W.minD (.int x) (ns.map PyData.int) = .int (ns.foldl (fun a b => if b < a then b else a) x)
  | [], x => rfl
  | n :: ns, x => by
    have ih := minD_ints ns (if n < x then n else x)
    unfold PySem.W.minD at ih ⊢
    rw [List.map_cons, List.foldl_cons, List.foldl_cons, ← ih]
    congr 1
    rw [PySem.W.dataLt_int]
    by_cases h : n < x <;> simp [h]
theorem depth_intsAll (ns : List Int) : PyData.depthAll (ns.map PyData.int) = 0 := PySem.W.depth_ints ns
theorem max1R (hc : X.calm = true) (hu : X.A.units + 66 < cLine) : CallR X (.builtin "max") (rVs X.K fa (biF .max1)) := by
  intro pins s σ H xs us Q I rx h
  obtain ⟨t, bs, m, μ, as, u, μ', M, ra, h, k⟩ := h
  obtain ⟨h, rfl⟩ := biF_some h
  match as, h with
  | [a], h =>
    obtain ⟨v, rfl, r⟩ := rpa1 ra
    simp only [evBi, Option.map_eq_some_iff] at h
    obtain ⟨z, e, rfl⟩ := h
    cases e1 : intT μ' a with
    | none => rw [e1] at e; cases e
    | some ns =>
      rw [e1] at e
      obtain ⟨p, rfl, hS⟩ := intT_ok M r e1
      obtain ⟨uu, rfl, ru⟩ := vals1 rx
      cases ru
      match ns, e with
      | n :: ns, e =>
        cases e
        have dz : X.A.units + 1 + PyData.depthAll (PyData.int n :: ns.map PyData.int) < cLine := by
          have := depth_intsAll (n :: ns)
          rw [List.map_cons] at this
          rw [this]; omega
        rcases hS with hS | hS
        · obtain ⟨its, rv, pl, _⟩ := I.list hS
          refine PySem.W.max_list_data (I.ok.hd hc) pl.isList (reads_ints rv) (alike_intsAll (n :: ns)) dz fun i v h' tk bs hv hr hk => ?_
          rw [maxD_ints] at hr
          cases hr
          exact ⟨.int _, H, I.kept (t' := tk) hk, ⟨_, rfl⟩, k.here M (.int _)⟩
        · obtain ⟨its, rv, pl, _⟩ := I.tuple hS
          refine PySem.W.max_tuple_data (I.ok.hd hc) (show s.heap.IsTuple p its.toArray from pl) (reads_ints rv) (alike_intsAll (n :: ns)) dz fun i v h' tk bs hv hr hk => ?_
          rw [maxD_ints] at hr
          cases hr
          exact ⟨.int _, H, I.kept (t' := tk) hk, ⟨_, rfl⟩, k.here M (.int _)⟩
  | [], h => simp [evBi] at h
  | _ :: _ :: _, h => simp [evBi] at h
theorem min1R (hc : X.calm = true) (hu : X.A.units + 66 < cLine) : CallR X (.builtin "min") (rVs X.K fa (biF .min1)) := by
  intro pins s σ H xs us Q I rx h
  obtain ⟨t, bs, m, μ, as, u, μ', M, ra, h, k⟩ := h
  obtain ⟨h, rfl⟩ := biF_some h
  match as, h with
  | [a], h =>
    obtain ⟨v, rfl, r⟩ := rpa1 ra
    simp only [evBi, Option.map_eq_some_iff] at h
    obtain ⟨z, e, rfl⟩ := h
    cases e1 : intT μ' a with
    | none => rw [e1] at e; cases e
    | some ns =>
      rw [e1] at e
      obtain ⟨p, rfl, hS⟩ := intT_ok M r e1
      obtain ⟨uu, rfl, ru⟩ := vals1 rx
      cases ru
      match ns, e with
      | n :: ns, e =>
        cases e
        have dz : X.A.units + 1 + PyData.depthAll (PyData.int n :: ns.map PyData.int) < cLine := by
          have := depth_intsAll (n :: ns)
          rw [List.map_cons] at this
          rw [this]; omega
        rcases hS with hS | hS
        · obtain ⟨its, rv, pl, _⟩ := I.list hS
          refine PySem.W.min_list_data (I.ok.hd hc) pl.isList (reads_ints rv) (alike_intsAll (n :: ns)) dz fun i v h' tk bs hv hr hk => ?_
          rw [minD_ints] at hr
          cases hr
          exact ⟨.int _, H, I.kept (t' := tk) hk, ⟨_, rfl⟩, k.here M (.int _)⟩
        · obtain ⟨its, rv, pl, _⟩ := I.tuple hS
          refine PySem.W.min_tuple_data (I.ok.hd hc) (show s.heap.IsTuple p its.toArray from pl) (reads_ints rv) (alike_intsAll (n :: ns)) dz fun i v h' tk bs hv hr hk => ?_
          rw [minD_ints] at hr
          cases hr
          exact ⟨.int _, H, I.kept (t' := tk) hk, ⟨_, rfl⟩, k.here M (.int _)⟩
  | [], h => simp [evBi] at h
  | _ :: _ :: _, h => simp [evBi] at h

/-- the name, the value of each builtin -/
def Bi.nm : Bi → Str
  | .len => "len" | .int => "int" | .abs => "abs" | .all => "all" | .any => "any" | .sum => "sum" | .min1 => "min" | .max1 => "max" | .min2 => "min" | .max2 => "max"
end
end R

set_option Elab.async false
set_option linter.all false
set_option maxRecDepth 100000
set_option maxHeartbeats 4000000
/-! R3e: expressions -/
namespace R
open PySem PySem.Spec PyProof.Rows L2

theorem _root_.L2.PE.imp {X : Cx} {e : Expr} {t t' : TE} (h : PE X e t) (hi : ∀ σ H Q, t' σ H Q → t σ H Q) : PE X e t' := R.PE.imp h hi
theorem _root_.L2.PT.imp {X : Cx} {e : Expr} {t t' : TT} (h : PT X e t) (hi : ∀ σ H Q, t' σ H Q → t σ H Q) : PT X e t' := R.PT.imp h hi
theorem _root_.L2.PW.imp {X : Cx} {e : Expr} {t t' : TT} (h : PW X e t) (hi : ∀ σ H Q, t' σ H Q → t σ H Q) : PW X e t' := R.PW.imp h hi
theorem _root_.L2.PA.imp {X : Cx} {e : List Expr} {t t' : TA} (h : PA X e t) (hi : ∀ σ H Q, t' σ H Q → t σ H Q) : PA X e t' := R.PA.imp h hi
theorem _root_.L2.PS.imp {X : Cx} {e : Stmt} {t t' : TS} (h : PS X e t) (hi : ∀ D σ H, t' D σ H → t D σ H) : PS X e t' := R.PS.imp h hi
theorem _root_.L2.PSs.imp {X : Cx} {e : List Stmt} {t t' : TS} (h : PSs X e t) (hi : ∀ D σ H, t' D σ H → t D σ H) : PSs X e t' := R.PSs.imp h hi
/-- the forms that an expression of ours may have -/
def okh : Expr → Bool
  | .Name .. | .Constant .. | .BinOp .. | .UnaryOp .. | .Compare .. | .BoolOp .. | .IfExp .. | .Subscript .. | .Call .. | .Tuple .. | .List .. | .Dict .. | .ListComp .. => true
  | _ => false
theorem okh_star {e : Expr} {es : List Expr} {env : PySem.Env} (h : okh e = true) : starEach (e :: es) env = (false, eval e env) :: starEach es env := by
  cases e <;> first | rfl | cases h
theorem okh_back : ∀ {es : List Expr} {env : PySem.Env} {pos : Pos}, es.all okh = true → (backTo pos (starEach es env)).any (·.1) = false
  | [], _, _, _ => rfl
  | e :: es, env, pos, h => by
    simp only [List.all_cons, Bool.and_eq_true] at h
    rw [okh_star h.1]
    have ih := okh_back (env := env) (pos := pos) h.2
    show (false || (backTo pos (starEach es env)).any (·.1)) = false
    rw [ih] <;> rfl
theorem okh_all : ∀ {es : List Expr} {env : PySem.Env} {pos : Pos}, es.all okh = true → (backTo pos (starEach es env)).all (fun x => !x.1) = true
  | [], _, _, _ => rfl
  | e :: es, env, pos, h => by
    simp only [List.all_cons, Bool.and_eq_true] at h
    rw [okh_star h.1]
    have ih := okh_all (env := env) (pos := pos) h.2
    show (true && (backTo pos (starEach es env)).all (fun x => !x.1)) = true
    rw [ih] <;> rfl
theorem okh_ix {e : Expr} (h : okh e = true) : PlainIx e := by
  intro o i
  cases e <;> first | rfl | cases h
theorem okh_mark {e : Expr} {op : CmpOp} (h : okh e = true) : behindInMarks op e = false := by
  cases e <;> first | rfl | cases h
/-- a receiver of a method: no call without arguments -/
def okr : Expr → Bool
  | .Name .. | .Subscript .. => true
  | .Call _ (_ :: _) [] _ => true
  | _ => false
theorem okr_base {e : Expr} {m : Str} {env : PySem.Env} {w : Sem Value} (h : okr e = true) : attributeBase e m env w = w := by
  cases e with
  | Call f as kw pos =>
    cases as with
    | nil => cases h
    | cons a as => cases kw <;> first | (cases f <;> (unfold attributeBase; rfl)) | cases h
  | Name => unfold attributeBase; rfl
  | Subscript => unfold attributeBase; rfl
  | _ => cases h

section
variable {X : Cx} {fa : Nat → Option Addr} {cal : Nat → List U → Mu → Option (U × Mu)} {n0 : Nat}
abbrev PEv (X : Cx) (fa : Nat → Option Addr) (cal : Nat → List U → Mu → Option (U × Mu)) (n0 : Nat) (x : Expr) (e : E) : Prop := PE X x (tE X.K fa n0 (evalE cal n0 e))
abbrev PTv (X : Cx) (fa : Nat → Option Addr) (cal : Nat → List U → Mu → Option (U × Mu)) (n0 : Nat) (x : Expr) (e : E) : Prop := PT X x (tT X.K fa n0 (evalE cal n0 e))
abbrev PAv (X : Cx) (fa : Nat → Option Addr) (cal : Nat → List U → Mu → Option (U × Mu)) (n0 : Nat) (x : List Expr) (e : List E) : Prop := PA X x (tL X.K fa n0 (evalL cal n0 e))
variable {a b c : E} {xa xb xc : Expr} {pos : Pos}

/-- a test by its value -/
theorem t_of_e (h : PEv X fa cal n0 xa a) (he : ∀ whole, isTrue xa X.env whole = (do let v ← whole; standAt xa.pos; holding [v] (truthy v))) : PTv X fa cal n0 xa a :=
  (pt_truth h he).imp fun σV H Q q => by
    obtain ⟨t, bs, m, σ, μ, u, μ', d, hb, he, M, ev, tr, k⟩ := q
    exact ⟨t, bs, m, σ, μ, u, μ', hb, he, M, ev, fun m' H' v x1 M1 r1 => ⟨d, truV_ok M1 r1 tr, k m' H' x1 M1⟩⟩

theorem e_var {i : Nat} {x : Str} (hN : X.N[i]? = some x) (hv : Vis X.env.scope x) (hd : (x == ("__debug__" : Str)) = false) (hcd : (x == ("__classdict__" : Str)) = false) : PEv X fa cal n0 (.Name x pos) (.var i) :=
  (pe_var hN hv hd hcd).imp fun σV H Q q => by
    obtain ⟨t, bs, m, σ, μ, u, μ', hb, he, M, ev, k⟩ := q
    simp only [evalE] at ev
    split at ev
    · rename_i u' e
      cases ev
      obtain ⟨v, e1, r⟩ := he.at_ i _ e
      exact ⟨v, e1, k.here M r⟩
    · cases ev
theorem e_c {e : E} {x : Expr} {u : U} {v : V} (h : PE X x (tC v)) (he : ∀ σ μ, evalE cal n0 e σ μ = some (u, μ)) (r : ∀ t m n H, Rp X.K fa t m n H u v) : PEv X fa cal n0 x e :=
  h.imp fun σV H Q q => by
    obtain ⟨t, bs, m, σ, μ, u, μ', hb, hE, M, ev, k⟩ := q
    rw [he] at ev
    cases ev
    exact k.here M (r _ _ _ _)
theorem e_non {j} : PEv X fa cal n0 (.Constant .none j pos) .non := e_c pe_non (fun _ _ => rfl) fun _ _ _ _ => .non
theorem e_bl {j} {d : Bool} : PEv X fa cal n0 (.Constant (.bool d) j pos) (.bl d) := e_c pe_bl (fun _ _ => rfl) fun _ _ _ _ => .bl d
theorem e_int {j} {i : Int} : PEv X fa cal n0 (.Constant (.int i) j pos) (.int i) := e_c pe_int (fun _ _ => rfl) fun _ _ _ _ => .int i
theorem e_str {j} {z : Str} : PEv X fa cal n0 (.Constant (.str z) j pos) (.str z) := e_c pe_str (fun _ _ => rfl) fun _ _ _ _ => .str z
theorem e_gint {x : Str} {i : Int} (hg : Gl X x) (hm : ∃ t, X.mg x = some (.int i t)) (hd : (x == ("__debug__" : Str)) = false) : PEv X fa cal n0 (.Name x pos) (.gint i) := by
  obtain ⟨t, e⟩ := hm
  exact e_c (pe_glob hg e (v := .int i) ⟨t, rfl⟩ hd) (fun _ _ => rfl) fun _ _ _ _ => .int i
theorem e_fnv {x : Str} {f : Nat} {p : Addr} (hg : Gl X x) (hm : X.mg x = some (.ref p)) (hf : fa f = some p) (hd : (x == ("__debug__" : Str)) = false) : PEv X fa cal n0 (.Name x pos) (.fnv f) :=
  e_c (pe_glob hg hm (v := .ref p) rfl hd) (fun _ _ => rfl) fun _ _ _ _ => .fn hf

/-- one value, then something -/
theorem seq1 {K : PySem.W.Frag} {t m : List Addr} {bs : List Nat} {σ : Env} {σV : L2.St} {H : Hp} {μ μ1 : Mu} {u1 : U} {ev : Ev} (hb : bs.length = n0) (he : EnvR K fa t m H σ σV) (M : Me K fa bs t m H μ) (e1 : ev σ μ = some (u1, μ1))
    {R : V → Hp → Prop} (k : ∀ m1 H1 v1, Ex m H m1 H1 → Me K fa bs t m1 H1 μ1 → Rp K fa t m1 m1.length H1 u1 v1 → R v1 H1) : tE K fa n0 ev σV H R := ⟨t, bs, m, σ, μ, u1, μ1, hb, he, M, e1, k⟩
theorem seq2 {K : PySem.W.Frag} {t m : List Addr} {bs : List Nat} {σ : Env} {σV : L2.St} {H : Hp} {μ μ1 μ2 : Mu} {u1 u2 : U} {ev ev2 : Ev} (hb : bs.length = n0) (he : EnvR K fa t m H σ σV) (M : Me K fa bs t m H μ) (e1 : ev σ μ = some (u1, μ1)) (e2 : ev2 σ μ1 = some (u2, μ2))
    {R : V → V → Hp → Prop} (k : ∀ m2 H2 v1 v2, Ex m H m2 H2 → Me K fa bs t m2 H2 μ2 → Rp K fa t m2 m2.length H2 u1 v1 → Rp K fa t m2 m2.length H2 u2 v2 → R v1 v2 H2) :
    tE K fa n0 ev σV H fun x H1 => tE K fa n0 ev2 σV H1 fun y H2 => R x y H2 :=
  seq1 hb he M e1 fun m1 H1 v1 x1 M1 r1 => seq1 hb (he.ex x1) M1 e2 fun m2 H2 v2 x2 M2 r2 => k m2 H2 v1 v2 (x1.trans x2) M2 (r1.ex' x2) r2

theorem e_bin {al : Bool} {op : Bo} (ha : PEv X fa cal n0 xa a) (hb : PEv X fa cal n0 xb b) : PEv X fa cal n0 (.BinOp xa op.op xb pos) (.bin al op a b) :=
  (pe_op (binR al op) ha hb).imp fun σV H Q q => by
    obtain ⟨t, bs, m, σ, μ, u, μ', hb, he, M, ev, k⟩ := q
    simp only [evalE] at ev
    split at ev
    · rename_i u1 μ1 e1
      split at ev
      · rename_i u2 μ2 e2
        exact seq2 hb he M e1 e2 fun m2 H2 v1 v2 x M2 r1 r2 => ⟨t, bs, m2, μ2, u1, u2, u, μ', M2, r1, r2, ev, k.ex x⟩
      · cases ev
    · cases ev
theorem e_neg (ha : PEv X fa cal n0 xa a) : PEv X fa cal n0 (.UnaryOp .USub xa pos) (.neg a) :=
  (pe_un un_neg ha).imp fun σV H Q q => by
    obtain ⟨t, bs, m, σ, μ, u, μ', hb, he, M, ev, k⟩ := q
    simp only [evalE] at ev
    split at ev
    · rename_i i μ1 e1
      cases ev
      refine seq1 hb he M e1 fun m1 H1 v1 x M1 r1 => ?_
      cases r1
      exact ⟨i, rfl, k m1 H1 _ x M1 (.int _)⟩
    · cases ev
theorem cmp_rd {op : Co} {σV : L2.St} {H : Hp} {Q : VK} (q : tE X.K fa n0 (evalE cal n0 (.cmp op a b)) σV H Q) : tOp (rC2 X.K fa fun μ a b => evCmp μ op a b) (tE X.K fa n0 (evalE cal n0 a)) (tE X.K fa n0 (evalE cal n0 b)) σV H Q := by
  obtain ⟨t, bs, m, σ, μ, u, μ', hb, he, M, ev, k⟩ := q
  simp only [evalE] at ev
  split at ev
  · rename_i u1 μ1 e1
    split at ev
    · rename_i u2 μ2 e2
      split at ev
      · rename_i d e3
        cases ev
        exact seq2 hb he M e1 e2 fun m2 H2 v1 v2 x M2 r1 r2 => ⟨t, bs, m2, _, u1, u2, d, M2, r1, r2, e3, k m2 H2 _ x M2 (.bl _)⟩
      · cases ev
    · cases ev
  · cases ev
theorem e_cmp {op : Co} (hu : X.A.units + 66 < cLine) (ha : PEv X fa cal n0 xa a) (hb : PEv X fa cal n0 xb b) (hk : okh xb = true) : PEv X fa cal n0 (.Compare xa [op.op] [xb] pos) (.cmp op a b) :=
  (pe_cmpR (cmpR hu op) ha hb (okh_mark hk)).imp fun σV H Q q => cmp_rd q
theorem cmp_bl {op : Co} {σ : Env} {μ μ' : Mu} {u : U} (h : evalE cal n0 (.cmp op a b) σ μ = some (u, μ')) : ∃ d, u = .bl d := by
  simp only [evalE] at h
  split at h
  · split at h
    · split at h
      · cases h; exact ⟨_, rfl⟩
      · cases h
    · cases h
  · cases h
/-- a bool's test -/
theorem tT_bl {K : PySem.W.Frag} {ev : Ev} {σV : L2.St} {H : Hp} {Q : Bool → Hp → Prop} (hbl : ∀ σ μ u μ', ev σ μ = some (u, μ') → ∃ d, u = .bl d) (h : tT K fa n0 ev σV H Q) : tE K fa n0 ev σV H fun x H' => ∃ k, x = .bl k ∧ Q k H' := by
  obtain ⟨t, bs, m, σ, μ, u, μ', d, hb, he, M, ev, tr, k⟩ := h
  obtain ⟨e, rfl⟩ := hbl _ _ _ _ ev
  cases tr
  exact ⟨t, bs, m, σ, μ, _, μ', hb, he, M, ev, fun m1 H1 v x1 M1 r1 => by cases r1; exact ⟨d, rfl, k m1 H1 x1 M1⟩⟩
theorem t_cmp {op : Co} (hu : X.A.units + 66 < cLine) (ha : PEv X fa cal n0 xa a) (hb : PEv X fa cal n0 xb b) (hk : okh xb = true) : PTv X fa cal n0 (.Compare xa [op.op] [xb] pos) (.cmp op a b) :=
  (pt_cmpR (cmpR hu op) ha hb (okh_mark hk)).imp fun σV H Q q => cmp_rd (tT_bl (fun _ _ _ _ e => cmp_bl e) q)
theorem chain_rd {op op' : Co} {σV : L2.St} {H : Hp} {Q : VK} (q : tE X.K fa n0 (evalE cal n0 (.chain op op' a b c)) σV H Q) :
    tChain (rC2 X.K fa fun μ a b => evCmp μ op a b) (rC2 X.K fa fun μ a b => evCmp μ op' a b) (tE X.K fa n0 (evalE cal n0 a)) (tE X.K fa n0 (evalE cal n0 b)) (tE X.K fa n0 (evalE cal n0 c)) σV H Q := by
  obtain ⟨t, bs, m, σ, μ, u, μ', hb, he, M, ev, k⟩ := q
  simp only [evalE] at ev
  split at ev
  · rename_i u1 μ1 e1
    split at ev
    · rename_i u2 μ2 e2
      refine seq2 hb he M e1 e2 fun m2 H2 v1 v2 x M2 r1 r2 => ?_
      split at ev
      · rename_i e3
        cases ev
        refine ⟨t, bs, m2, _, u1, u2, false, M2, r1, r2, e3, false, rfl, ?_⟩
        rw [if_neg (by decide)]
        exact k m2 H2 _ x M2 (.bl _)
      · rename_i e3
        refine ⟨t, bs, m2, μ2, u1, u2, true, M2, r1, r2, e3, true, rfl, ?_⟩
        rw [if_pos rfl]
        split at ev
        · rename_i w μ3 e4
          split at ev
          · rename_i d e5
            cases ev
            refine seq1 hb (he.ex x) M2 e4 fun m3 H3 v3 x3 M3 r3 => ?_
            exact ⟨t, bs, m3, _, u2, w, d, M3, r2.ex' x3, r3, e5, k m3 H3 _ (x.trans x3) M3 (.bl _)⟩
          · cases ev
        · cases ev
      · cases ev
    · cases ev
  · cases ev
theorem chain_bl {op op' : Co} {σ : Env} {μ μ' : Mu} {u : U} (h : evalE cal n0 (.chain op op' a b c) σ μ = some (u, μ')) : ∃ d, u = .bl d := by
  simp only [evalE] at h
  split at h
  · split at h
    · split at h
      · cases h; exact ⟨_, rfl⟩
      · split at h
        · split at h
          · cases h; exact ⟨_, rfl⟩
          · cases h
        · cases h
      · cases h
    · cases h
  · cases h
theorem okh_last {op op' : CmpOp} {e f : Expr} (h : okh f = true) : lastMarks [op, op'] [e, f] = false := okh_mark (op := op') h
theorem e_chain {op op' : Co} (hu : X.A.units + 66 < cLine) (ha : PEv X fa cal n0 xa a) (hb : PEv X fa cal n0 xb b) (hc : PEv X fa cal n0 xc c) (hk : okh xc = true) : PEv X fa cal n0 (.Compare xa [op.op, op'.op] [xb, xc] pos) (.chain op op' a b c) :=
  (pe_chain (cmpR hu op) (cmpR hu op') ha hb hc (okh_last hk)).imp fun σV H Q q => chain_rd q
theorem t_chain {op op' : Co} (hu : X.A.units + 66 < cLine) (ha : PEv X fa cal n0 xa a) (hb : PEv X fa cal n0 xb b) (hc : PEv X fa cal n0 xc c) (hk : okh xc = true) : PTv X fa cal n0 (.Compare xa [op.op, op'.op] [xb, xc] pos) (.chain op op' a b c) :=
  (pt_chain (cmpR hu op) (cmpR hu op') ha hb hc (okh_last hk)).imp fun σV H Q q => chain_rd (tT_bl (fun _ _ _ _ e => chain_bl e) q)
theorem e_not (ha : PEv X fa cal n0 xa a) : PEv X fa cal n0 (.UnaryOp .Not xa pos) (.not a) :=
  (pe_notT ha).imp fun σV H Q q => by
    obtain ⟨t, bs, m, σ, μ, u, μ', hb, he, M, ev, k⟩ := q
    simp only [evalE] at ev
    split at ev
    · rename_i u1 μ1 e1
      split at ev
      · rename_i d e2
        cases ev
        exact seq1 hb he M e1 fun m1 H1 v1 x M1 r1 => ⟨d, truV_ok M1 r1 e2, k m1 H1 _ x M1 (.bl _)⟩
      · cases ev
    · cases ev
theorem t_not (ha : PTv X fa cal n0 xa a) : PTv X fa cal n0 (.UnaryOp .Not xa pos) (.not a) :=
  (pt_not ha).imp fun σV H Q q => by
    obtain ⟨t, bs, m, σ, μ, u, μ', d, hb, he, M, ev, tr, k⟩ := q
    simp only [evalE] at ev
    split at ev
    · rename_i u1 μ1 e1
      split at ev
      · rename_i d' e2
        cases ev
        cases tr
        exact ⟨t, bs, m, σ, μ, u1, _, d', hb, he, M, e1, e2, k⟩
      · cases ev
    · cases ev
theorem e_ite (hc : PTv X fa cal n0 xc c) (ha : PEv X fa cal n0 xa a) (hb : PEv X fa cal n0 xb b) : PEv X fa cal n0 (.IfExp xc xa xb pos) (.ite c a b) :=
  (pe_ifExp hc ha hb).imp fun σV H Q q => by
    obtain ⟨t, bs, m, σ, μ, u, μ', hb, he, M, ev, k⟩ := q
    simp only [evalE] at ev
    split at ev
    · rename_i u1 μ1 e1
      split at ev
      · rename_i e2
        refine ⟨t, bs, m, σ, μ, u1, μ1, true, hb, he, M, e1, e2, fun m1 H1 x1 M1 => ?_⟩
        simp only [↓reduceIte]
        exact ⟨t, bs, m1, σ, μ1, u, μ', hb, he.ex x1, M1, ev, k.ex x1⟩
      · rename_i e2
        refine ⟨t, bs, m, σ, μ, u1, μ1, false, hb, he, M, e1, e2, fun m1 H1 x1 M1 => ?_⟩
        simp only [↓reduceIte, Bool.false_eq_true]
        exact ⟨t, bs, m1, σ, μ1, u, μ', hb, he.ex x1, M1, ev, k.ex x1⟩
      · cases ev
    · cases ev
/-- a test of a if c else b -/
theorem pt_ifExp {tc ta tb : TT} (hc : PT X xc tc) (ha : PT X xa ta) (hb : PT X xb tb) : PT X (.IfExp xc xa xb pos) (fun σ H Q => tc σ H fun d H1 => if d = true then ta σ H1 Q else tb σ H1 Q) := by
  refine ⟨fun pins s σ H Q I h => ?_⟩
  unfold PySem.isTrue
  refine wpAny_bind (thn (hc.run pins s σ H _ I h) fun d s1 ⟨H1, I1, q1⟩ => ?_)
  cases d with
  | true => exact ha.run pins s1 σ H1 Q I1 q1
  | false => exact hb.run pins s1 σ H1 Q I1 q1
theorem t_ite (hc : PTv X fa cal n0 xc c) (ha : PTv X fa cal n0 xa a) (hb : PTv X fa cal n0 xb b) : PTv X fa cal n0 (.IfExp xc xa xb pos) (.ite c a b) :=
  (pt_ifExp hc ha hb).imp fun σV H Q q => by
    obtain ⟨t, bs, m, σ, μ, u, μ', d, hb, he, M, ev, tr, k⟩ := q
    simp only [evalE] at ev
    split at ev
    · rename_i u1 μ1 e1
      split at ev
      · rename_i e2
        refine ⟨t, bs, m, σ, μ, u1, μ1, true, hb, he, M, e1, e2, fun m1 H1 x1 M1 => ?_⟩
        simp only [↓reduceIte]
        exact ⟨t, bs, m1, σ, μ1, u, μ', d, hb, he.ex x1, M1, ev, tr, fun m2 H2 x2 M2 => k m2 H2 (x1.trans x2) M2⟩
      · rename_i e2
        refine ⟨t, bs, m, σ, μ, u1, μ1, false, hb, he, M, e1, e2, fun m1 H1 x1 M1 => ?_⟩
        simp only [↓reduceIte, Bool.false_eq_true]
        exact ⟨t, bs, m1, σ, μ1, u, μ', d, hb, he.ex x1, M1, ev, tr, fun m2 H2 x2 M2 => k m2 H2 (x1.trans x2) M2⟩
      · cases ev
    · cases ev
theorem e_idx (hu : X.A.units + 66 < cLine) (ha : PEv X fa cal n0 xa a) (hb : PEv X fa cal n0 xb b) (hk : okh xb = true) : PEv X fa cal n0 (.Subscript xa xb pos) (.idx a b) :=
  (pe_ix (idxR hu) ha hb (okh_ix hk)).imp fun σV H Q q => by
    obtain ⟨t, bs, m, σ, μ, u, μ', hb, he, M, ev, k⟩ := q
    simp only [evalE] at ev
    split at ev
    · rename_i u1 μ1 e1
      split at ev
      · rename_i u2 μ2 e2
        split at ev
        · rename_i w e3
          cases ev
          exact seq2 hb he M e1 e2 fun m2 H2 v1 v2 x M2 r1 r2 => ⟨t, bs, m2, _, u1, u2, _, M2, r1, r2, e3, fun v r => k m2 H2 v x M2 r⟩
        · cases ev
      · cases ev
    · cases ev
/-- arguments -/
theorem a_nil : PAv X fa cal n0 [] [] := pa_nil.imp fun σV H Q q => by
  obtain ⟨t, bs, m, σ, μ, us, μ', hb, he, M, ev, k⟩ := q
  simp only [evalL] at ev
  cases ev
  exact k m H [] (Ex.refl m H) M .nil
theorem a_cons {es : List E} {xs : List Expr} (ha : PEv X fa cal n0 xa a) (hr : PAv X fa cal n0 xs es) (hk : okh xa = true) : PAv X fa cal n0 (xa :: xs) (a :: es) :=
  (pa_cons ha hr (okh_star hk)).imp fun σV H Q q => by
    obtain ⟨t, bs, m, σ, μ, us, μ', hb, he, M, ev, k⟩ := q
    simp only [evalL] at ev
    split at ev
    · rename_i u1 μ1 e1
      split at ev
      · rename_i us2 μ2 e2
        cases ev
        exact seq1 hb he M e1 fun m1 H1 v1 x1 M1 r1 => ⟨t, bs, m1, σ, μ1, us2, _, hb, he.ex x1, M1, e2, fun m2 H2 vs x2 M2 ra => k m2 H2 _ (x1.trans x2) M2 (.cons (r1.ex' x2) ra)⟩
      · cases ev
    · cases ev
theorem e_tup {es : List E} {xs : List Expr} {j} (h : PAv X fa cal n0 xs es) : PEv X fa cal n0 (.Tuple xs j pos) (.tup es) :=
  (pe_tup h).imp fun σV H Q q => by
    obtain ⟨t, bs, m, σ, μ, u, μ', hb, he, M, ev, k⟩ := q
    simp only [evalE] at ev
    split at ev
    · rename_i us μ1 e1
      split at ev
      · rename_i hz
        cases ev
        have hl := sz_line
        exact ⟨t, bs, m, σ, μ, us, _, hb, he, M, e1, fun m1 H1 vs x1 M1 ra => ⟨by rw [← ra.length]; omega, fun p hp => (k.ex x1).tup M1 hp ra⟩⟩
      · cases ev
    · cases ev
theorem e_lst {al : Bool} {es : List E} {xs : List Expr} (h : PAv X fa cal n0 xs es) : PEv X fa cal n0 (.List xs pos) (.lst al es) :=
  (pe_lst h).imp fun σV H Q q => by
    obtain ⟨t, bs, m, σ, μ, u, μ', hb, he, M, ev, k⟩ := q
    simp only [evalE] at ev
    split at ev
    · rename_i us μ1 e1
      split at ev
      · rename_i hz
        obtain ⟨rfl, rfl⟩ := Prod.mk.inj (Option.some.inj ev)
        have hl := sz_line
        exact ⟨t, bs, m, σ, μ, us, _, hb, he, M, e1, fun m1 H1 vs x1 M1 ra => ⟨by rw [← ra.length]; omega, fun p hp => (k.ex x1).lst M1 hp ra⟩⟩
      · cases ev
    · cases ev
end
end R

set_option Elab.async false
set_option linter.all false
set_option maxRecDepth 100000
set_option maxHeartbeats 4000000
/-! R3f: temporaries that become values; slices, displays, and/or, builtins, methods -/
namespace R
open PySem PySem.Spec PyProof.Rows L2

section
variable {K : PySem.W.Frag} {fa : Nat → Option Addr} {t m m' : List Addr} {n n' : Nat} {H H' : Hp} {bs : List Nat} {μ : Mu} {D : Addr}
mutual
/-- the temporary becomes a mutable one -/
theorem Rp.ad : ∀ {u : U} {v : V}, Rp K fa (D :: t) m n H u v → Rp K fa t (m ++ [D]) n H u v
  | _, _, .non => .non
  | _, _, .bl b => .bl b
  | _, _, .int i => .int i
  | _, _, .str x => .str x
  | _, _, .tup h r => .tup ⟨h.1, fun z => by
      rcases List.mem_append.mp z with z | z
      · exact h.2.1 z
      · exact h.2.2 (by simp at z; simp [z]), fun z => h.2.2 (by simp [z])⟩ (RpA.ad r)
  | _, _, .lst h r => .lst ⟨h.1, fun z => by
      rcases List.mem_append.mp z with z | z
      · exact h.2.1 z
      · exact h.2.2 (by simp at z; simp [z]), fun z => h.2.2 (by simp [z])⟩ (RpA.ad r)
  | _, _, .dK h q z r => .dK h (fun y => by
      rcases List.mem_append.mp y with y | y
      · exact q y
      · exact z (by simp at y; simp [y])) (fun y => z (by simp [y])) (RpA.ad r)
  | _, _, .dT h q z r => .dT h (fun y => by
      rcases List.mem_append.mp y with y | y
      · exact q y
      · exact z (by simp at y; simp [y])) (fun y => z (by simp [y])) (RpA.ad r)
  | _, _, .ob hi h => .ob hi (by rw [List.getElem?_append_left (List.getElem?_eq_some_iff.mp h).1]; exact h)
  | _, _, .fn h => .fn h
  | _, _, .scr h => .scr (h.elim (fun q => .inl ⟨q.1, fun z => by
      rcases List.mem_append.mp z with z | z
      · exact q.2.1 z
      · exact q.2.2 (by simp at z; simp [z]), fun z => q.2.2 (by simp [z])⟩) .inr)
theorem RpA.ad : ∀ {us : List U} {vs : List V}, RpA K fa (D :: t) m n H us vs → RpA K fa t (m ++ [D]) n H us vs
  | _, _, .nil => .nil
  | _, _, .cons h r => .cons (Rp.ad h) (RpA.ad r)
end
mutual
theorem Rp.mono (hn : n ≤ n') : ∀ {u : U} {v : V}, Rp K fa t m n H u v → Rp K fa t m n' H u v
  | _, _, h => h.ex (Ex.refl m H) hn
/-- no mutable one within: any bound -/
theorem Rp.nomut : ∀ {u : U} {v : V}, Rp K fa t m n H u v → nomut u = true → Rp K fa t m n' H u v
  | _, _, .non, _ => .non
  | _, _, .bl b, _ => .bl b
  | _, _, .int i, _ => .int i
  | _, _, .str x, _ => .str x
  | _, _, .tup h r, z => .tup h (RpA.nomut r (by simpa [R.nomut] using z))
  | _, _, .lst h r, z => .lst h (RpA.nomut r (by simpa [R.nomut] using z))
  | _, _, .dK h q y r, z => .dK h q y (RpA.nomut r (by simpa [R.nomut] using z))
  | _, _, .dT h q y r, z => .dT h q y (RpA.nomut r (by simpa [R.nomut] using z))
  | _, _, .ob hi h, z => by simp [R.nomut] at z
  | _, _, .fn h, _ => .fn h
  | _, _, .scr h, _ => .scr h
theorem RpA.nomut : ∀ {us : List U} {vs : List V}, RpA K fa t m n H us vs → nomuts us = true → RpA K fa t m n' H us vs
  | _, _, .nil, _ => .nil
  | _, _, .cons h r, z => by
    simp only [nomuts, Bool.and_eq_true] at z
    exact .cons (Rp.nomut h z.1) (RpA.nomut r z.2)
end
theorem RpA.erase : ∀ {us : List U} {vs : List V} (i : Nat), RpA K fa t m n H us vs → RpA K fa t m n H (us.eraseIdx i) (vs.eraseIdx i)
  | _, _, _, .nil => .nil
  | _, _, 0, .cons _ r => r
  | _, _, i + 1, .cons h r => .cons h (RpA.erase i r)
theorem RpA.dropL {us : List U} {vs : List V} (r : RpA K fa t m n H us vs) : RpA K fa t m n H us.dropLast vs.dropLast := by
  rw [List.dropLast_eq_take, List.dropLast_eq_take, r.length]
  exact r.take _
theorem Ex.tmp (e : Ex m H m' H') (h : H D = none) {o : HO} : Ex m H m' (L2.upd H' D o) :=
  ⟨e.pre, fun a u q n => by rw [upd_ne (ne_of_none q h)]; exact e.keep a u q n, e.new⟩
theorem Ex.adopt (e : Ex m H m' H') (h : H D = none) : Ex m H (m' ++ [D]) H' :=
  ⟨by obtain ⟨t, rfl⟩ := e.pre; exact ⟨t ++ [D], by simp⟩, e.keep, fun a q n => by
    rcases List.mem_append.mp q with q | q
    · exact e.new a q n
    · simp at q; subst q; exact h⟩
theorem Me.adopt (M : Me K fa bs (D :: t) m H μ) (hD : D ∉ t) {o : U} (c : Ct K fa t (m ++ [D]) (m.length + 1) H D o) : Me K fa bs t (m ++ [D]) H (μ ++ [o]) := by
  have nm := (M.tt D (by simp)).1
  have e : Ex m H (m ++ [D]) H → True := fun _ => trivial
  refine ⟨by simp [M.len], by have := M.low; simp; omega, ?_, fun i a u h1 h2 => ?_, M.bd, fun a ha => ?_⟩
  · rw [List.nodup_append]
    refine ⟨M.nd, by simp, fun a ha b hb => ?_⟩
    simp at hb; subst hb
    exact fun z => nm (z ▸ ha)
  · by_cases hi : i < m.length
    · rw [List.getElem?_append_left hi] at h1
      rw [List.getElem?_append_left (by rw [← M.len]; exact hi)] at h2
      have q := M.ct i a u h1 h2
      have hb : (bs[i]?.getD m.length) ≤ (bs[i]?.getD (m ++ [D]).length) := by
        cases hb : bs[i]? with
        | none => simp
        | some b => simp
      cases q with
      | lst q r => exact .lst q (r.ad.ex (Ex.refl _ _) hb)
      | dK q r => exact .dK q (r.ad.ex (Ex.refl _ _) hb)
      | dT q r => exact .dT q (r.ad.ex (Ex.refl _ _) hb)
    · have hi' : i = m.length := by
        have := (List.getElem?_eq_some_iff.mp h1).1
        simp at this; omega
      subst hi'
      simp at h1
      rw [M.len] at h2
      simp at h2
      subst h1 h2
      have hb : bs[m.length]? = none := List.getElem?_eq_none_iff.mpr M.low
      rw [hb]
      simpa using c
  · obtain ⟨h1, o', h2, h3⟩ := M.tt a (by simp [ha])
    refine ⟨fun z => ?_, o', h2, h3⟩
    rcases List.mem_append.mp z with z | z
    · exact h1 z
    · simp at z; subst z; exact hD ha
/-- a temporary list becomes the value -/
theorem Kn.tmpL {m2 : List Addr} {H3 : Hp} {μ2 : Mu} {us : List U} {vs : List V} {al : Bool} {Q : VK} (k : Kn K fa bs t m H (fresh al (.lst us) μ2).1 (fresh al (.lst us) μ2).2 Q) (hD : H D = none) (hDt : D ∉ t) (e : Ex m H m2 H3)
    (M : Me K fa bs (D :: t) m2 H3 μ2) (hH : H3 D = some (.lst vs)) (ra : RpA K fa (D :: t) m2 m2.length H3 us vs) : Q (.ref D) H3 := by
  cases al with
  | false => exact k m2 H3 _ e (M.tw fun a ha => by simp [ha]) (.lst ⟨hH, (M.tt D (by simp)).1, hDt⟩ (ra.tw fun a ha => by simp [ha]))
  | true =>
    have ra' : RpA K fa t (m2 ++ [D]) (m2.length + 1) H3 us vs := ra.ad.ex (Ex.refl _ _) (by omega)
    exact k (m2 ++ [D]) H3 _ (e.adopt hD) (M.adopt hDt (.lst hH ra')) (.ob (by simp [← M.len]) (by simp [← M.len]))
theorem Kn.tmpK {m2 : List Addr} {H3 : Hp} {μ2 : Mu} {us : List U} {kvs : List (Key × V)} {al : Bool} {Q : VK} (k : Kn K fa bs t m H (fresh al (.dk (kvs.map (·.1)) us) μ2).1 (fresh al (.dk (kvs.map (·.1)) us) μ2).2 Q) (hD : H D = none) (hDt : D ∉ t) (e : Ex m H m2 H3)
    (M : Me K fa bs (D :: t) m2 H3 μ2) (hH : H3 D = some (.dK kvs)) (ra : RpA K fa (D :: t) m2 m2.length H3 us (kvs.map (·.2))) : Q (.ref D) H3 := by
  cases al with
  | false => exact k m2 H3 _ e (M.tw fun a ha => by simp [ha]) (.dK hH (M.tt D (by simp)).1 hDt (ra.tw fun a ha => by simp [ha]))
  | true =>
    have ra' : RpA K fa t (m2 ++ [D]) (m2.length + 1) H3 us (kvs.map (·.2)) := ra.ad.ex (Ex.refl _ _) (by omega)
    exact k (m2 ++ [D]) H3 _ (e.adopt hD) (M.adopt hDt (.dK hH ra')) (.ob (by simp [← M.len]) (by simp [← M.len]))
theorem EnvR.tn {σ : Env} {σV : L2.St} {o : HO} (h : EnvR K fa t m H σ σV) (hD : H D = none) : EnvR K fa (D :: t) m (L2.upd H D o) σ σV :=
  ⟨h.len, fun i u q => let ⟨v, a, b⟩ := h.at_ i u q; ⟨v, a, (b.tn hD).ex (Ex.upd hD) (Nat.le_refl _)⟩⟩
theorem EnvR.set {σ : Env} {σV : L2.St} {i : Nat} {u : U} {v : V} (h : EnvR K fa t m H σ σV) (r : Rp K fa t m m.length H u v) : EnvR K fa t m H (σ.set i (some u)) (σV.set i (some v)) := by
  refine ⟨by simp [h.len], fun j w q => ?_⟩
  by_cases hj : i = j
  · subst hj
    have hl : i < σ.length := by
      have := (List.getElem?_eq_some_iff.mp q).1
      simpa using this
    rw [List.getElem?_set_self hl] at q
    cases q
    exact ⟨v, by rw [List.getElem?_set_self (by rw [← h.len]; exact hl)], r⟩
  · rw [List.getElem?_set_ne hj] at q ⊢
    exact h.at_ j w q
theorem EnvR.setN {σ : Env} {σV : L2.St} {i : Nat} (h : EnvR K fa t m H σ σV) : EnvR K fa t m H (σ.set i none) (σV.set i none) := by
  refine ⟨by simp [h.len], fun j w q => ?_⟩
  by_cases hj : i = j
  · subst hj
    have hl : i < σ.length := by
      have := (List.getElem?_eq_some_iff.mp q).1
      simpa using this
    rw [List.getElem?_set_self hl] at q
    cases q
  · rw [List.getElem?_set_ne hj] at q ⊢
    exact h.at_ j w q
theorem EnvR.wipe {σ : Env} {σV : L2.St} (h : EnvR K fa t m H σ σV) : ∀ ws : List Nat, EnvR K fa t m H (wipeE σ ws) (L2.wipe σV ws)
  | [] => h
  | w :: ws => (EnvR.wipe h ws).setN
end

section
variable {X : Cx} {fa : Nat → Option Addr} {cal : Nat → List U → Mu → Option (U × Mu)} {n0 : Nat}
variable {a b c : E} {xa xb xc : Expr} {pos : Pos}
/-! ### slices -/
/-- a slice's part: left out, None or an int -/
def tPartU (te : TE) : TO := fun σ H Q => te σ H fun x H1 => ∃ o, (x = .non ∧ o = none ∨ ∃ i, x = .int i ∧ o = some i) ∧ Q o H1
theorem po_u {e : Expr} {te : TE} (h : PE X e te) : PO X (some e) (tPartU te) := by
  refine ⟨fun pins s σ H Q I hw => ?_⟩
  rw [evalPart_some]
  refine thn (h.run pins s σ H _ I hw) fun u s1 ⟨x, H1, I1, r1, o, hx, q⟩ => ?_
  rcases hx with ⟨rfl, rfl⟩ | ⟨i, rfl, rfl⟩
  · cases r1
    exact ⟨none, H1, I1, .none, q⟩
  · obtain ⟨t, rfl⟩ := r1
    exact ⟨some i, H1, I1, .int i t, q⟩
/-- a part in our language -/
def POv (X : Cx) (fa : Nat → Option Addr) (cal : Nat → List U → Mu → Option (U × Mu)) (n0 : Nat) (x : Option Expr) (e : E) : Prop :=
  PO X x (fun σV H Q => ∃ t bs m σ μ u μ' o, bs.length = n0 ∧ EnvR X.K fa t m H σ σV ∧ Me X.K fa bs t m H μ ∧ evalE cal n0 e σ μ = some (u, μ') ∧ bnd u = some o ∧ ∀ m' H', Ex m H m' H' → Me X.K fa bs t m' H' μ' → Q o H')
theorem PO.imp {e : Option Expr} {t t' : TO} (h : PO X e t) (hi : ∀ σ H Q, t' σ H Q → t σ H Q) : PO X e t' := ⟨fun pins s σ H Q I q => h.run pins s σ H Q I (hi _ _ _ q)⟩
theorem pov_none : POv X fa cal n0 none .non := PO.imp po_none fun σV H Q q => by
  obtain ⟨t, bs, m, σ, μ, u, μ', o, hb, he, M, ev, eb, k⟩ := q
  cases ev
  cases eb
  exact k m H (Ex.refl m H) M
theorem pov_some (h : PEv X fa cal n0 xa a) : POv X fa cal n0 (some xa) a := PO.imp (po_u h) fun σV H Q q => by
  obtain ⟨t, bs, m, σ, μ, u, μ', o, hb, he, M, ev, eb, k⟩ := q
  refine seq1 hb he M ev fun m1 H1 v1 x M1 r1 => ⟨o, ?_, k m1 H1 x M1⟩
  cases u with
  | non => cases r1; cases eb; exact .inl ⟨rfl, rfl⟩
  | int i => cases r1; cases eb; exact .inr ⟨i, rfl, rfl⟩
  | _ => cases eb
theorem e_slc {al : Bool} {lo hi : E} {xlo xhi : Option Expr} {p2 : Pos} (ha : PEv X fa cal n0 xa a) (hl : POv X fa cal n0 xlo lo) (hh : POv X fa cal n0 xhi hi) : PEv X fa cal n0 (.Subscript xa (.Slice xlo xhi none p2) pos) (.slc al a lo hi) :=
  (pe_slice (slR al) ha hl hh).imp fun σV H Q q => by
    obtain ⟨t, bs, m, σ, μ, u, μ', hb, he, M, ev, k⟩ := q
    simp only [evalE] at ev
    split at ev
    · rename_i u1 μ1 e1
      split at ev
      · rename_i u2 μ2 e2
        split at ev
        · rename_i u3 μ3 e3
          cases e4 : bnd u2 with
          | none => simp [evSlc, e4] at ev
          | some l =>
            cases e5 : bnd u3 with
            | none => simp [evSlc, e4, e5] at ev
            | some h =>
              refine seq1 hb he M e1 fun m1 H1 v1 x1 M1 r1 => ?_
              refine ⟨t, bs, m1, σ, μ1, u2, μ2, l, hb, he.ex x1, M1, e2, e4, fun m2 H2 x2 M2 => ?_⟩
              refine ⟨t, bs, m2, σ, μ2, u3, μ3, h, hb, (he.ex x1).ex x2, M2, e3, e5, fun m3 H3 x3 M3 => ?_⟩
              exact ⟨t, bs, m3, μ3, u1, u2, u3, u, μ', M3, (r1.ex' x2).ex' x3, e4, e5, ev, k.ex (x1.trans (x2.trans x3))⟩
        · cases ev
      · cases ev
    · cases ev
/-- xs[::-1] of a list, of a tuple -/
theorem e_revL {al : Bool} {j} {p1 p2 p3 : Pos} (ha : PEv X fa cal n0 xa a) : PEv X fa cal n0 (.Subscript xa (.Slice none none (some (.UnaryOp .USub (.Constant (.int 1) j p1) p2)) p3) pos) (.rev al a) :=
  (pe_revA ha).imp fun σV H Q q => by
    obtain ⟨t, bs, m, σ, μ, u, μ', hb, he, M, ev, k⟩ := q
    simp only [evalE] at ev
    split at ev
    · rename_i u1 μ1 e1
      refine seq1 hb he M e1 fun m1 H1 v1 x1 M1 r1 => ?_
      unfold evRev at ev
      split at ev
      · obtain ⟨rfl, rfl⟩ := Prod.mk.inj (Option.some.inj ev)
        cases r1 with
        | tup f ra => exact ⟨_, _, rfl, .inr ⟨f.sq, fun q hq => (k.ex x1).tup M1 hq ra.rev⟩⟩
      · split at ev
        · rename_i xs e2
          obtain ⟨rfl, rfl⟩ := Prod.mk.inj (Option.some.inj ev)
          obtain ⟨p, vs, rfl, hH, ra⟩ := asL_at M1 r1 e2
          exact ⟨p, vs, rfl, .inl ⟨SqL.of hH, fun q hq => (k.ex x1).lst M1 hq ra.rev⟩⟩
        · cases ev
    · cases ev
/-! ### and, or -/
def bop : Bool → BoolOp
  | true => .And
  | false => .Or
abbrev PBv (X : Cx) (fa : Nat → Option Addr) (cal : Nat → List U → Mu → Option (U × Mu)) (n0 : Nat) (x : Expr) (and : Bool) (es : List E) : Prop := PE X x (tE X.K fa n0 (evalB cal n0 and es))
abbrev PBw (X : Cx) (fa : Nat → Option Addr) (cal : Nat → List U → Mu → Option (U × Mu)) (n0 : Nat) (x : Expr) (and : Bool) (es : List E) : Prop := PW X x (tT X.K fa n0 (evalB cal n0 and es))
theorem b_one {and : Bool} (ha : PEv X fa cal n0 xa a) : PBv X fa cal n0 (.BoolOp (bop and) [xa] pos) and [a] := (pe_one ha).imp fun σV H Q q => by simpa only [evalB] using q
theorem b_cons {and : Bool} {e2 : E} {es : List E} {xs : List Expr} (ha : PEv X fa cal n0 xa a) (hr : PBv X fa cal n0 (.BoolOp (bop and) (xb :: xs) pos) and (e2 :: es)) : PBv X fa cal n0 (.BoolOp (bop and) (xa :: xb :: xs) pos) and (a :: e2 :: es) := by
  have rd : ∀ {σV : L2.St} {H : Hp} {Q : VK}, tE X.K fa n0 (evalB cal n0 and (a :: e2 :: es)) σV H Q → tE X.K fa n0 (evalE cal n0 a) σV H fun x H1 => ∃ k, TruV X.K x H1 k ∧ if k = and then tE X.K fa n0 (evalB cal n0 and (e2 :: es)) σV H1 Q else Q x H1 := by
    intro σV H Q q
    obtain ⟨t, bs, m, σ, μ, u, μ', hb, he, M, ev, k⟩ := q
    simp only [evalB] at ev
    split at ev
    · rename_i u1 μ1 e1
      split at ev
      · rename_i d e3
        refine seq1 hb he M e1 fun m1 H1 v1 x1 M1 r1 => ⟨d, truV_ok M1 r1 e3, ?_⟩
        by_cases hd : d = and
        · rw [if_pos hd] at ev ⊢
          exact ⟨t, bs, m1, σ, μ1, u, μ', hb, he.ex x1, M1, ev, k.ex x1⟩
        · rw [if_neg hd] at ev ⊢
          cases ev
          exact k m1 H1 v1 x1 M1 r1
      · cases ev
    · cases ev
  cases and with
  | true =>
    refine (pe_andT ha hr).imp fun σV H Q q => ?_
    exact rd q
  | false =>
    refine (pe_orT ha hr).imp fun σV H Q q => ?_
    obtain ⟨t, bs, m, σ, μ, u, μ', hb, he, M, ev, k⟩ := rd q
    refine ⟨t, bs, m, σ, μ, u, μ', hb, he, M, ev, fun m1 H1 v x1 M1 r1 => ?_⟩
    obtain ⟨d, td, z⟩ := k m1 H1 v x1 M1 r1
    refine ⟨d, td, ?_⟩
    cases d with
    | true => simpa using z
    | false => simpa using z
theorem w_one {and : Bool} (ha : PTv X fa cal n0 xa a) : PBw X fa cal n0 (.BoolOp (bop and) [xa] pos) and [a] := by
  cases and with
  | true => exact (pw_and1 ha).imp fun σV H Q q => by simpa only [evalB] using q
  | false => exact (pw_or1 ha).imp fun σV H Q q => by simpa only [evalB] using q
theorem w_cons {and : Bool} {e2 : E} {es : List E} {xs : List Expr} (ha : PTv X fa cal n0 xa a) (hr : PBw X fa cal n0 (.BoolOp (bop and) (xb :: xs) pos) and (e2 :: es)) : PBw X fa cal n0 (.BoolOp (bop and) (xa :: xb :: xs) pos) and (a :: e2 :: es) := by
  have rd : ∀ {σV : L2.St} {H : Hp} {Q : Bool → Hp → Prop}, tT X.K fa n0 (evalB cal n0 and (a :: e2 :: es)) σV H Q → tT X.K fa n0 (evalE cal n0 a) σV H fun k H1 => if k = and then tT X.K fa n0 (evalB cal n0 and (e2 :: es)) σV H1 Q else Q k H1 := by
    intro σV H Q q
    obtain ⟨t, bs, m, σ, μ, u, μ', w, hb, he, M, ev, tr, k⟩ := q
    simp only [evalB] at ev
    split at ev
    · rename_i u1 μ1 e1
      split at ev
      · rename_i d e3
        refine ⟨t, bs, m, σ, μ, u1, μ1, d, hb, he, M, e1, e3, fun m1 H1 x1 M1 => ?_⟩
        by_cases hd : d = and
        · rw [if_pos hd] at ev
          simp only [hd, if_true]
          exact ⟨t, bs, m1, σ, μ1, u, μ', w, hb, he.ex x1, M1, ev, tr, fun m2 H2 x2 M2 => k m2 H2 (x1.trans x2) M2⟩
        · rw [if_neg hd] at ev
          simp only [hd, if_false]
          cases ev
          rw [e3] at tr
          cases tr
          exact k m1 H1 x1 M1
      · cases ev
    · cases ev
  cases and with
  | true =>
    refine (pw_and ha hr).imp fun σV H Q q => ?_
    obtain ⟨t, bs, m, σ, μ, u, μ', w, hb, he, M, ev, tr, k⟩ := rd q
    refine ⟨t, bs, m, σ, μ, u, μ', w, hb, he, M, ev, tr, fun m1 H1 x1 M1 => ?_⟩
    have z := k m1 H1 x1 M1
    cases w with
    | true => simpa using z
    | false => simpa using z
  | false =>
    refine (pw_or ha hr).imp fun σV H Q q => ?_
    obtain ⟨t, bs, m, σ, μ, u, μ', w, hb, he, M, ev, tr, k⟩ := rd q
    refine ⟨t, bs, m, σ, μ, u, μ', w, hb, he, M, ev, tr, fun m1 H1 x1 M1 => ?_⟩
    have z := k m1 H1 x1 M1
    cases w with
    | true => simpa using z
    | false => simpa using z
theorem e_bool {and : Bool} {es : List E} {x : Expr} (h : PBv X fa cal n0 x and es) : PEv X fa cal n0 x (.bool and es) := h.imp fun σV H Q q => by simpa only [evalE] using q
theorem t_bool {and : Bool} {es : List E} {x : Expr} (h : PBw X fa cal n0 x and es) : PTv X fa cal n0 x (.bool and es) := h.pt.imp fun σV H Q q => by simpa only [evalE] using q
end
end R

set_option Elab.async false
set_option linter.all false
set_option maxRecDepth 100000
set_option maxHeartbeats 4000000
/-! R3g: dict stores and displays, builtins, isinstance, methods -/
namespace R
open PySem PySem.Spec PyProof.Rows L2

section
variable {K : PySem.W.Frag} {fa : Nat → Option Addr} {t m m' : List Addr} {n n' : Nat} {H H' : Hp} {bs : List Nat} {μ : Mu} {D : Addr}
theorem putK_keys {κ : Type} [DecidableEq κ] (kvs : List (κ × V)) (k : κ) (v : V) : (putK kvs k v).map (·.1) = ptk (kvs.map (·.1)) k := by
  unfold putK ptk
  have e : (kvs.any fun kv => decide (kv.1 = k)) = true ↔ k ∈ kvs.map (·.1) := by
    simp only [List.any_eq_true, decide_eq_true_eq, List.mem_map]
  by_cases h : k ∈ kvs.map (·.1)
  · rw [if_pos (e.mpr h), if_pos h, List.map_map]
    refine List.map_congr_left fun kv _ => ?_
    simp only [Function.comp]
    split <;> rfl
  · rw [if_neg (fun z => h (e.mp z)), if_neg h]
    simp
theorem rpl_ok {κ : Type} [DecidableEq κ] {u : U} {v : V} {q : κ} (hu : Rp K fa t m n H u v) : ∀ {kvs : List (κ × V)} {us : List U}, RpA K fa t m n H us (kvs.map (·.2)) →
    RpA K fa t m n H (rpl (kvs.map (·.1)) us q u) ((kvs.map fun kv => if kv.1 = q then (kv.1, v) else kv).map (·.2))
  | [], _, .nil => .nil
  | kv :: kvs, _, .cons r ra => by
    simp only [List.map_cons, rpl]
    refine .cons ?_ (rpl_ok hu ra)
    by_cases h : kv.1 = q
    · simp only [h, if_true]; exact hu
    · simp only [h, if_false]; exact r
theorem putK_ok {κ : Type} [DecidableEq κ] {u : U} {v : V} {q : κ} (hu : Rp K fa t m n H u v) {kvs : List (κ × V)} {us : List U} (ra : RpA K fa t m n H us (kvs.map (·.2))) :
    RpA K fa t m n H (pt (kvs.map (·.1)) us q u) ((putK kvs q v).map (·.2)) := by
  unfold putK pt
  have e : (kvs.any fun kv => decide (kv.1 = q)) = true ↔ q ∈ kvs.map (·.1) := by
    simp only [List.any_eq_true, decide_eq_true_eq, List.mem_map]
  by_cases h : q ∈ kvs.map (·.1)
  · rw [if_pos (e.mpr h), if_pos h]
    exact rpl_ok hu ra
  · rw [if_neg (fun z => h (e.mp z)), if_neg h]
    rw [List.map_append]
    exact ra.append (.one hu)
theorem okw_rp {n0 i : Nat} {u : U} {v : V} (hb : bs.length = n0) (h : okw n0 i u = true) (r : Rp K fa t m m.length H u v) : Rp K fa t m (bs[i]?.getD m.length) H u v := by
  unfold okw at h
  simp only [Bool.or_eq_true, decide_eq_true_eq] at h
  rcases h with h | h
  · rw [List.getElem?_eq_none_iff.mpr (by omega)]
    exact r
  · exact r.nomut h
/-- the pairs of a display -/
inductive RpP (K : PySem.W.Frag) (fa : Nat → Option Addr) (t m : List Addr) (n : Nat) (H : Hp) : List (U × U) → List (V × V) → Prop
  | nil : RpP K fa t m n H [] []
  | cons {p : U × U} {q : V × V} {ps : List (U × U)} {qs : List (V × V)} : Rp K fa t m n H p.1 q.1 → Rp K fa t m n H p.2 q.2 → RpP K fa t m n H ps qs → RpP K fa t m n H (p :: ps) (q :: qs)
theorem RpP.ex (e : Ex m H m' H') (hn : n ≤ n') : ∀ {ps : List (U × U)} {qs : List (V × V)}, RpP K fa t m n H ps qs → RpP K fa t m' n' H' ps qs
  | _, _, .nil => .nil
  | _, _, .cons a b r => .cons (a.ex e hn) (b.ex e hn) (RpP.ex e hn r)
theorem RpP.td {o : HO} (hD : D ∈ t) : ∀ {ps : List (U × U)} {qs : List (V × V)}, RpP K fa t m n H ps qs → RpP K fa t m n (L2.upd H D o) ps qs
  | _, _, .nil => .nil
  | _, _, .cons a b r => .cons (a.td hD) (b.td hD) (RpP.td hD r)
/-- merging pairs with plain keys -/
theorem mergeU_k {tk : Bool} : ∀ {ps : List (U × U)} {qs : List (V × V)} {kvs0 : List (Key × V)} {us : List U} {o : U}, RpP K fa t m n H ps qs → RpA K fa t m n H us (kvs0.map (·.2)) → mergeU tk ps (.dk (kvs0.map (·.1)) us) = some o →
    ∃ (kvs : List (Key × V)) (us' : List U), qs = kvs.map (fun kv => (kV kv.1, kv.2)) ∧ o = .dk ((mergeK kvs0 kvs).map (·.1)) us' ∧ RpA K fa t m n H us' ((mergeK kvs0 kvs).map (·.2))
  | _, _, kvs0, us, o, .nil, ra, h => by
    simp only [mergeU] at h
    cases h
    exact ⟨[], us, rfl, rfl, ra⟩
  | _, _, kvs0, us, o, .cons (p := p) (q := q) a b r, ra, h => by
    simp only [mergeU] at h
    split at h
    · rename_i o' e
      simp only [dput] at e
      split at e
      · rename_i k hk
        split at e
        · cases e
          have ek := sky_ok a hk
          rw [← putK_keys _ _ q.2] at h
          obtain ⟨kvs, us', e1, e2, e3⟩ := mergeU_k r (putK_ok b ra) h
          exact ⟨(k, q.2) :: kvs, us', by rw [e1, List.map_cons, ← ek], e2, e3⟩
        · cases e
      · cases e
    · cases h
/-- merging pairs with tuples for keys -/
def mergeT (kvs0 : List (List Key × V)) (ts : List (List Key × Addr × V)) : List (List Key × V) := ts.foldl (fun acc x => putK acc x.1 x.2.2) kvs0
theorem mergeU_t {tk : Bool} : ∀ {ps : List (U × U)} {qs : List (V × V)} {kvs0 : List (List Key × V)} {us : List U} {o : U}, RpP K fa t m n H ps qs → RpA K fa t m n H us (kvs0.map (·.2)) → mergeU tk ps (.dt (kvs0.map (·.1)) us) = some o →
    ∃ (ts : List (List Key × Addr × V)) (us' : List U), qs = ts.map (fun x => (V.ref x.2.1, x.2.2)) ∧ (∀ x ∈ ts, H x.2.1 = some (.tup (x.1.map kV))) ∧ o = .dt ((mergeT kvs0 ts).map (·.1)) us' ∧ RpA K fa t m n H us' ((mergeT kvs0 ts).map (·.2))
  | _, _, kvs0, us, o, .nil, ra, h => by
    simp only [mergeU] at h
    cases h
    exact ⟨[], us, rfl, (fun x z => nomatch z), rfl, ra⟩
  | _, _, kvs0, us, o, .cons (p := p) (q := q) a b r, ra, h => by
    simp only [mergeU] at h
    split at h
    · rename_i o' e
      simp only [dput] at e
      split at e
      · rename_i k hk
        split at e
        · cases e
          obtain ⟨c, ec, hc⟩ := tky_ok a hk
          rw [← putK_keys _ _ q.2] at h
          obtain ⟨ts, us', e1, e2, e3, e4⟩ := mergeU_t r (putK_ok b ra) h
          refine ⟨(k, c, q.2) :: ts, us', by rw [e1, List.map_cons, ← ec], fun x z => ?_, e3, e4⟩
          rcases List.mem_cons.mp z with z | z
          · rw [z]; exact hc
          · exact e2 x z
        · cases e
      · cases e
    · cases h
theorem pairUp_cons {es : List U} {k v : U} {ps : List (U × U)} (h : pairUp (k :: v :: es) = some ps) : ∃ qs, pairUp es = some qs ∧ ps = (k, v) :: qs := by
  simp only [pairUp] at h
  split at h
  · rename_i qs e
    cases h
    exact ⟨qs, e, rfl⟩
  · cases h
end

section
variable {X : Cx} {fa : Nat → Option Addr} {cal : Nat → List U → Mu → Option (U × Mu)} {n0 : Nat}
variable {a b c : E} {xa xb xc : Expr} {pos : Pos}
/-! ### displays of dicts -/
def trsOf (X : Cx) (fa : Nat → Option Addr) (cal : Nat → List U → Mu → Option (U × Mu)) (n0 : Nat) : List E → List (TE × TE)
  | k :: v :: es => (tE X.K fa n0 (evalE cal n0 k), tE X.K fa n0 (evalE cal n0 v)) :: trsOf X fa cal n0 es
  | _ => []
theorem pairs_rd {R : List (V × V) → Hp → Prop} : ∀ (es : List E) (ps : List (U × U)) {t m : List Addr} {bs : List Nat} {σ : Env} {σV : L2.St} {H : Hp} {μ μ' : Mu} {us : List U}, bs.length = n0 → EnvR X.K fa t m H σ σV → Me X.K fa bs t m H μ →
    evalL cal n0 es σ μ = some (us, μ') → pairUp us = some ps → (∀ m' H' qs, Ex m H m' H' → Me X.K fa bs t m' H' μ' → RpP X.K fa t m' m'.length H' ps qs → R qs H') → tPairs (trsOf X fa cal n0 es) σV H R
  | [], ps, t, m, bs, σ, σV, H, μ, μ', us, hb, he, M, ev, ep, k => by
    simp only [evalL] at ev
    cases ev
    cases ep
    exact k m H [] (Ex.refl m H) M .nil
  | [e], ps, t, m, bs, σ, σV, H, μ, μ', us, hb, he, M, ev, ep, k => by
    simp only [evalL] at ev
    split at ev
    · cases ev
      cases ep
    · cases ev
  | e :: f :: es, ps, t, m, bs, σ, σV, H, μ, μ', us, hb, he, M, ev, ep, k => by
    simp only [evalL] at ev
    split at ev
    · rename_i u1 μ1 e1
      split at ev
      · rename_i us2 μ2 e2
        split at e2
        · rename_i u2 μ3 e3
          split at e2
          · rename_i us3 μ4 e4
            cases e2
            cases ev
            obtain ⟨qs, ep', rfl⟩ := pairUp_cons ep
            refine seq2 hb he M e1 e3 fun m2 H2 v1 v2 x M2 r1 r2 => ?_
            exact pairs_rd es qs hb (he.ex x) M2 e4 ep' fun m' H' pq x' M' rp => k m' H' _ (x.trans x') M' (.cons (r1.ex' x') (r2.ex' x') rp)
          · cases e2
        · cases e2
      · cases ev
    · cases ev
/-- keys and values of a display, flat -/
def flatE : List (Option Expr) → List Expr → Option (List Expr)
  | some k :: ks, v :: vs => match flatE ks vs with
    | some r => some (k :: v :: r)
    | none => none
  | [], [] => some []
  | _, _ => none
theorem flat_ok : ∀ {keys : List (Option Expr)} {vals : List Expr} {es : List E} {r : List Expr}, flatE keys vals = some r → (∀ (i : Nat) x e, r[i]? = some x → es[i]? = some e → PEv X fa cal n0 x e) → r.length = es.length →
    PPs X pos keys vals (trsOf X fa cal n0 es) ∧ keys.all (·.isSome) = true ∧ keys.length = vals.length
  | [], [], es, r, h, hp, hl => by
    cases h
    cases es with
    | nil => exact ⟨pps_nil, rfl, rfl⟩
    | cons => simp at hl
  | some k :: ks, v :: vs, es, r, h, hp, hl => by
    simp only [flatE] at h
    split at h
    · rename_i r' e
      cases h
      match es, hl, hp with
      | e1 :: e2 :: es, hl, hp =>
        obtain ⟨h1, h2, h3⟩ := flat_ok (es := es) e (fun i x f a b => hp (i + 2) x f (by simpa using a) (by simpa using b)) (by simpa using hl)
        exact ⟨pps_cons (hp 0 k e1 rfl rfl) (hp 1 v e2 rfl rfl) h1, by simpa using h2, by simp [h3]⟩
    · cases h
  | [], _ :: _, _, _, h, _, _ => by cases h
  | none :: _, _, _, _, h, _, _ => by simp [flatE] at h
  | some _ :: _, [], _, _, h, _, _ => by simp [flatE] at h
theorem e_dct {al : Bool} {es : List E} {keys : List (Option Expr)} {vals : List Expr} {r : List Expr} (h : flatE keys vals = some r) (hp : ∀ (i : Nat) x e, r[i]? = some x → es[i]? = some e → PEv X fa cal n0 x e) (hl : r.length = es.length) (h0 : keys ≠ []) (h15 : keys.length ≤ 15) :
    PEv X fa cal n0 (.Dict keys vals pos) (.dct al false es) := by
  obtain ⟨h1, h2, h3⟩ := flat_ok (pos := pos) h hp hl
  refine (pe_disp h1 h2 h3 h0 h15).imp fun σV H Q q => ?_
  obtain ⟨t, bs, m, σ, μ, u, μ', hb, he, M, ev, k⟩ := q
  simp only [evalE] at ev
  split at ev
  · rename_i us μ1 e1
    split at ev
    · rename_i ps e2
      split at ev
      · rename_i h15
        split at ev
        · rename_i o e3
          obtain ⟨rfl, rfl⟩ := Prod.mk.inj (Option.some.inj ev)
          intro p hp
          obtain ⟨pm, pt'⟩ := M.fresh hp
          refine pairs_rd es ps (t := p :: t) (bs := bs) hb (he.tn hp) (M.tn hp) e1 e2 fun m2 H2 qs x M2 rp => ?_
          have hp2 : H2 p = some (.dK []) := x.keep p _ upd_same pm
          have e3' : mergeU false ps (.dk (([] : List (Key × V)).map (·.1)) []) = some o := by simpa using e3
          obtain ⟨kvs, us', rfl, rfl, ra⟩ := mergeU_k (kvs0 := []) rp .nil e3'
          refine ⟨hp2, kvs, rfl, ?_, ?_⟩
          · have : ps.length = kvs.length := by
              have : ∀ {ps : List (U × U)} {qs : List (V × V)}, RpP X.K fa (p :: t) m2 m2.length H2 ps qs → ps.length = qs.length := by
                intro ps qs r
                induction r with
                | nil => rfl
                | cons _ _ _ ih => simp [ih]
              have := this rp
              simpa using this
            omega
          · have x0 : Ex m H m2 (upd H2 p (.dK (mergeK [] kvs))) := ((Ex.upd hp).trans x).tmp hp
            exact k.tmpK hp pt' x0 (M2.td (by simp)) upd_same (ra.td (by simp))
        · cases ev
      · cases ev
    · cases ev
  · cases ev
theorem e_dnew {al tk : Bool} : PEv X fa cal n0 (.Dict [] [] pos) (.dct al tk []) := by
  cases tk with
  | false =>
    refine pe_dnewK.imp fun σV H Q q => ?_
    obtain ⟨t, bs, m, σ, μ, u, μ', hb, he, M, ev, k⟩ := q
    simp only [evalE, evalL, pairUp, mergeU] at ev
    rw [if_pos (by decide)] at ev
    obtain ⟨rfl, rfl⟩ := Prod.mk.inj (Option.some.inj ev)
    intro p hp
    exact k.dk (kvs := []) M hp .nil
  | true =>
    refine pe_dnewT.imp fun σV H Q q => ?_
    obtain ⟨t, bs, m, σ, μ, u, μ', hb, he, M, ev, k⟩ := q
    simp only [evalE, evalL, pairUp, mergeU] at ev
    rw [if_pos (by decide)] at ev
    obtain ⟨rfl, rfl⟩ := Prod.mk.inj (Option.some.inj ev)
    intro p hp
    exact k.dt (kvs := []) M hp .nil

/-! ### builtin functions -/
theorem vs_rd {f : Mu → List U → Option (U × Mu)} {ev : Ev} {es : List E} {σV : L2.St} {H : Hp} {Q : VK} (he : ∀ σ μ u μ', ev σ μ = some (u, μ') → ∃ us μ1, evalL cal n0 es σ μ = some (us, μ1) ∧ f μ1 us = some (u, μ'))
    (q : tE X.K fa n0 ev σV H Q) : tL X.K fa n0 (evalL cal n0 es) σV H fun vs H1 => rVs X.K fa f vs H1 Q := by
  obtain ⟨t, bs, m, σ, μ, u, μ', hb, hE, M, e, k⟩ := q
  obtain ⟨us, μ1, e1, e2⟩ := he _ _ _ _ e
  exact ⟨t, bs, m, σ, μ, us, μ1, hb, hE, M, e1, fun m1 H1 vs x1 M1 ra => ⟨t, bs, m1, μ1, us, u, μ', M1, ra, e2, k.ex x1⟩⟩
theorem bi_ev {b : Bi} {es : List E} {σ : Env} {μ μ' : Mu} {u : U} (h : evalE cal n0 (.bi b es) σ μ = some (u, μ')) : ∃ us μ1, evalL cal n0 es σ μ = some (us, μ1) ∧ biF b μ1 us = some (u, μ') := by
  simp only [evalE] at h
  split at h
  · rename_i us μ1 e1
    exact ⟨us, μ1, e1, h⟩
  · cases h
/-- what a builtin function is -/
def Bi.val : Bi → Value
  | .int => .type "int"
  | .len => .builtin "len" | .abs => .builtin "abs" | .all => .builtin "all" | .any => .builtin "any" | .sum => .builtin "sum" | .min1 => .builtin "min" | .max1 => .builtin "max" | .min2 => .builtin "min" | .max2 => .builtin "max"
theorem Bi.boot (b : Bi) : bootBuiltins b.nm = some b.val := by cases b <;> decide +kernel
theorem Bi.main (b : Bi) : b.nm ≠ "__name__" := by cases b <;> decide +kernel
theorem Bi.dbg (b : Bi) : (b.nm == ("__debug__" : Str)) = false := by cases b <;> decide +kernel
theorem biR (hc : X.calm = true) (hu : X.A.units + 66 < cLine) : ∀ b : Bi, (b = .int ∧ CallR X (.type "int") (rVs X.K fa (biF b))) ∨ ∃ id, b.val = .builtin id ∧ CallR X (.builtin id) (rVs X.K fa (biF b))
  | .int => .inl ⟨rfl, intR⟩
  | .len => .inr ⟨_, rfl, lenR⟩
  | .abs => .inr ⟨_, rfl, absR⟩
  | .all => .inr ⟨_, rfl, allR hc⟩
  | .any => .inr ⟨_, rfl, anyR hc⟩
  | .sum => .inr ⟨_, rfl, sumR hc⟩
  | .min1 => .inr ⟨_, rfl, min1R hc hu⟩
  | .max1 => .inr ⟨_, rfl, max1R hc hu⟩
  | .min2 => .inr ⟨_, rfl, min2R hc⟩
  | .max2 => .inr ⟨_, rfl, max2R hc⟩
theorem e_bi {b : Bi} {es : List E} {x : Expr} {xs : List Expr} {p : Pos} (hc : X.calm = true) (hu : X.A.units + 66 < cLine) (hg : Gl X b.nm) (hm : X.mg b.nm = none) (ha : PAv X fa cal n0 (x :: xs) es) (hk : okh x = true) (hks : xs.all okh = true) :
    PEv X fa cal n0 (.Call (.Name b.nm p) (x :: xs) [] pos) (.bi b es) := by
  rcases biR (fa := fa) hc hu b with ⟨rfl, h⟩ | ⟨id, e, h⟩
  · exact (pe_callTy h hg hm boot_int ha (Bi.main _) (Bi.dbg _) (okh_star hk) (okh_back hks)).imp fun σV H Q q => vs_rd (fun _ _ _ _ => bi_ev) q
  · exact (pe_callB h hg hm (by rw [Bi.boot, e]) ha (Bi.main _) (Bi.dbg _) (okh_star hk) (okh_back hks)).imp fun σV H Q q => vs_rd (fun _ _ _ _ => bi_ev) q

/-! ### isinstance -/
def Ty.nm : Ty → String
  | .int => "int" | .bool => "bool" | .str => "str" | .tuple => "tuple" | .list => "list" | .dict => "dict"
def Ty.st : Ty → Str
  | .int => "int" | .bool => "bool" | .str => "str" | .tuple => "tuple" | .list => "list" | .dict => "dict"
theorem Ty.boot (t : Ty) : bootBuiltins t.st = some (.type t.nm) := by cases t <;> decide +kernel
theorem Ty.main (t : Ty) : t.st ≠ "__name__" := by cases t <;> decide +kernel
theorem Ty.dbg (t : Ty) : (t.st == ("__debug__" : Str)) = false := by cases t <;> decide +kernel
theorem isi_ok {K : PySem.W.Frag} {t m : List Addr} {H : Hp} {bs : List Nat} {μ : Mu} {u : U} {v : V} {b : Bool} {ty : Ty} (M : Me K fa bs t m H μ) (r : Rp K fa t m m.length H u v) (h : evIsi μ u ty = some b) :
    ∃ T : String, TyX K H v (.type T) ∧ PySem.W.kitOne K (.type T) (.type ty.nm) = some b := by
  have kk : ∀ {T : String} {b : Bool}, kitB T ty.nm = some b → PySem.W.kitOne K (.type T) (.type ty.nm) = some b := fun h => kit_ty h
  simp only [evIsi] at h
  split at h
  · rename_i hc
    cases u with
    | ob i => rcases ob_not M r hc with ⟨_, e⟩ | ⟨_, _, e⟩ | ⟨_, _, e⟩ <;> cases e
    | non => cases r; cases h; exact ⟨_, .base .non, kk (by cases ty <;> decide +kernel)⟩
    | _ => simp [cont] at hc
  · rename_i x hc
    cases u with
    | ob i => rcases ob_not M r hc with ⟨_, e⟩ | ⟨_, _, e⟩ | ⟨_, _, e⟩ <;> cases e
    | bl y => cases r; cases h; exact ⟨_, .base (.bl _), kk (by cases ty <;> decide +kernel)⟩
    | _ => simp [cont] at hc
  · rename_i x hc
    cases u with
    | ob i => rcases ob_not M r hc with ⟨_, e⟩ | ⟨_, _, e⟩ | ⟨_, _, e⟩ <;> cases e
    | int y => cases r; cases h; exact ⟨_, .base (.int _), kk (by cases ty <;> decide +kernel)⟩
    | _ => simp [cont] at hc
  · rename_i x hc
    have e := cont_str M r hc
    subst e
    cases r; cases h; exact ⟨_, .base (.str _), kk (by cases ty <;> decide +kernel)⟩
  · rename_i x hc
    have e := cont_tup M r hc
    subst e
    cases h
    cases r with
    | tup f _ => exact ⟨_, .base (.tup f.1), kk (by cases ty <;> decide +kernel)⟩
  · rename_i x hc
    obtain ⟨p, vs, rfl, hH, _⟩ := cont_lst M r hc
    cases h; exact ⟨_, .base (.lst hH), kk (by cases ty <;> decide +kernel)⟩
  · rename_i x y hc
    obtain ⟨p, vs, rfl, hH, _⟩ := dk_at M r hc
    cases h; exact ⟨_, .base (.dK hH), kk (by cases ty <;> decide +kernel)⟩
  · rename_i x y hc
    obtain ⟨p, vs, rfl, hH, _⟩ := dt_at M r hc
    cases h; exact ⟨_, .base (.dT hH), kk (by cases ty <;> decide +kernel)⟩
  · cases h
theorem e_isi {ty : Ty} {p p2 : Pos} (hg : Gl X "isinstance") (hm : X.mg "isinstance" = none) (hg2 : Gl X ty.st) (hm2 : X.mg ty.st = none) (ha : PEv X fa cal n0 xa a) (hk : okh xa = true) :
    PEv X fa cal n0 (.Call (.Name "isinstance" p) [xa, .Name ty.st p2] [] pos) (.isi a ty) := by
  have hcls : PE X (.Name ty.st p2) (tC (.ty ty.nm)) := pe_bltn hg2 hm2 ty.boot rfl ty.main ty.dbg
  have h := pe_callB (p := p) (pos := pos) (call_isi (X := X)) hg hm boot_isinstance (pa_cons ha (pa_cons hcls pa_nil (okh_star rfl)) (okh_star hk)) (by decide) (by decide) (okh_star hk) (okh_back (es := [.Name ty.st p2]) rfl)
  refine h.imp fun σV H Q q => ?_
  obtain ⟨t, bs, m, σ, μ, u, μ', hb, hE, M, ev, k⟩ := q
  simp only [evalE] at ev
  split at ev
  · rename_i u1 μ1 e1
    split at ev
    · rename_i d e2
      cases ev
      refine seq1 hb hE M e1 fun m1 H1 v1 x1 M1 r1 => ?_
      obtain ⟨T, ht, hk'⟩ := isi_ok M1 r1 e2
      exact ⟨v1, .ty ty.nm, .type T, .type ty.nm, d, rfl, .ty _, ht, hk', k m1 H1 _ x1 M1 (.bl _)⟩
    · cases ev
  · cases ev

/-! ### methods -/
def rMe (K : PySem.W.Frag) (fa : Nat → Option Addr) (n0 : Nat) (al : Bool) (me : Mt) : V → List V → Hp → VK → Prop := fun x vs H Q => ∃ t bs m μ u us w μ', bs.length = n0 ∧ Me K fa bs t m H μ ∧ Rp K fa t m m.length H u x ∧ RpA K fa t m m.length H us vs ∧ evMe n0 al μ me u us = some (w, μ') ∧ Kn K fa bs t m H w μ' Q
def Mt.T : Mt → String
  | .get2 => "dict"
  | _ => "list"
theorem okm_ty {K : PySem.W.Frag} {t m : List Addr} {H : Hp} {bs : List Nat} {μ : Mu} {u : U} {v : V} {me : Mt} (M : Me K fa bs t m H μ) (r : Rp K fa t m m.length H u v) (h : okm μ me u = true) : tyV K me.T v H := by
  have L : (asL μ u).isSome = true → tyV K "list" v H := fun z => by
    obtain ⟨xs, e⟩ := Option.isSome_iff_exists.mp z
    obtain ⟨p, vs, rfl, q, _⟩ := asL_ok M r e
    exact .inl ⟨rfl, vs, q⟩
  cases me with
  | get2 =>
    simp only [okm] at h
    split at h
    · rename_i e
      obtain ⟨p, kvs, rfl, hH, _⟩ := dk_at M r e
      exact .inr (.inr (.inl ⟨rfl, .inl ⟨_, hH⟩⟩))
    · rename_i e
      obtain ⟨p, kvs, rfl, hH, _⟩ := dt_at M r e
      exact .inr (.inr (.inl ⟨rfl, .inr ⟨_, hH⟩⟩))
    · cases h
  | _ => exact L h
theorem me_rd {al : Bool} {me : Mt} {es : List E} {σV : L2.St} {H : Hp} {Q : VK} (q : tE X.K fa n0 (evalE cal n0 (.me al me a es)) σV H Q) : tBM X.K me.T (rMe X.K fa n0 al me) (tE X.K fa n0 (evalE cal n0 a)) (tL X.K fa n0 (evalL cal n0 es)) σV H Q := by
  obtain ⟨t, bs, m, σ, μ, u, μ', hb, he, M, ev, k⟩ := q
  simp only [evalE] at ev
  split at ev
  · rename_i u1 μ1 e1
    split at ev
    · rename_i e2
      split at ev
      · rename_i us μ2 e3
        refine seq1 hb he M e1 fun m1 H1 v1 x1 M1 r1 => ⟨okm_ty M1 r1 e2, ?_⟩
        exact ⟨t, bs, m1, σ, μ1, us, μ2, hb, he.ex x1, M1, e3, fun m2 H2 vs x2 M2 ra => ⟨t, bs, m2, μ2, u1, us, u, μ', hb, M2, r1.ex' x2, ra, ev, k.ex (x1.trans x2)⟩⟩
      · cases ev
    · cases ev
  · cases ev
theorem mtAppend {al : Bool} : MtR X "list.append" (rMe X.K fa n0 al .append) := by
  intro pins s σ H x vs v us Q I rx rv h
  obtain ⟨t, bs, m, μ, u, ws, w, μ', hb, M, r, ra, ev, k⟩ := h
  simp only [evMe] at ev
  match u, ws, ev, r, ra with
  | .ob i, [y], ev, r, ra =>
    simp only at ev
    split at ev
    · rename_i xs e
      split at ev
      · rename_i hz
        cases ev
        obtain ⟨p, rfl, hp, c⟩ := M.obj r e
        obtain ⟨z, rfl, rz⟩ := rpa1 ra
        have hl := sz_line
        generalize hn : bs[i]?.getD m.length = nn at c
        cases c with
        | @lst vx _ hH rl =>
          refine mt_append pins s σ H _ _ v us Q I rx rv ⟨p, _, z, rfl, rfl, hH, by rw [← rl.length]; omega, ?_⟩
          have ex : Ex m H m (upd H p (.lst (vx ++ [z]))) := Ex.write (List.mem_of_getElem? hp)
          have rz' := okw_rp hb hz.2 rz
          refine k m _ _ ex (M.write hp (.lst upd_same ?_)) .non
          rw [hn] at rz' ⊢
          exact (rl.append (.one rz')).ex ex (Nat.le_refl _)
      · cases ev
    · cases ev
theorem mtPop0 {al : Bool} : MtR X "list.pop" (rMe X.K fa n0 al .pop0) := by
  intro pins s σ H x vs v us Q I rx rv h
  obtain ⟨t, bs, m, μ, u, ws, w, μ', hb, M, r, ra, ev, k⟩ := h
  simp only [evMe] at ev
  match u, ws, ev, r, ra with
  | .ob i, [], ev, r, ra =>
    simp only at ev
    split at ev
    · rename_i xs e
      split at ev
      · rename_i y hy
        cases ev
        cases ra
        obtain ⟨p, rfl, hp, c⟩ := M.obj r e
        have hbn := M.bnd i
        generalize hn : bs[i]?.getD m.length = nn at c hbn
        cases c with
        | @lst vx _ hH rl =>
          have hy' := hy
          rw [rl.length] at hy'
          obtain ⟨z, hz, rz⟩ := rl.get hy'
          refine mt_pop pins s σ H _ _ v us Q I rx rv ⟨p, _, z, rfl, rfl, hH, hz, ?_⟩
          have ex : Ex m H m (upd H p (.lst vx.dropLast)) := Ex.write (List.mem_of_getElem? hp)
          refine k m _ _ ex (M.write hp (.lst upd_same ?_)) ((rz.ex (Ex.refl m H) hbn).ex' ex)
          rw [hn]
          exact rl.dropL.ex ex (Nat.le_refl _)
      · cases ev
    · cases ev
theorem mtPop1 {al : Bool} : MtR X "list.pop" (rMe X.K fa n0 al .pop1) := by
  intro pins s σ H x vs v us Q I rx rv h
  obtain ⟨t, bs, m, μ, u, ws, w, μ', hb, M, r, ra, ev, k⟩ := h
  simp only [evMe] at ev
  match u, ws, ev, r, ra with
  | .ob i, [.int j], ev, r, ra =>
    simp only at ev
    split at ev
    · rename_i xs e
      split at ev
      · rename_i hj
        split at ev
        · rename_i kk hk
          split at ev
          · rename_i y hy
            cases ev
            obtain ⟨z0, rfl, rz0⟩ := rpa1 ra
            cases rz0
            obtain ⟨p, rfl, hp, c⟩ := M.obj r e
            have hbn := M.bnd i
            generalize hn : bs[i]?.getD m.length = nn at c hbn
            cases c with
            | @lst vx _ hH rl =>
              obtain ⟨z, hz, rz⟩ := rl.get hy
              rw [rl.length] at hk
              refine mt_popAt pins s σ H _ _ v us Q I rx rv ⟨p, _, j, kk, z, rfl, rfl, hH, hj.1, hj.2, (ixN_seq hk).1, hz, ?_⟩
              have ex : Ex m H m (upd H p (.lst (vx.eraseIdx kk))) := Ex.write (List.mem_of_getElem? hp)
              refine k m _ _ ex (M.write hp (.lst upd_same ?_)) ((rz.ex (Ex.refl m H) hbn).ex' ex)
              rw [hn]
              exact (rl.erase kk).ex ex (Nat.le_refl _)
          · cases ev
        · cases ev
      · cases ev
    · cases ev
theorem mtGet2 {al : Bool} (hu : X.A.units + 66 < cLine) : MtR X "dict.get" (rMe X.K fa n0 al .get2) := by
  intro pins s σ H x vs v us Q I rx rv h
  obtain ⟨t, bs, m, μ, u, ws, w, μ', hb, M, r, ra, ev, k⟩ := h
  match ws, ev, ra with
  | [y, d], ev, ra =>
    simp only [evMe] at ev
    split at ev
    · rename_i o ho
      cases ev
      obtain ⟨y', d', rfl, ry, rd⟩ := rpa2 ra
      obtain ⟨u1, u2, rfl, ru1, ru2⟩ := rv.two
      obtain ⟨p, rfl, _, hg⟩ := dget_ok M r ry ho
      cases rx
      rcases hg with ⟨u', v', rfl, g, r'⟩ | ⟨rfl, g⟩
      · exact d_get2 (by omega) I g ru1 ru2 fun w' s3 I3 rw' => ⟨v', H, I3, rw', k.here M r'⟩
      · exact d_get2 (by omega) I g ru1 ru2 fun w' s3 I3 rw' => ⟨d', H, I3, rw', k.here M rd⟩
    · cases ev
  | [], ev, _ => cases u <;> simp [evMe] at ev
  | [_], ev, _ => cases u <;> simp [evMe] at ev
  | _ :: _ :: _ :: _, ev, _ => cases u <;> simp [evMe] at ev
theorem few_ok {e : Expr} {es : List Expr} {env : PySem.Env} {cpos : Pos} (hk : (e :: es).all okh = true) (hl : es.length < 20) :
    ((backTo cpos (starEach (e :: es) env)).all (fun x => !x.1) && (backToKw cpos (keywordEach [] env)).all (fun x => x.1.isSome)
      && decide ((e :: es).length + ([] : List Keyword).length + (if ([] : List Keyword).isEmpty then 0 else 1) < 30)) = true := by
  rw [okh_all hk]
  simp only [Bool.true_and, Bool.and_eq_true, decide_eq_true_eq]
  refine ⟨rfl, ?_⟩
  simp
  omega
theorem e_append {al : Bool} {es : List E} {x : Expr} {xs : List Expr} {apos : Pos} (ha : PEv X fa cal n0 xa a) (hs : PAv X fa cal n0 (x :: xs) es) (hr : okr xa = true) (hk : okh x = true) (hks : xs.all okh = true) (hl : xs.length < 20) (hline : (apos.endLine == pos.line) = true) :
    PEv X fa cal n0 (.Call (.Attribute xa "append" apos) (x :: xs) [] pos) (.me al .append a es) :=
  (pe_bm F.plainAttrs_list F.slot_list_append F.type_list_append (mtAppend (al := al)) ha hs (okr_base hr) (few_ok (by simp [hk, hks]) hl) hline (okh_star hk) (okh_back hks)).imp fun σV H Q q => me_rd q
theorem e_pop1 {al : Bool} {es : List E} {x : Expr} {xs : List Expr} {apos : Pos} (ha : PEv X fa cal n0 xa a) (hs : PAv X fa cal n0 (x :: xs) es) (hr : okr xa = true) (hk : okh x = true) (hks : xs.all okh = true) (hl : xs.length < 20) (hline : (apos.endLine == pos.line) = true) :
    PEv X fa cal n0 (.Call (.Attribute xa "pop" apos) (x :: xs) [] pos) (.me al .pop1 a es) :=
  (pe_bm F.plainAttrs_list F.slot_list_pop F.type_list_pop (mtPop1 (al := al)) ha hs (okr_base hr) (few_ok (by simp [hk, hks]) hl) hline (okh_star hk) (okh_back hks)).imp fun σV H Q q => me_rd q
theorem e_get2 {al : Bool} {es : List E} {x : Expr} {xs : List Expr} {apos : Pos} (hu : X.A.units + 66 < cLine) (ha : PEv X fa cal n0 xa a) (hs : PAv X fa cal n0 (x :: xs) es) (hr : okr xa = true) (hk : okh x = true) (hks : xs.all okh = true) (hl : xs.length < 20) (hline : (apos.endLine == pos.line) = true) :
    PEv X fa cal n0 (.Call (.Attribute xa "get" apos) (x :: xs) [] pos) (.me al .get2 a es) :=
  (pe_bm F.plainAttrs_dict F.slot_dict_get F.type_dict_get (mtGet2 (al := al) hu) ha hs (okr_base hr) (few_ok (by simp [hk, hks]) hl) hline (okh_star hk) (okh_back hks)).imp fun σV H Q q => me_rd q
theorem e_pop0 {al : Bool} {apos : Pos} (ha : PEv X fa cal n0 xa a) (hr : okr xa = true) (hline : (apos.endLine == pos.line) = true) :
    PEv X fa cal n0 (.Call (.Attribute xa "pop" apos) [] [] pos) (.me al .pop0 a []) :=
  (pe_bm0 F.plainAttrs_list F.slot_list_pop F.type_list_pop (mtPop0 (al := al)) ha (okr_base hr) hline).imp fun σV H Q q => by
    obtain ⟨t, bs, m, σ, μ, u, μ', hb, he, M, ev, k⟩ := me_rd q
    refine ⟨t, bs, m, σ, μ, u, μ', hb, he, M, ev, fun m1 H1 v1 x1 M1 r1 => ?_⟩
    obtain ⟨ty, t2, bs2, m2, σ2, μ2, us2, μ2', hb2, he2, M2, ev2, k2⟩ := k m1 H1 v1 x1 M1 r1
    simp only [evalL] at ev2
    cases ev2
    exact ⟨ty, k2 m2 H1 [] (Ex.refl _ _) M2 .nil⟩
end
end R

set_option Elab.async false
set_option linter.all false
set_option maxRecDepth 100000
set_option maxHeartbeats 4000000
/-! R3h: targets, statements -/
namespace R
open PySem PySem.Spec PyProof.Rows L2

theorem _root_.L2.PG.imp {X : Cx} {e : Expr} {t t' : TG} (h : PG X e t) (hi : ∀ v σ H Q, t' v σ H Q → t v σ H Q) : PG X e t' := ⟨fun pins s σ H v u Q I r q => h.run pins s σ H v u Q I r (hi _ _ _ _ q)⟩
theorem _root_.L2.PGs.imp {X : Cx} {e : List Expr} {t t' : TGs} (h : PGs X e t) (hi : ∀ v σ H Q, t' v σ H Q → t v σ H Q) : PGs X e t' := ⟨fun pins s σ H v u Q I r q => h.run pins s σ H v u Q I r (hi _ _ _ _ q)⟩
def okt : Expr → Bool
  | .Name .. | .Tuple .. | .Subscript .. => true
  | _ => false
theorem okt_each {e : Expr} {es : List Expr} {env : PySem.Env} (h : okt e = true) : assignEach (e :: es) env = (false, assign e env) :: assignEach es env := by
  cases e <;> first | rfl | cases h
theorem okt_none : ∀ {es : List Expr} {env : PySem.Env}, es.all okt = true → (assignEach es env).findIdx? (·.1) = none
  | [], _, _ => rfl
  | e :: es, env, h => by
    simp only [List.all_cons, Bool.and_eq_true] at h
    rw [okt_each h.1, List.findIdx?_cons]
    simp [okt_none (env := env) h.2]
theorem okt_len : ∀ {es : List Expr} {env : PySem.Env}, es.all okt = true → (assignEach es env).length = es.length
  | [], _, _ => rfl
  | e :: es, env, h => by
    simp only [List.all_cons, Bool.and_eq_true] at h
    rw [okt_each h.1, List.length_cons, okt_len h.2, List.length_cons]

/-! ### the order of the stores -/
def isStar : Expr → Bool
  | .Starred .. => true
  | _ => false
/-- what swappedStores answers; none: not told -/
def swF (sc : Scope) (ts vs : List Expr) : Option (Option (List Str)) :=
  if (!(ts.length == 2 || ts.length == 3) || vs.length != ts.length) = true then some none
  else if vs.any (fun | .Starred .. => true | _ => false) = true then some none
  else
    let line := (ts.head?.map (·.pos.line)).getD 0
    let names := ts.filterMap fun
      | .Name id pos => if (sc.names.lookup id == some .local && pos.line == line) = true then some id else none
      | _ => none
    if (names.length != ts.length || names.eraseDups.length != names.length) = true then some none
    else if vs.all (foldedForSure 8) = true then some none
    else if vs.all (constantsAlone 8) = true then none
    else some (some names)
theorem sw_ok {env : PySem.Env} {ts vs : List Expr} {k k2 : Nat} {p p2 : Pos} {r : Option (List Str)} (hk : env.scope.kind = .function) (h : swF env.scope ts vs = some r) :
    swappedStores [.Tuple ts k p] (.Tuple vs k2 p2) env = pure r := by
  have hb : env.blockKind = .function := by unfold PySem.Env.blockKind; rw [hk]; rfl
  unfold swF at h
  unfold swappedStores
  simp only [hb]
  have hne : (ScopeKind.function != ScopeKind.function) = false := by decide
  rw [hne, Bool.or_false]
  split at h
  · rename_i c; cases h; exact (if_pos c).trans rfl
  · rename_i c
    refine (if_neg c).trans ?_
    split at h
    · rename_i c; cases h; exact (if_pos c).trans rfl
    · rename_i c
      refine (if_neg c).trans ?_
      simp only at h
      unfold PySem.Env.kindOf
      split at h
      · rename_i c; cases h; exact (if_pos c).trans rfl
      · rename_i c
        refine (if_neg c).trans ?_
        split at h
        · rename_i c; cases h; exact (if_pos c).trans rfl
        · rename_i c
          refine (if_neg c).trans ?_
          split at h
          · cases h
          · rename_i c
            cases h
            refine (if_neg c).trans ?_
            rfl
/-- no pair of targets with a tuple -/
def noSw : Expr → Expr → Bool
  | .Tuple .., .Tuple .. => false
  | .List .., _ => false
  | _, _ => true
theorem noSw_ok {t v : Expr} {env : PySem.Env} (h : noSw t v = true) : swappedStores [t] v env = pure none := by
  cases t <;> first | rfl | (cases v <;> first | rfl | cases h)
/-- no list comprehension -/
def noLc : Expr → Bool
  | .ListComp .. => false
  | _ => true
theorem noLc_sw {v : Expr} {t : Option Expr} {l : Nat} {env : PySem.Env} (h : noLc v = true) (hk : okh v = true) : swapsWith v t l env = pure false := by
  cases v <;> first | rfl | (simp [okh] at hk; done) | (simp [noLc] at h; done)

section
variable {X : Cx} {fa : Nat → Option Addr} {cal : Nat → List U → Mu → Option (U × Mu)} {n0 : Nat}
variable {a b c : E} {xa xb xc : Expr} {pos : Pos}
/-! ### targets -/
mutual
def ptSlots : Pt → List Nat
  | .slot i => [i]
  | .tup ps => ptsSlots ps
def ptsSlots : List Pt → List Nat
  | [] => []
  | p :: ps => ptSlots p ++ ptsSlots ps
end
/-- only those slots changed -/
def Same (is : List Nat) (σV σV' : L2.St) : Prop := ∀ ws : List Nat, (∀ i ∈ is, i ∈ ws) → L2.wipe σV' ws = L2.wipe σV ws
theorem wipe_get (σ : L2.St) (j : Nat) : ∀ ws : List Nat, (L2.wipe σ ws)[j]? = if j ∈ ws then (σ[j]?).map (fun _ => none) else σ[j]?
  | [] => by simp [L2.wipe]
  | w :: ws => by
    unfold L2.wipe
    by_cases h : w = j
    · subst h
      rw [List.getElem?_set]
      simp only [if_true, wipe_length, List.mem_cons, true_or, if_true]
      by_cases hl : w < σ.length
      · simp [hl]
      · simp [hl]
    · rw [List.getElem?_set_ne h, wipe_get σ j ws]
      have : j ∈ w :: ws ↔ j ∈ ws := by
        constructor
        · intro z
          rcases List.mem_cons.mp z with z | z
          · exact absurd z.symm h
          · exact z
        · exact fun z => List.mem_cons_of_mem _ z
      simp only [this]
theorem wipe_set {σ : L2.St} {i : Nat} {x : Option V} {ws : List Nat} (h : i ∈ ws) : L2.wipe (σ.set i x) ws = L2.wipe σ ws := by
  apply List.ext_getElem?
  intro j
  rw [wipe_get, wipe_get]
  by_cases hj : j ∈ ws
  · rw [if_pos hj, if_pos hj, List.getElem?_set]
    by_cases hi : i = j
    · subst hi
      by_cases hl : i < σ.length
      · simp [hl]
      · simp [hl]
    · simp [hi]
  · rw [if_neg hj, if_neg hj, List.getElem?_set_ne (fun z => hj (by rw [← z]; exact h))]
theorem wipe_wipe {σ : L2.St} {ws : List Nat} : L2.wipe (L2.wipe σ ws) ws = L2.wipe σ ws := by
  apply List.ext_getElem?
  intro j
  rw [wipe_get, wipe_get]
  by_cases hj : j ∈ ws
  · rw [if_pos hj, if_pos hj]
    cases σ[j]? <;> rfl
  · rw [if_neg hj, if_neg hj]
theorem Same.trans {a b : List Nat} {σ σ' σ'' : L2.St} (h : Same a σ σ') (h' : Same b σ' σ'') : Same (a ++ b) σ σ'' := fun ws hw => (h' ws fun i hi => hw i (List.mem_append_right _ hi)).trans (h ws fun i hi => hw i (List.mem_append_left _ hi))
def tGp (K : PySem.W.Frag) (fa : Nat → Option Addr) (p : Pt) : TG := fun v σV H Q => ∃ t bs m μ σ u σ', EnvR K fa t m H σ σV ∧ Me K fa bs t m H μ ∧ Rp K fa t m m.length H u v ∧ bindP μ p u σ = some σ' ∧ ∀ σV', EnvR K fa t m H σ' σV' → Same (ptSlots p) σV σV' → Q σV' H
def tGs (K : PySem.W.Frag) (fa : Nat → Option Addr) (ps : List Pt) : TGs := fun vs σV H Q => ∃ t bs m μ σ us σ', EnvR K fa t m H σ σV ∧ Me K fa bs t m H μ ∧ RpA K fa t m m.length H us vs ∧ bindPs μ ps us σ = some σ' ∧ ∀ σV', EnvR K fa t m H σ' σV' → Same (ptsSlots ps) σV σV' → Q σV' H
theorem g_slot {i : Nat} {x : Str} (hN : X.N.Nodup) (hi : X.N[i]? = some x) (hx : Loc X.env.scope x) (hf : X.fn x = true ∨ X.env.scope.names.lookup x = some .local) : PG X (.Name x pos) (tGp X.K fa (.slot i)) :=
  (pg_name hN hi hx hf).imp fun v σV H Q q => by
    obtain ⟨t, bs, m, μ, σ, u, σ', he, M, r, e, k⟩ := q
    simp only [bindP] at e
    cases e
    exact k _ (he.set r) fun ws hw => wipe_set (hw i (by simp [ptSlots]))
theorem gs_nil : PGs X [] (tGs X.K fa []) := pgs_nil.imp fun vs σV H Q q => by
  obtain ⟨t, bs, m, μ, σ, us, σ', he, M, r, e, k⟩ := q
  match us, e, r with
  | [], e, r =>
    simp only [bindPs] at e
    cases e
    cases r
    exact ⟨rfl, k _ he fun _ _ => rfl⟩
theorem gs_cons {p : Pt} {ps : List Pt} {x : Expr} {xs : List Expr} (h : PG X x (tGp X.K fa p)) (hs : PGs X xs (tGs X.K fa ps)) (hk : okt x = true) : PGs X (x :: xs) (tGs X.K fa (p :: ps)) :=
  (pgs_cons h hs (by rw [okt_each hk] <;> rfl)).imp fun vs σV H Q q => by
    obtain ⟨t, bs, m, μ, σ, us, σ', he, M, r, e, k⟩ := q
    match us, e, r with
    | u :: us, e, .cons r ra =>
      simp only [bindPs] at e
      split at e
      · rename_i σ1 e1
        exact ⟨_, _, rfl, t, bs, m, μ, σ, u, σ1, he, M, r, e1, fun σV1 he1 s1 => ⟨t, bs, m, μ, σ1, us, σ', he1, M, ra, e, fun σV2 he2 s2 => k σV2 he2 (by simpa [ptsSlots] using s1.trans s2)⟩⟩
      · cases e
theorem g_tup {ps : List Pt} {xs : List Expr} {j : Nat} (hc : X.calm = true) (h : PGs X xs (tGs X.K fa ps)) (hk : xs.all okt = true) (hl : xs.length = ps.length) : PG X (.Tuple xs j pos) (tGp X.K fa (.tup ps)) :=
  (pg_tup hc h (okt_len hk) (okt_none hk)).imp fun v σV H Q q => by
    obtain ⟨t, bs, m, μ, σ, u, σ', he, M, r, e, k⟩ := q
    cases u with
    | tup us =>
      simp only [bindP] at e
      split at e
      · rename_i hl'
        cases r with
        | tup f ra => exact ⟨_, _, rfl, f.sq, by rw [← ra.length, hl, hl'], t, bs, m, μ, σ, us, σ', he, M, ra, e, fun σV' he' s' => k σV' he' (by simpa [ptSlots] using s')⟩
      · cases e
    | _ => simp [bindP] at e

/-! ### statements -/
def KnO (K : PySem.W.Frag) (fa : Nat → Option Addr) (bs : List Nat) (t m : List Addr) (H : Hp) : Out → Ends → Prop
  | .nx σ' μ', D => ∀ m' H' σV', Ex m H m' H' → Me K fa bs t m' H' μ' → EnvR K fa t m' H' σ' σV' → D.nx σV' H'
  | .rt u μ', D => Kn K fa bs t m H u μ' D.rt
  | .bk σ' μ', D => ∀ m' H' σV', Ex m H m' H' → Me K fa bs t m' H' μ' → EnvR K fa t m' H' σ' σV' → D.bk σV' H'
  | .ct σ' μ', D => ∀ m' H' σV', Ex m H m' H' → Me K fa bs t m' H' μ' → EnvR K fa t m' H' σ' σV' → D.ct σV' H'
theorem KnO.ex {K : PySem.W.Frag} {bs : List Nat} {t m m' : List Addr} {H H' : Hp} {o : Out} {D : Ends} (k : KnO K fa bs t m H o D) (e : Ex m H m' H') : KnO K fa bs t m' H' o D := by
  cases o with
  | nx σ μ => exact fun m2 H2 σV2 x M h => k m2 H2 σV2 (e.trans x) M h
  | rt u μ => exact Kn.ex k e
  | bk σ μ => exact fun m2 H2 σV2 x M h => k m2 H2 σV2 (e.trans x) M h
  | ct σ μ => exact fun m2 H2 σV2 x M h => k m2 H2 σV2 (e.trans x) M h
def tSv (K : PySem.W.Frag) (fa : Nat → Option Addr) (n0 : Nat) (ex : Env → Mu → Option Out) : TS := fun D σV H => ∃ t bs m σ μ o, bs.length = n0 ∧ EnvR K fa t m H σ σV ∧ Me K fa bs t m H μ ∧ ex σ μ = some o ∧ KnO K fa bs t m H o D
abbrev PSv (X : Cx) (fa : Nat → Option Addr) (cal : Nat → List U → Mu → Option (U × Mu)) (n0 : Nat) (x : Stmt) (s : S) : Prop := PS X x (tSv X.K fa n0 (exS cal n0 s))
abbrev PLv (X : Cx) (fa : Nat → Option Addr) (cal : Nat → List U → Mu → Option (U × Mu)) (n0 : Nat) (x : List Stmt) (s : List S) : Prop := PSs X x (tSv X.K fa n0 (exL cal n0 s))
theorem l_nil : PLv X fa cal n0 [] [] := pss_nil.imp fun D σV H q => by
  obtain ⟨t, bs, m, σ, μ, o, hb, he, M, ev, k⟩ := q
  simp only [exL] at ev
  cases ev
  exact k m H σV (Ex.refl _ _) M he
theorem l_cons {s : S} {ss : List S} {x : Stmt} {xs : List Stmt} (h : PSv X fa cal n0 x s) (hs : PLv X fa cal n0 xs ss) : PLv X fa cal n0 (x :: xs) (s :: ss) :=
  (pss_cons h hs).imp fun D σV H q => by
    obtain ⟨t, bs, m, σ, μ, o, hb, he, M, ev, k⟩ := q
    simp only [exL] at ev
    split at ev
    · rename_i σ1 μ1 e1
      exact ⟨t, bs, m, σ, μ, _, hb, he, M, e1, fun m1 H1 σV1 x1 M1 he1 => ⟨t, bs, m1, σ1, μ1, o, hb, he1, M1, ev, k.ex x1⟩⟩
    · rename_i o' hno
      refine ⟨t, bs, m, σ, μ, o, hb, he, M, ev, ?_⟩
      cases o with
      | nx σ1 μ1 => exact absurd ev (hno σ1 μ1)
      | rt u μ => exact k
      | bk σ μ => exact k
      | ct σ μ => exact k
theorem s_pass : PSv X fa cal n0 (.Pass pos) .pass := ps_pass.imp fun D σV H q => by
  obtain ⟨t, bs, m, σ, μ, o, hb, he, M, ev, k⟩ := q
  simp only [exS] at ev
  cases ev
  exact k m H σV (Ex.refl _ _) M he
theorem s_brk : PSv X fa cal n0 (.Break pos) .brk := ps_break.imp fun D σV H q => by
  obtain ⟨t, bs, m, σ, μ, o, hb, he, M, ev, k⟩ := q
  simp only [exS] at ev
  cases ev
  exact k m H σV (Ex.refl _ _) M he
theorem s_cont : PSv X fa cal n0 (.Continue pos) .cont := ps_continue.imp fun D σV H q => by
  obtain ⟨t, bs, m, σ, μ, o, hb, he, M, ev, k⟩ := q
  simp only [exS] at ev
  cases ev
  exact k m H σV (Ex.refl _ _) M he
theorem s_doc {x : Str} {j : Nat} {p2 : Pos} : PSv X fa cal n0 (.Expr (.Constant (.str x) j p2) pos) .pass := ps_doc.imp fun D σV H q => by
  obtain ⟨t, bs, m, σ, μ, o, hb, he, M, ev, k⟩ := q
  simp only [exS] at ev
  cases ev
  exact k m H σV (Ex.refl _ _) M he
theorem s_never {x : Stmt} : PSv X fa cal n0 x .stuck := ps_never.imp fun D σV H q => by
  obtain ⟨t, bs, m, σ, μ, o, hb, he, M, ev, k⟩ := q
  simp only [exS] at ev
  cases ev
theorem s_ex (h : PEv X fa cal n0 xa a) (hk : okh xa = true) (hl : noLc xa = true) : PSv X fa cal n0 (.Expr xa pos) (.ex a) :=
  (ps_expr h (noLc_sw hl hk)).imp fun D σV H q => by
    obtain ⟨t, bs, m, σ, μ, o, hb, he, M, ev, k⟩ := q
    simp only [exS] at ev
    split at ev
    · rename_i u μ1 e1
      cases ev
      exact seq1 hb he M e1 fun m1 H1 v1 x1 M1 r1 => k m1 H1 σV x1 M1 (he.ex x1)
    · cases ev
theorem s_ret (h : PEv X fa cal n0 xa a) : PSv X fa cal n0 (.Return (some xa) pos) (.ret a) :=
  (ps_ret h).imp fun D σV H q => by
    obtain ⟨t, bs, m, σ, μ, o, hb, he, M, ev, k⟩ := q
    simp only [exS] at ev
    split at ev
    · rename_i u μ1 e1
      cases ev
      exact ⟨t, bs, m, σ, μ, u, _, hb, he, M, e1, k⟩
    · cases ev
theorem s_retN : PSv X fa cal n0 (.Return none pos) (.ret .non) := ps_retN.imp fun D σV H q => by
  obtain ⟨t, bs, m, σ, μ, o, hb, he, M, ev, k⟩ := q
  simp only [exS, evalE] at ev
  cases ev
  exact k m H .non (Ex.refl _ _) M .non
theorem s_if {p q : List S} {xp xq : List Stmt} (hc : PTv X fa cal n0 xc c) (hp : PLv X fa cal n0 xp p) (hq : PLv X fa cal n0 xq q) : PSv X fa cal n0 (.If xc xp xq pos) (.iff c p q) :=
  (ps_if hc hp hq).imp fun D σV H q => by
    obtain ⟨t, bs, m, σ, μ, o, hb, he, M, ev, k⟩ := q
    simp only [exS] at ev
    split at ev
    · rename_i u1 μ1 e1
      split at ev
      · rename_i e2
        refine ⟨t, bs, m, σ, μ, u1, μ1, true, hb, he, M, e1, e2, fun m1 H1 x1 M1 => ?_⟩
        simp only [↓reduceIte]
        exact ⟨t, bs, m1, σ, μ1, o, hb, he.ex x1, M1, ev, k.ex x1⟩
      · rename_i e2
        refine ⟨t, bs, m, σ, μ, u1, μ1, false, hb, he, M, e1, e2, fun m1 H1 x1 M1 => ?_⟩
        simp only [↓reduceIte, Bool.false_eq_true]
        exact ⟨t, bs, m1, σ, μ1, o, hb, he.ex x1, M1, ev, k.ex x1⟩
      · cases ev
    · cases ev
/-- name = value -/
theorem s_set {i : Nat} {x : Str} {pos' : Pos} (hN : X.N.Nodup) (hi : X.N[i]? = some x) (hx : Loc X.env.scope x) (hf : X.fn x = true ∨ X.env.scope.names.lookup x = some .local) (h : PEv X fa cal n0 xa a) (hs : swapsWith xa (some (.Name x pos')) pos.line X.env = pure false) :
    PSv X fa cal n0 (.Assign [.Name x pos'] xa pos) (.set i a) :=
  (ps_set hN hi hx h hs hf).imp fun D σV H q => by
    obtain ⟨t, bs, m, σ, μ, o, hb, he, M, ev, k⟩ := q
    simp only [exS] at ev
    split at ev
    · rename_i u μ1 e1
      cases ev
      exact seq1 hb he M e1 fun m1 H1 v1 x1 M1 r1 => k m1 H1 _ x1 M1 ((he.ex x1).set r1)
    · cases ev
theorem s_asg {p : Pt} {tg : Expr} (hg : PG X tg (tGp X.K fa p)) (h : PEv X fa cal n0 xa a) (hk : okh xa = true) (ht : okt tg = true) (hl : noLc xa = true) (hw : swappedStores [tg] xa X.env = pure none) :
    PSv X fa cal n0 (.Assign [tg] xa pos) (.asg p a) :=
  (ps_asg h hg (noLc_sw hl hk) hw (by rw [okt_each ht] <;> rfl)).imp fun D σV H q => by
    obtain ⟨t, bs, m, σ, μ, o, hb, he, M, ev, k⟩ := q
    simp only [exS] at ev
    split at ev
    · rename_i u μ1 e1
      split at ev
      · rename_i σ1 e2
        cases ev
        exact seq1 hb he M e1 fun m1 H1 v1 x1 M1 r1 => ⟨t, bs, m1, _, σ, u, σ1, he.ex x1, M1, r1, e2, fun σV' he' _ => k m1 H1 σV' x1 M1 he'⟩
      · cases ev
    · cases ev
/-- a tuple's items, then the stores from the right -/
theorem s_par2 {i j : Nat} {x y : Str} {es : List E} {px py pt : Pos} {kt k2 : Nat} {pt2 : Pos} (hc : X.calm = true) (hN : X.N.Nodup) (hi : X.N[i]? = some x) (hj : X.N[j]? = some y) (hij : i ≠ j)
    (hx : X.env.scope.names.lookup x = some .local) (hy : X.env.scope.names.lookup y = some .local) (ha : PAv X fa cal n0 [xa, xb] es)
    (hw : swappedStores [.Tuple [.Name x px, .Name y py] kt pt] (.Tuple [xa, xb] k2 pt2) X.env = pure (some [x, y])) :
    PSv X fa cal n0 (.Assign [.Tuple [.Name x px, .Name y py] kt pt] (.Tuple [xa, xb] k2 pt2) pos) (.par [i, j] es) :=
  (ps_par hc hN hi hj hij hx hy ha hw).imp fun D σV H q => by
    obtain ⟨t, bs, m, σ, μ, o, hb, he, M, ev, k⟩ := q
    simp only [exS] at ev
    split at ev
    · rename_i us μ1 e1
      split at ev
      · rename_i σ1 e2
        cases ev
        match us, e2 with
        | [u1, u2], e2 =>
          simp only [bindI] at e2
          cases e2
          refine ⟨t, bs, m, σ, μ, _, _, hb, he, M, e1, fun m1 H1 vs x1 M1 ra => ?_⟩
          obtain ⟨v, w, rfl, r1, r2⟩ := rpa2 ra
          exact ⟨v, w, rfl, k m1 H1 _ x1 M1 (((he.ex x1).set r1).set r2)⟩
      · cases ev
    · cases ev
theorem rpa3 {K : PySem.W.Frag} {t m : List Addr} {n : Nat} {H : Hp} {u w z : U} {xs : List V} (r : RpA K fa t m n H [u, w, z] xs) : ∃ v y q, xs = [v, y, q] ∧ Rp K fa t m n H u v ∧ Rp K fa t m n H w y ∧ Rp K fa t m n H z q := by
  cases r with
  | cons h q =>
    obtain ⟨y, z, rfl, h2, h3⟩ := rpa2 q
    exact ⟨_, y, z, rfl, h, h2, h3⟩
theorem s_par3 {i j l : Nat} {x y z : Str} {es : List E} {px py pz pt : Pos} {kt k2 : Nat} {pt2 : Pos} (hc : X.calm = true) (hN : X.N.Nodup) (hi : X.N[i]? = some x) (hj : X.N[j]? = some y) (hl : X.N[l]? = some z) (hij : i ≠ j) (hil : i ≠ l) (hjl : j ≠ l)
    (hx : X.env.scope.names.lookup x = some .local) (hy : X.env.scope.names.lookup y = some .local) (hz : X.env.scope.names.lookup z = some .local) (ha : PAv X fa cal n0 [xa, xb, xc] es)
    (hw : swappedStores [.Tuple [.Name x px, .Name y py, .Name z pz] kt pt] (.Tuple [xa, xb, xc] k2 pt2) X.env = pure (some [x, y, z])) :
    PSv X fa cal n0 (.Assign [.Tuple [.Name x px, .Name y py, .Name z pz] kt pt] (.Tuple [xa, xb, xc] k2 pt2) pos) (.par [i, j, l] es) :=
  (ps_par3 hc hN hi hj hl hij hil hjl hx hy hz ha hw).imp fun D σV H q => by
    obtain ⟨t, bs, m, σ, μ, o, hb, he, M, ev, k⟩ := q
    simp only [exS] at ev
    split at ev
    · rename_i us μ1 e1
      split at ev
      · rename_i σ1 e2
        cases ev
        match us, e2 with
        | [u1, u2, u3], e2 =>
          simp only [bindI] at e2
          cases e2
          refine ⟨t, bs, m, σ, μ, _, _, hb, he, M, e1, fun m1 H1 vs x1 M1 ra => ?_⟩
          obtain ⟨v, w, q, rfl, r1, r2, r3⟩ := rpa3 ra
          exact ⟨v, w, q, rfl, k m1 H1 _ x1 M1 ((((he.ex x1).set r1).set r2).set r3)⟩
      · cases ev
    · cases ev
/-! ### o[i] = v -/
def rSetU (K : PySem.W.Frag) (fa : Nat → Option Addr) (n0 : Nat) : TSet := fun o i v H Q => ∃ t bs m μ d j u μ', bs.length = n0 ∧ Me K fa bs t m H μ ∧ Rp K fa t m m.length H d o ∧ Rp K fa t m m.length H j i ∧ Rp K fa t m m.length H u v ∧ storeSub n0 μ d j u = some μ' ∧ ∀ m' H', Ex m H m' H' → Me K fa bs t m' H' μ' → Q H'
theorem setR (hu : X.A.units + 66 < cLine) : PSet X (rSetU X.K fa n0) := by
  intro pins s σ H o i v ov iv u Q I ro ri rv h
  obtain ⟨t, bs, m, μ, d, j, w, μ', hb, M, rd, rj, rw', ev, k⟩ := h
  have hl := sz_line
  simp only [storeSub] at ev
  split at ev
  · rename_i kk
    split at ev
    · rename_i xs e
      split at ev
      · rename_i z
        split at ev
        · rename_i q hq
          split at ev
          · rename_i ho
            cases ev
            obtain ⟨p, rfl, hp, c⟩ := M.obj rd e
            have rw2 := okw_rp hb ho rw'
            cases rj
            generalize hn : bs[kk]?.getD m.length = nn at c rw2
            cases c with
            | @lst vx _ hH rl =>
              rw [rl.length] at hq
              refine set_list pins s σ H _ _ _ ov iv u Q I ro ri rv ⟨p, vx, z, q, rfl, rfl, hH, hq, ?_⟩
              have ex : Ex m H m (upd H p (.lst (vx.set q v))) := Ex.write (List.mem_of_getElem? hp)
              refine k m _ ex (M.write hp (.lst upd_same ?_))
              rw [hn]
              exact (rl.set rw2 q).ex ex (Nat.le_refl _)
          · cases ev
        · cases ev
      · cases ev
    · rename_i o hno e
      split at ev
      · rename_i o' e2
        split at ev
        · rename_i ho
          cases ev
          obtain ⟨p, rfl, hp, c⟩ := M.obj rd e
          have rw2 := okw_rp hb ho rw'
          generalize hn : bs[kk]?.getD m.length = nn at c rw2
          cases c with
          | lst hH rl => simp [dput] at e2
          | @dK kvs us hH rl =>
            simp only [dput] at e2
            split at e2
            · rename_i q hq
              split at e2
              · rename_i hz
                cases e2
                have ek := sky_ok rj hq
                subst ek
                rw [List.length_map] at hz
                cases ro
                refine d_setItem (by omega) I (DPut.k hH (by omega)) ri rv fun s' I' => ⟨_, I', ?_⟩
                have ex : Ex m H m (upd H p (.dK (putK kvs q v))) := Ex.write (List.mem_of_getElem? hp)
                refine k m _ ex (M.write hp ?_)
                rw [← putK_keys _ _ v]
                refine .dK upd_same ?_
                rw [hn]
                exact (putK_ok rw2 rl).ex ex (Nat.le_refl _)
              · cases e2
            · cases e2
          | @dT kvs us hH rl =>
            simp only [dput] at e2
            split at e2
            · rename_i q hq
              split at e2
              · rename_i hz
                cases e2
                obtain ⟨b, rfl, hbb⟩ := tky_ok rj hq
                rw [List.length_map] at hz
                cases ro
                refine d_setItem (by omega) I (DPut.t hH hbb (by omega)) ri rv fun s' I' => ⟨_, I', ?_⟩
                have ex : Ex m H m (upd H p (.dT (putK kvs q v))) := Ex.write (List.mem_of_getElem? hp)
                refine k m _ ex (M.write hp ?_)
                rw [← putK_keys _ _ v]
                refine .dT upd_same ?_
                rw [hn]
                exact (putK_ok rw2 rl).ex ex (Nat.le_refl _)
              · cases e2
            · cases e2
        · cases ev
      · cases ev
    · cases ev
  · cases ev
theorem okh_asg {o i : Expr} {p : Pos} {env : PySem.Env} (h : okh i = true) (v : Value) : assign (.Subscript o i p) env v = (do
      let ov ← holding [v] (eval o env)
      let iv ← holding [v, ov] (eval i env)
      standAt p
      holding [v, ov, iv] (setItem ov iv v)
      release [v, ov, iv] []) := by
  cases i <;> first | rfl | cases h
theorem s_sub {p2 : Pos} (hu : X.A.units + 66 < cLine) (ha : PEv X fa cal n0 xa a) (hb : PEv X fa cal n0 xb b) (hc : PEv X fa cal n0 xc c) (hkb : okh xb = true) (hkc : okh xc = true) (hl : noLc xc = true) :
    PSv X fa cal n0 (.Assign [.Subscript xa xb p2] xc pos) (.sub a b c) :=
  have hs : swapsWithSole [.Subscript xa xb p2] xc pos.line X.env = pure false := noLc_sw (t := some (.Subscript xa xb p2)) (l := pos.line) (env := X.env) hl hkc
  (ps_asg hc (pg_sub ha hb (setR (fa := fa) (n0 := n0) hu) (okh_asg hkb)) hs (noSw_ok rfl) rfl).imp fun D σV H q => by
    obtain ⟨t, bs, m, σ, μ, o, hb, he, M, ev, k⟩ := q
    simp only [exS] at ev
    split at ev
    · rename_i u μ1 e1
      split at ev
      · rename_i d μ2 e2
        split at ev
        · rename_i j μ3 e3
          split at ev
          · rename_i μ4 e4
            cases ev
            refine seq1 hb he M e1 fun m1 H1 v1 x1 M1 r1 => ?_
            refine seq2 hb (he.ex x1) M1 e2 e3 fun m3 H3 v2 v3 x3 M3 r2 r3 => ?_
            exact ⟨t, bs, m3, _, d, j, u, _, hb, M3, r2, r3, r1.ex' x3, e4, fun m4 H4 x4 M4 => k m4 H4 σV (x1.trans (x3.trans x4)) M4 ((he.ex (x1.trans x3)).ex x4)⟩
          · cases ev
        · cases ev
      · cases ev
    · cases ev
/-! ### two stores -/
def tGS (K : PySem.W.Frag) (fa : Nat → Option Addr) (cal : Nat → List U → Mu → Option (U × Mu)) (n0 : Nat) (a i : E) : TG := fun v σV H Q => ∃ t bs m σ μ u μ', bs.length = n0 ∧ EnvR K fa t m H σ σV ∧ Me K fa bs t m H μ ∧ Rp K fa t m m.length H u v ∧ storeTo cal n0 a i u σ μ = some μ' ∧ ∀ m' H', Ex m H m' H' → Me K fa bs t m' H' μ' → Q σV H'
theorem g_sub {p2 : Pos} (hu : X.A.units + 66 < cLine) (ha : PEv X fa cal n0 xa a) (hb : PEv X fa cal n0 xb b) (hkb : okh xb = true) : PG X (.Subscript xa xb p2) (tGS X.K fa cal n0 a b) :=
  (pg_sub ha hb (setR (fa := fa) (n0 := n0) hu) (okh_asg hkb)).imp fun v σV H Q q => by
    obtain ⟨t, bs, m, σ, μ, u, μ', hb, he, M, r, ev, k⟩ := q
    unfold storeTo at ev
    split at ev
    · rename_i d μ2 e2
      split at ev
      · rename_i j μ3 e3
        exact seq2 hb he M e2 e3 fun m3 H3 v2 v3 x3 M3 r2 r3 => ⟨t, bs, m3, _, d, j, u, _, hb, M3, r2, r3, r.ex' x3, ev, fun m4 H4 x4 M4 => k m4 H4 (x3.trans x4) M4⟩
      · cases ev
    · cases ev
theorem s_asg2 {a' b' : E} {xa' xb' : Expr} {p2 p3 : Pos} (hu : X.A.units + 66 < cLine) (ha : PEv X fa cal n0 xa a) (hb : PEv X fa cal n0 xb b) (ha' : PEv X fa cal n0 xa' a') (hb' : PEv X fa cal n0 xb' b') (hc : PEv X fa cal n0 xc c) (hkb : okh xb = true) (hkb' : okh xb' = true) :
    PSv X fa cal n0 (.Assign [.Subscript xa xb p2, .Subscript xa' xb' p3] xc pos) (.asg2 a b a' b' c) :=
  (ps_asg2 hc (g_sub hu ha hb hkb) (g_sub hu ha' hb' hkb') (by rw [okt_each rfl, okt_each rfl] <;> rfl) rfl).imp fun D σV H q => by
    obtain ⟨t, bs, m, σ, μ, o, hb, he, M, ev, k⟩ := q
    simp only [exS] at ev
    split at ev
    · rename_i u μ1 e1
      split at ev
      · rename_i μ2 e2
        split at ev
        · rename_i μ3 e3
          cases ev
          exact seq1 hb he M e1 fun m1 H1 v1 x1 M1 r1 => ⟨t, bs, m1, σ, μ1, u, μ2, hb, he.ex x1, M1, r1, e2, fun m2 H2 x2 M2 => ⟨t, bs, m2, σ, μ2, u, μ3, hb, (he.ex x1).ex x2, M2, r1.ex' x2, e3, fun m3 H3 x3 M3 => k m3 H3 σV (x1.trans (x2.trans x3)) M3 (((he.ex x1).ex x2).ex x3)⟩⟩
        · cases ev
      · cases ev
    · cases ev
theorem s_sub2 {a' b' d : E} {xa' xb' xd : Expr} {p2 p3 pt qt : Pos} {kt k2 : Nat} (hcm : X.calm = true) (hu : X.A.units + 66 < cLine) (ha : PEv X fa cal n0 xa a) (hb : PEv X fa cal n0 xb b) (ha' : PEv X fa cal n0 xa' a') (hb' : PEv X fa cal n0 xb' b') (hcd : PAv X fa cal n0 [xc, xd] [c, d]) (hkb : okh xb = true) (hkb' : okh xb' = true)
    (hw : swappedStores [.Tuple [.Subscript xa xb p2, .Subscript xa' xb' p3] kt pt] (.Tuple [xc, xd] k2 qt) X.env = pure none) :
    PSv X fa cal n0 (.Assign [.Tuple [.Subscript xa xb p2, .Subscript xa' xb' p3] kt pt] (.Tuple [xc, xd] k2 qt) pos) (.sub2 a b a' b' c d) :=
  have hs : swapsWithSole [.Tuple [.Subscript xa xb p2, .Subscript xa' xb' p3] kt pt] (.Tuple [xc, xd] k2 qt) pos.line X.env = pure false := noLc_sw (v := .Tuple [xc, xd] k2 qt) (t := some (.Tuple [.Subscript xa xb p2, .Subscript xa' xb' p3] kt pt)) (l := pos.line) (env := X.env) rfl rfl
  (ps_asg (e_tup hcd) (pg_tup hcm (pgs_cons (g_sub hu ha hb hkb) (pgs_cons (g_sub hu ha' hb' hkb') pgs_nil (by rw [okt_each rfl] <;> rfl)) (by rw [okt_each rfl] <;> rfl)) (okt_len rfl) (okt_none rfl)) hs hw (by rw [okt_each rfl] <;> rfl)).imp fun D σV H q => by
    obtain ⟨t, bs, m, σ, μ, o, hb, he, M, ev, k⟩ := q
    simp only [exS] at ev
    split at ev
    · rename_i u μ1 e1
      split at ev
      · rename_i u' μ2 e2
        split at ev
        · rename_i μ3 e3
          split at ev
          · rename_i μ4 e4
            cases ev
            have et : evalE cal n0 (.tup [c, d]) σ μ = some (.tup [u, u'], μ2) := by
              simp only [evalE, evalL, e1, e2]
              rw [if_pos (by simp [SZ])]
            refine ⟨t, bs, m, σ, μ, _, μ2, hb, he, M, et, fun m1 H1 v1 x1 M1 r1 => ?_⟩
            cases r1 with
            | tup f ra =>
              obtain ⟨v, w, rfl, r1, r2⟩ := rpa2 ra
              exact ⟨_, _, rfl, f.sq, rfl, v, [w], rfl, t, bs, m1, σ, μ2, u, μ3, hb, he.ex x1, M1, r1, e3, fun m2 H2 x2 M2 => ⟨w, [], rfl, t, bs, m2, σ, μ3, u', μ4, hb, (he.ex x1).ex x2, M2, r2.ex' x2, e4, fun m3 H3 x3 M3 => ⟨rfl, k m3 H3 σV (x1.trans (x2.trans x3)) M3 (((he.ex x1).ex x2).ex x3)⟩⟩⟩
          · cases ev
        · cases ev
      · cases ev
    · cases ev
end
end R

set_option Elab.async false
set_option linter.all false
set_option maxRecDepth 100000
set_option maxHeartbeats 4000000
/-! R3i: walks, while, for, comprehensions -/
namespace R
open PySem PySem.Spec PyProof.Rows L2

section
variable {K : PySem.W.Frag} {fa : Nat → Option Addr} {t t' m m' : List Addr} {n n' : Nat} {H H' : Hp} {bs : List Nat} {μ : Mu} {D : Addr}
mutual
/-- other temporaries to be avoided: known ones or none at this heap -/
theorem Rp.tt (ht : ∀ a ∈ t', a ∈ t ∨ H a = none) : ∀ {u : U} {v : V}, Rp K fa t m n H u v → Rp K fa t' m n H u v
  | _, _, .non => .non
  | _, _, .bl b => .bl b
  | _, _, .int i => .int i
  | _, _, .str x => .str x
  | _, _, .tup h r => .tup ⟨h.1, h.2.1, fun z => (ht _ z).elim h.2.2 fun q => by have := h.1; rw [q] at this; cases this⟩ (RpA.tt ht r)
  | _, _, .lst h r => .lst ⟨h.1, h.2.1, fun z => (ht _ z).elim h.2.2 fun q => by have := h.1; rw [q] at this; cases this⟩ (RpA.tt ht r)
  | _, _, .dK h n z r => .dK h n (fun q => (ht _ q).elim z fun q => by rw [q] at h; cases h) (RpA.tt ht r)
  | _, _, .dT h n z r => .dT h n (fun q => (ht _ q).elim z fun q => by rw [q] at h; cases h) (RpA.tt ht r)
  | _, _, .ob hi h => .ob hi h
  | _, _, .fn h => .fn h
  | _, _, .scr h => .scr (h.elim (fun q => .inl ⟨q.1, q.2.1, fun z => (ht _ z).elim q.2.2 fun w => by obtain ⟨u, e⟩ := Rd.some q.1; rw [w] at e; cases e⟩) .inr)
theorem RpA.tt (ht : ∀ a ∈ t', a ∈ t ∨ H a = none) : ∀ {us : List U} {vs : List V}, RpA K fa t m n H us vs → RpA K fa t' m n H us vs
  | _, _, .nil => .nil
  | _, _, .cons h r => .cons (Rp.tt ht h) (RpA.tt ht r)
end
theorem Ex.of_keep (k : ∀ a o, H a = some o → H' a = some o) : Ex m H m H' := ⟨⟨[], by simp⟩, fun a o h _ => k a o h, fun a h n => absurd h n⟩

/-- as Ex, but the temporaries may change, too -/
structure ExT (t m : List Addr) (H : Hp) (m' : List Addr) (H' : Hp) : Prop where
  pre : ∃ r, m' = m ++ r
  keep : ∀ a o, H a = some o → a ∉ m → a ∉ t → H' a = some o
  new : ∀ a, a ∈ m' → a ∉ m → H a = none
theorem Ex.toT (e : Ex m H m' H') : ExT t m H m' H' := ⟨e.pre, fun a o h n _ => e.keep a o h n, e.new⟩
theorem ExT.refl : ExT t m H m H := (Ex.refl m H).toT
theorem ExT.mono (e : ExT t m H m' H') (h : ∀ a ∈ t, a ∈ t') : ExT t' m H m' H' := ⟨e.pre, fun a o q n z => e.keep a o q n fun w => z (h a w), e.new⟩
theorem ExT.nin (e : ExT t m H m' H') {a : Addr} {o : HO} (h : H a = some o) (n : a ∉ m) : a ∉ m' := fun z => by
  have q := e.new a z n; rw [h] at q; cases q
theorem ExT.at_ (e : ExT t m H m' H') {i : Nat} {a : Addr} (h : m[i]? = some a) : m'[i]? = some a := by
  obtain ⟨r, rfl⟩ := e.pre
  have hi : i < m.length := (List.getElem?_eq_some_iff.mp h).1
  rw [List.getElem?_append_left hi]; exact h
theorem ExT.len (e : ExT t m H m' H') : m.length ≤ m'.length := by
  obtain ⟨r, rfl⟩ := e.pre; simp
theorem FT.exT (e : ExT t m H m' H') {a vs} (h : FT t m H a vs) : FT t m' H' a vs := ⟨e.keep _ _ h.1 h.2.1 h.2.2, e.nin h.1 h.2.1, h.2.2⟩
theorem FL.exT (e : ExT t m H m' H') {a vs} (h : FL t m H a vs) : FL t m' H' a vs := ⟨e.keep _ _ h.1 h.2.1 h.2.2, e.nin h.1 h.2.1, h.2.2⟩
theorem FS.exT (e : ExT t m H m' H') {a vs} (h : FS K t m H a vs) : FS K t m' H' a vs := h.elim (fun q => by
  rcases q.1 with z | ⟨ob, z⟩
  · exact .inl ⟨.inl (e.keep _ _ z q.2.1 q.2.2), e.nin z q.2.1, q.2.2⟩
  · exact .inl ⟨.inr ⟨ob, e.keep _ _ z q.2.1 q.2.2⟩, e.nin z q.2.1, q.2.2⟩) .inr
mutual
theorem Rp.exT (e : ExT t m H m' H') (hn : n ≤ n') : ∀ {u : U} {v : V}, Rp K fa t m n H u v → Rp K fa t m' n' H' u v
  | _, _, .non => .non
  | _, _, .bl b => .bl b
  | _, _, .int i => .int i
  | _, _, .str x => .str x
  | _, _, .tup h r => .tup (h.exT e) (RpA.exT e hn r)
  | _, _, .lst h r => .lst (h.exT e) (RpA.exT e hn r)
  | _, _, .dK h n z r => .dK (e.keep _ _ h n z) (e.nin h n) z (RpA.exT e hn r)
  | _, _, .dT h n z r => .dT (e.keep _ _ h n z) (e.nin h n) z (RpA.exT e hn r)
  | _, _, .ob hi h => .ob (Nat.lt_of_lt_of_le hi hn) (e.at_ h)
  | _, _, .fn h => .fn h
  | _, _, .scr h => .scr (h.exT e)
theorem RpA.exT (e : ExT t m H m' H') (hn : n ≤ n') : ∀ {us : List U} {vs : List V}, RpA K fa t m n H us vs → RpA K fa t m' n' H' us vs
  | _, _, .nil => .nil
  | _, _, .cons h r => .cons (Rp.exT e hn h) (RpA.exT e hn r)
end
/-- later, with other temporaries -/
theorem Rp.turn {u : U} {v : V} (r : Rp K fa t m m.length H u v) (e : ExT t m H m' H') (ht : ∀ a ∈ t', a ∈ t ∨ H a = none) : Rp K fa t' m' m'.length H' u v := by
  have r1 : Rp K fa (t ++ t') m m.length H u v := r.tt fun a h => (List.mem_append.mp h).elim .inl (ht a)
  have r2 : Rp K fa (t ++ t') m' m'.length H' u v := r1.exT (e.mono fun a h => List.mem_append_left _ h) e.len
  exact r2.tt fun a h => .inl (List.mem_append_right _ h)

/-- an iterator over known items -/
structure WkL (K : PySem.W.Frag) (fa : Nat → Option Addr) (t m : List Addr) (H : Hp) (J : It) (xs : List U) : Prop where
  go : ∀ i m' H', ExT t m H m' H' → i < xs.length → J.go i H'
  stop : ∀ i m' H', ExT t m H m' H' → xs.length ≤ i → J.stop i H'
  yld : ∀ i m' H' t' bs μ v H'', i < xs.length → ExT t m H m' H' → (∀ a ∈ t', a ∈ t ∨ H a = none) → Me K fa bs t' m' H' μ → J.yld i H' v H'' →
    ∃ u, xs[i]? = some u ∧ (∀ a o, H' a = some o → H'' a = some o) ∧ Rp K fa t' m' m'.length H'' u v
/-- the iterator over a mutable list, by its places or not -/
def ItV (K : PySem.W.Frag) (a : Addr) : Bool → It
  | false => Itl K a
  | true => Ite K a
theorem itv_go {a : Addr} {vs : List V} {v : V} {i : Nat} (en : Bool) (h : SqL K H a vs) (hv : vs[i]? = some v) : (ItV K a en).go i H := by
  cases en
  · exact ⟨vs, v, h, hv⟩
  · exact ⟨vs, v, h, hv⟩
theorem itv_stop {a : Addr} {vs : List V} {i : Nat} (en : Bool) (h : SqL K H a vs) (hv : vs.length ≤ i) : (ItV K a en).stop i H := by
  cases en
  · exact ⟨vs, h, hv⟩
  · exact ⟨vs, h, hv⟩
theorem itv_yld {a : Addr} {vs : List V} {v x : V} {u : U} {i : Nat} {H3 : Hp} (en : Bool) (y : (ItV K a en).yld i H x H3) (h : SqL K H a vs) (hv : vs[i]? = some v) (r : Rp K fa t m m.length H u v) (M : Me K fa bs t m H μ) :
    (∀ b o, H b = some o → H3 b = some o) ∧ Rp K fa t m m.length H3 (elm en i u) x := by
  cases en
  · obtain ⟨rfl, y⟩ := y
    have := y vs h
    rw [hv] at this
    cases this
    exact ⟨fun _ _ q => q, r⟩
  · obtain ⟨T, x', rfl, hT, rfl, y⟩ := y
    have := y vs h
    rw [hv] at this
    cases this
    obtain ⟨n1, n2⟩ := M.fresh hT
    exact ⟨fun b o q => by rw [upd_ne (ne_of_none q hT)]; exact q, .tup ⟨upd_same, n1, n2⟩ (.cons (.int _) (.one (r.ex' (Ex.upd hT))))⟩
def WkJ (K : PySem.W.Frag) (fa : Nat → Option Addr) (t m : List Addr) (H : Hp) (J : It) : List U ⊕ (Bool × Nat) → Prop
  | .inl xs => WkL K fa t m H J xs
  | .inr (en, i) => ∃ a, m[i]? = some a ∧ J = ItV K a en
def tI (K : PySem.W.Frag) (fa : Nat → Option Addr) (n0 : Nat) (ev : Env → Mu → Option (List U × Mu)) (ik : Ik) : TI := fun σV H R => ∃ t bs m σ μ us μ' w, bs.length = n0 ∧ EnvR K fa t m H σ σV ∧ Me K fa bs t m H μ ∧ ev σ μ = some (us, μ') ∧ walk μ' ik us = some w ∧
  ∀ m1 H1 J, Ex m H m1 H1 → Me K fa bs t m1 H1 μ' → WkJ K fa t m1 H1 J w → R J H1
end

section
variable {X : Cx} {fa : Nat → Option Addr} {cal : Nat → List U → Mu → Option (U × Mu)} {n0 : Nat}
variable {a b c : E} {xa xb xc : Expr} {pos : Pos}
/-! ### while -/
theorem s_wh {p : List S} {xp : List Stmt} (hp : PassesOwn (model X.prog X.w) X.A X.env X.xe) (hc : PTv X fa cal n0 xc c) (hb : PLv X fa cal n0 xp p) : PSv X fa cal n0 (.While xc xp [] pos) (.wh c p) :=
  (ps_while hp hc hb).imp fun D σV H q => by
    obtain ⟨t, bs, m0, σ0, μ0, o, hbl, he0, M0, ev, k⟩ := q
    simp only [exS] at ev
    generalize hcond : (fun (σ : Env) (μ : Mu) => match evalE cal n0 c σ μ with
      | some (u, μ) => match truth μ u with
        | some t => some (t, μ)
        | none => none
      | none => none) = cond at ev
    generalize hbody : (fun (σ : Env) (μ : Mu) => exL cal n0 p σ μ) = body at ev
    refine ⟨fun f σV' H' => ∃ m σ μ, Ex m0 H m H' ∧ EnvR X.K fa t m H' σ σV' ∧ Me X.K fa bs t m H' μ ∧ whL cond body f σ μ = some o, ⟨FU, m0, σ0, μ0, Ex.refl _ _, he0, M0, ev⟩, ?_⟩
    rintro f σV1 H1 ⟨m1, σ1, μ1, x1, he1, M1, ev1⟩
    cases f with
    | zero => simp [whL] at ev1
    | succ g =>
      simp only [whL] at ev1
      split at ev1
      · rename_i μ2 e2
        rw [← hcond] at e2
        simp only at e2
        split at e2
        · rename_i u μ3 e3
          split at e2
          · rename_i d e4
            cases e2
            refine ⟨t, bs, m1, σ1, μ1, u, _, true, hbl, he1, M1, e3, e4, fun m2 H2 x2 M2 => ?_⟩
            simp only [↓reduceIte]
            refine ⟨fun σV' H' => ∃ m σ μ, Ex m0 H m H' ∧ EnvR X.K fa t m H' σ σV' ∧ Me X.K fa bs t m H' μ ∧ whL cond body g σ μ = some o, fun σV' H' w => ⟨g, Nat.lt_succ_self g, w⟩, ?_⟩
            have x12 := x1.trans x2
            split at ev1
            · rename_i σ4 μ4 e5
              rw [← hbody] at e5
              exact ⟨t, bs, m2, σ1, _, _, hbl, he1.ex x2, M2, e5, fun m3 H3 σV3 x3 M3 he3 => ⟨m3, σ4, μ4, x12.trans x3, he3, M3, ev1⟩⟩
            · rename_i σ4 μ4 e5
              rw [← hbody] at e5
              exact ⟨t, bs, m2, σ1, _, _, hbl, he1.ex x2, M2, e5, fun m3 H3 σV3 x3 M3 he3 => ⟨m3, σ4, μ4, x12.trans x3, he3, M3, ev1⟩⟩
            · rename_i σ4 μ4 e5
              cases ev1
              rw [← hbody] at e5
              exact ⟨t, bs, m2, σ1, _, _, hbl, he1.ex x2, M2, e5, fun m3 H3 σV3 x3 M3 he3 => k m3 H3 σV3 (x12.trans x3) M3 he3⟩
            · rename_i o1 h1 h2 h3
              rw [← hbody] at ev1
              refine ⟨t, bs, m2, σ1, _, o, hbl, he1.ex x2, M2, ev1, ?_⟩
              rw [← hbody] at h1 h2 h3
              cases o with
              | nx σ μ => exact absurd ev1 (h1 σ μ)
              | ct σ μ => exact absurd ev1 (h2 σ μ)
              | bk σ μ => exact absurd ev1 (h3 σ μ)
              | rt u μ => exact Kn.ex (show Kn X.K fa bs t m0 H u μ D.rt from k) x12
          · cases e2
        · cases e2
      · rename_i μ2 e2
        rw [← hcond] at e2
        simp only at e2
        split at e2
        · rename_i u μ3 e3
          split at e2
          · rename_i d e4
            cases e2
            cases ev1
            refine ⟨t, bs, m1, σ1, μ1, u, _, false, hbl, he1, M1, e3, e4, fun m2 H2 x2 M2 => ?_⟩
            simp only [↓reduceIte, Bool.false_eq_true]
            exact k m2 H2 σV1 (x1.trans x2) M2 (he1.ex x2)
          · cases e2
        · cases e2
      · cases ev1

/-! ### for -/
theorem okh_fold {e : Expr} {env : PySem.Env} (h : okh e = true) (x : Value) : foldedSetIterable e env x = pure x := by
  cases e <;> first | rfl | cases h
theorem s_for {p : Pt} {ik : Ik} {its : List E} {tg iter : Expr} {body : List Stmt} {bd : List S} (hp : PassesOwn (model X.prog X.w) X.A X.env X.xe) (hc : X.calm = true) (hi : PI X tg iter (tI X.K fa n0 (evalL cal n0 its) ik)) (hg : PG X tg (tGp X.K fa p)) (hb : PLv X fa cal n0 body bd) (hk : okh iter = true) :
    PSv X fa cal n0 (.For tg iter body [] pos) (.for_ p ik its bd) :=
  (ps_for hp hc hi hg hb (okh_fold hk)).imp fun D σV H q => by
    obtain ⟨t, bs, m0, σ0, μ0, o, hbl, he0, M0, ev, k⟩ := q
    simp only [exS] at ev
    split at ev
    · rename_i us μ1 e1
      generalize hstep : (fun (x : U) (σ : Env) (μ : Mu) => match bindP μ p x σ with
        | some σ => exL cal n0 bd σ μ
        | none => none) = step at ev
      split at ev
      · rename_i xs e2
        refine ⟨t, bs, m0, σ0, μ0, us, μ1, .inl xs, hbl, he0, M0, e1, e2, fun m1 H1 J x1 M1 wk => ?_⟩
        have wk : WkL X.K fa t m1 H1 J xs := wk
        refine ⟨fun i mm σV' H' => mm = xs.length - i ∧ i ≤ xs.length ∧ ∃ m σ μ, Ex m1 H1 m H' ∧ EnvR X.K fa t m H' σ σV' ∧ Me X.K fa bs t m H' μ ∧ forL step (xs.drop i) σ μ = some o, ⟨xs.length, by simp, Nat.zero_le _, m1, σ0, μ1, Ex.refl _ _, he0.ex x1, M1, by simpa using ev⟩, ?_⟩
        rintro i mm σV2 H2 ⟨rfl, hle, m2, σ2, μ2, x2, he2, M2, ev2⟩
        by_cases hlt : i < xs.length
        · refine .inr ⟨wk.go i m2 H2 x2.toT hlt, fun σV' H' => i + 1 ≤ xs.length ∧ ∃ m σ μ, Ex m1 H1 m H' ∧ EnvR X.K fa t m H' σ σV' ∧ Me X.K fa bs t m H' μ ∧ forL step (xs.drop (i + 1)) σ μ = some o, fun σV' H' w => ⟨xs.length - (i + 1), by omega, rfl, w.1, w.2⟩, fun x H3 y => ?_⟩
          obtain ⟨u, hu, kp, r⟩ := wk.yld i m2 H2 t bs μ2 x H3 hlt x2.toT (fun a h => .inl h) M2 y
          have x3 : Ex m2 H2 m2 H3 := Ex.of_keep kp
          have hd : xs.drop i = u :: xs.drop (i + 1) := by
            rw [List.drop_eq_getElem_cons hlt]
            rw [List.getElem?_eq_getElem hlt] at hu
            cases hu; rfl
          rw [hd] at ev2
          simp only [forL] at ev2
          have bnd : ∀ o1, step u σ2 μ2 = some o1 → ∃ σ3, bindP μ2 p u σ2 = some σ3 ∧ exL cal n0 bd σ3 μ2 = some o1 := by
            intro o1 h
            rw [← hstep] at h
            simp only at h
            split at h
            · rename_i σ3 e; exact ⟨σ3, e, h⟩
            · cases h
          have M3 := M2.ext kp
          have x23 := x2.trans x3
          have run : ∀ o1, step u σ2 μ2 = some o1 → KnO X.K fa bs t m2 H3 o1 { D with nx := fun σV' H' => i + 1 ≤ xs.length ∧ ∃ m σ μ, Ex m1 H1 m H' ∧ EnvR X.K fa t m H' σ σV' ∧ Me X.K fa bs t m H' μ ∧ forL step (xs.drop (i + 1)) σ μ = some o, ct := fun σV' H' => i + 1 ≤ xs.length ∧ ∃ m σ μ, Ex m1 H1 m H' ∧ EnvR X.K fa t m H' σ σV' ∧ Me X.K fa bs t m H' μ ∧ forL step (xs.drop (i + 1)) σ μ = some o, bk := D.nx } →
              tGp X.K fa p x σV2 H3 fun σV3 H4 => tSv X.K fa n0 (exL cal n0 bd) { D with nx := fun σV' H' => i + 1 ≤ xs.length ∧ ∃ m σ μ, Ex m1 H1 m H' ∧ EnvR X.K fa t m H' σ σV' ∧ Me X.K fa bs t m H' μ ∧ forL step (xs.drop (i + 1)) σ μ = some o, ct := fun σV' H' => i + 1 ≤ xs.length ∧ ∃ m σ μ, Ex m1 H1 m H' ∧ EnvR X.K fa t m H' σ σV' ∧ Me X.K fa bs t m H' μ ∧ forL step (xs.drop (i + 1)) σ μ = some o, bk := D.nx } σV3 H4 := by
            intro o1 h ko
            obtain ⟨σ3, e3, e4⟩ := bnd o1 h
            exact ⟨t, bs, m2, μ2, σ2, u, σ3, he2.ex x3, M3, r, e3, fun σV3 he3 _ => ⟨t, bs, m2, σ3, μ2, o1, hbl, he3, M3, e4, ko⟩⟩
          split at ev2
          · rename_i σ4 μ4 e5
            exact run _ e5 fun m3 H4 σV3 x4 M4 he4 => ⟨hlt, m3, σ4, μ4, x23.trans x4, he4, M4, ev2⟩
          · rename_i σ4 μ4 e5
            exact run _ e5 fun m3 H4 σV3 x4 M4 he4 => ⟨hlt, m3, σ4, μ4, x23.trans x4, he4, M4, ev2⟩
          · rename_i σ4 μ4 e5
            cases ev2
            exact run _ e5 fun m3 H4 σV3 x4 M4 he4 => k m3 H4 σV3 (x1.trans (x23.trans x4)) M4 he4
          · rename_i o1 h1 h2 h3
            refine run _ ev2 ?_
            cases o with
            | nx σ μ => exact absurd ev2 (h1 σ μ)
            | ct σ μ => exact absurd ev2 (h2 σ μ)
            | bk σ μ => exact absurd ev2 (h3 σ μ)
            | rt u μ => exact Kn.ex (show Kn X.K fa bs t m0 H u μ D.rt from k) (x1.trans x23)
        · have e : i = xs.length := by omega
          subst e
          rw [List.drop_length] at ev2
          simp only [forL] at ev2
          cases ev2
          exact .inl ⟨wk.stop _ m2 H2 x2.toT (Nat.le_refl _), k m2 H2 σV2 (x1.trans x2) M2 he2⟩
      · rename_i en iob e2
        refine ⟨t, bs, m0, σ0, μ0, us, μ1, .inr (en, iob), hbl, he0, M0, e1, e2, fun m1 H1 J x1 M1 wk => ?_⟩
        obtain ⟨ad, had, rfl⟩ := (show ∃ a, m1[iob]? = some a ∧ J = ItV X.K a en from wk)
        refine ⟨fun i f σV' H' => ∃ m σ μ, Ex m1 H1 m H' ∧ EnvR X.K fa t m H' σ σV' ∧ Me X.K fa bs t m H' μ ∧ forV en step iob f i σ μ = some o, ⟨FU, m1, σ0, μ1, Ex.refl _ _, he0.ex x1, M1, ev⟩, ?_⟩
        rintro i f σV2 H2 ⟨m2, σ2, μ2, x2, he2, M2, ev2⟩
        cases f with
        | zero => simp [forV] at ev2
        | succ g =>
          simp only [forV] at ev2
          split at ev2
          · rename_i xs e3
            obtain ⟨ad', e4, hm2, c⟩ := M2.objF (v := .ref ad) (.ob (by have := (List.getElem?_eq_some_iff.mp (x2.at_ had)).1; exact this) (x2.at_ had)) e3
            cases e4
            cases c with
            | @lst vx _ hH rl =>
              have hS : SqL X.K H2 ad vx := SqL.of hH
              split at ev2
              · rename_i hnone
                cases ev2
                exact .inl ⟨itv_stop en hS (by rw [← rl.length]; exact List.getElem?_eq_none_iff.mp hnone), k m2 H2 σV2 (x1.trans x2) M2 he2⟩
              · rename_i u0 hu
                obtain ⟨v, hv, r0⟩ := rl.get hu
                refine .inr ⟨itv_go en hS hv, fun σV' H' => ∃ m σ μ, Ex m1 H1 m H' ∧ EnvR X.K fa t m H' σ σV' ∧ Me X.K fa bs t m H' μ ∧ forV en step iob g (i + 1) σ μ = some o, fun σV' H' w => ⟨g, Nat.lt_succ_self g, w⟩, fun x H3 y => ?_⟩
                obtain ⟨kp, r⟩ := itv_yld en y hS hv r0 M2
                have x3 : Ex m2 H2 m2 H3 := Ex.of_keep kp
                have M3 := M2.ext kp
                have x23 := x2.trans x3
                generalize elm en i u0 = u at r ev2
                have bnd : ∀ o1, step u σ2 μ2 = some o1 → ∃ σ3, bindP μ2 p u σ2 = some σ3 ∧ exL cal n0 bd σ3 μ2 = some o1 := by
                  intro o1 h
                  rw [← hstep] at h
                  simp only at h
                  split at h
                  · rename_i σ3 e; exact ⟨σ3, e, h⟩
                  · cases h
                have run : ∀ o1, step u σ2 μ2 = some o1 → KnO X.K fa bs t m2 H3 o1 { D with nx := fun σV' H' => ∃ m σ μ, Ex m1 H1 m H' ∧ EnvR X.K fa t m H' σ σV' ∧ Me X.K fa bs t m H' μ ∧ forV en step iob g (i + 1) σ μ = some o, ct := fun σV' H' => ∃ m σ μ, Ex m1 H1 m H' ∧ EnvR X.K fa t m H' σ σV' ∧ Me X.K fa bs t m H' μ ∧ forV en step iob g (i + 1) σ μ = some o, bk := D.nx } →
                    tGp X.K fa p x σV2 H3 fun σV3 H4 => tSv X.K fa n0 (exL cal n0 bd) { D with nx := fun σV' H' => ∃ m σ μ, Ex m1 H1 m H' ∧ EnvR X.K fa t m H' σ σV' ∧ Me X.K fa bs t m H' μ ∧ forV en step iob g (i + 1) σ μ = some o, ct := fun σV' H' => ∃ m σ μ, Ex m1 H1 m H' ∧ EnvR X.K fa t m H' σ σV' ∧ Me X.K fa bs t m H' μ ∧ forV en step iob g (i + 1) σ μ = some o, bk := D.nx } σV3 H4 := by
                  intro o1 h ko
                  obtain ⟨σ3, e5, e6⟩ := bnd o1 h
                  exact ⟨t, bs, m2, μ2, σ2, u, σ3, he2.ex x3, M3, r, e5, fun σV3 he3 _ => ⟨t, bs, m2, σ3, μ2, o1, hbl, he3, M3, e6, ko⟩⟩
                split at ev2
                · rename_i σ4 μ4 e5
                  exact run _ e5 fun m3 H4 σV3 x4 M4 he4 => ⟨m3, σ4, μ4, x23.trans x4, he4, M4, ev2⟩
                · rename_i σ4 μ4 e5
                  exact run _ e5 fun m3 H4 σV3 x4 M4 he4 => ⟨m3, σ4, μ4, x23.trans x4, he4, M4, ev2⟩
                · rename_i σ4 μ4 e5
                  cases ev2
                  exact run _ e5 fun m3 H4 σV3 x4 M4 he4 => k m3 H4 σV3 (x1.trans (x23.trans x4)) M4 he4
                · rename_i o1 h1 h2 h3
                  refine run _ ev2 ?_
                  cases o with
                  | nx σ μ => exact absurd ev2 (h1 σ μ)
                  | ct σ μ => exact absurd ev2 (h2 σ μ)
                  | bk σ μ => exact absurd ev2 (h3 σ μ)
                  | rt u μ => exact Kn.ex (show Kn X.K fa bs t m0 H u μ D.rt from k) (x1.trans x23)
          · cases ev2
      · cases ev
    · cases ev
end
end R

set_option Elab.async false
set_option linter.all false
set_option maxRecDepth 100000
set_option maxHeartbeats 4000000
/-! R3j: iterators; list comprehensions -/
namespace R
open PySem PySem.Spec PyProof.Rows L2

section
variable {K : PySem.W.Frag} {fa : Nat → Option Addr} {t t' m m' : List Addr} {n n' : Nat} {H H' : Hp} {bs : List Nat} {μ : Mu} {D : Addr}
theorem wk_list {a : Addr} {vs : List V} {xs : List U} (hS : ∀ m' H', ExT t m H m' H' → SqL K H' a vs) (ra : RpA K fa t m m.length H xs vs) : WkL K fa t m H (Itl K a) xs where
  go := fun i m' H' e hl => by
    have hl' : i < vs.length := by rw [← ra.length]; exact hl
    exact ⟨vs, vs[i], hS m' H' e, List.getElem?_eq_getElem hl'⟩
  stop := fun i m' H' e hl => ⟨vs, hS m' H' e, by rw [← ra.length]; exact hl⟩
  yld := fun i m' H' t' bs μ v H'' hl e ht M y => by
    obtain ⟨rfl, y⟩ := y
    obtain ⟨u, hu, r⟩ := ra.getV (y vs (hS m' _ e))
    exact ⟨u, hu, fun _ _ h => h, r.turn e ht⟩
theorem wk_tup {a : Addr} {vs : List V} {xs : List U} (f : FT t m H a vs) (ra : RpA K fa t m m.length H xs vs) : WkL K fa t m H (Itt K a) xs where
  go := fun i m' H' e hl => by
    have hl' : i < vs.length := by rw [← ra.length]; exact hl
    exact ⟨vs, vs[i], (f.exT e).sq, List.getElem?_eq_getElem hl'⟩
  stop := fun i m' H' e hl => ⟨vs, (f.exT e).sq, by rw [← ra.length]; exact hl⟩
  yld := fun i m' H' t' bs μ v H'' hl e ht M y => by
    obtain ⟨rfl, y⟩ := y
    obtain ⟨u, hu, r⟩ := ra.getV (y vs (f.exT e).sq)
    exact ⟨u, hu, fun _ _ h => h, r.turn e ht⟩
theorem wk_str {x : Str} : WkL K fa t m H (Its x) (x.cps.toList.map fun c => .str ⟨#[c]⟩) where
  go := fun i m' H' e hl => by simpa [Its] using hl
  stop := fun i m' H' e hl => by simpa [Its] using hl
  yld := fun i m' H' t' bs μ v H'' hl e ht M y => by
    obtain ⟨rfl, c, hc, rfl⟩ := y
    exact ⟨.str ⟨#[c]⟩, by simp [hc], fun _ _ h => h, .str _⟩
theorem rgn_len (lo hi : Int) : (rgn lo hi).length = (hi - lo).toNat := by simp [rgn]
theorem wk_rng {lo hi : Int} : WkL K fa t m H (Itr lo (hi - lo).toNat) (rgn lo hi) where
  go := fun i m' H' e hl => by rw [rgn_len] at hl; exact hl
  stop := fun i m' H' e hl => by rw [rgn_len] at hl; exact hl
  yld := fun i m' H' t' bs μ v H'' hl e ht M y => by
    obtain ⟨rfl, rfl⟩ := y
    rw [rgn_len] at hl
    exact ⟨.int (lo + i), by simp [rgn, hl], fun _ _ h => h, .int _⟩
theorem wk_enm {a : Addr} {vs : List V} {xs : List U} (f : FL t m H a vs) (ra : RpA K fa t m m.length H xs vs) : WkL K fa t m H (Ite K a) (enum xs) where
  go := fun i m' H' e hl => by
    have hl' : i < vs.length := by rw [← ra.length]; simpa [enum] using hl
    exact ⟨vs, vs[i], (f.exT e).sq, List.getElem?_eq_getElem hl'⟩
  stop := fun i m' H' e hl => ⟨vs, (f.exT e).sq, by rw [← ra.length]; simpa [enum] using hl⟩
  yld := fun i m' H' t' bs μ v H'' hl e ht M y => by
    obtain ⟨T, x, rfl, hT, rfl, y⟩ := y
    obtain ⟨u, hu, r⟩ := ra.getV (y vs (f.exT e).sq)
    have hl' : i < xs.length := by simpa [enum] using hl
    obtain ⟨n1, n2⟩ := M.fresh hT
    have r' : Rp K fa t' m' m'.length (upd H' T (.tup [.int (i : Nat), x])) u x := (r.turn e ht).ex' (Ex.upd hT)
    refine ⟨.tup [.int (i : Nat), u], ?_, fun b o h => by rw [upd_ne (ne_of_none h hT)]; exact h, .tup ⟨upd_same, n1, n2⟩ (.cons (.int _) (.one r'))⟩
    have hu' : xs[i] = u := by rw [List.getElem?_eq_getElem hl'] at hu; exact Option.some.inj hu
    simp [enum, List.getElem?_map, List.getElem?_zip_eq_some, hl', hu']
theorem wk_enmT {a : Addr} {vs : List V} {xs : List U} (f : FT t m H a vs) (ra : RpA K fa t m m.length H xs vs) : WkL K fa t m H (IteT K a) (enum xs) where
  go := fun i m' H' e hl => by
    have hl' : i < vs.length := by rw [← ra.length]; simpa [enum] using hl
    exact ⟨vs, vs[i], (f.exT e).sq, List.getElem?_eq_getElem hl'⟩
  stop := fun i m' H' e hl => ⟨vs, (f.exT e).sq, by rw [← ra.length]; simpa [enum] using hl⟩
  yld := fun i m' H' t' bs μ v H'' hl e ht M y => by
    obtain ⟨T, x, rfl, hT, rfl, y⟩ := y
    obtain ⟨u, hu, r⟩ := ra.getV (y vs (f.exT e).sq)
    have hl' : i < xs.length := by simpa [enum] using hl
    obtain ⟨n1, n2⟩ := M.fresh hT
    have r' : Rp K fa t' m' m'.length (upd H' T (.tup [.int (i : Nat), x])) u x := (r.turn e ht).ex' (Ex.upd hT)
    refine ⟨.tup [.int (i : Nat), u], ?_, fun b o h => by rw [upd_ne (ne_of_none h hT)]; exact h, .tup ⟨upd_same, n1, n2⟩ (.cons (.int _) (.one r'))⟩
    have hu' : xs[i] = u := by rw [List.getElem?_eq_getElem hl'] at hu; exact Option.some.inj hu
    simp [enum, List.getElem?_map, List.getElem?_zip_eq_some, hl', hu']
theorem wk_zipL {a b : Addr} {vs ws : List V} {xs ys : List U} (f : FL t m H a vs) (g : FL t m H b ws) (ra : RpA K fa t m m.length H xs vs) (rb : RpA K fa t m m.length H ys ws) : WkL K fa t m H (Itz K a b) (zips xs ys) where
  go := fun i m' H' e hl => by
    simp [zips] at hl
    have h1 : i < vs.length := by rw [← ra.length]; omega
    have h2 : i < ws.length := by rw [← rb.length]; omega
    exact ⟨vs, ws, vs[i], ws[i], (f.exT e).sq, (g.exT e).sq, List.getElem?_eq_getElem h1, List.getElem?_eq_getElem h2⟩
  stop := fun i m' H' e hl => ⟨vs, ws, (f.exT e).sq, (g.exT e).sq, by
    simp [zips] at hl
    rw [← ra.length, ← rb.length]; omega⟩
  yld := fun i m' H' t' bs μ v H'' hl e ht M y => by
    obtain ⟨T, x, z, rfl, hT, rfl, y1, y2⟩ := y
    obtain ⟨u, hu, r⟩ := ra.getV (y1 vs (f.exT e).sq)
    obtain ⟨w, hw, r2⟩ := rb.getV (y2 ws (g.exT e).sq)
    obtain ⟨n1, n2⟩ := M.fresh hT
    refine ⟨.tup [u, w], by simp [zips, List.getElem?_map, List.getElem?_zip_eq_some, hu, hw], fun b o h => by rw [upd_ne (ne_of_none h hT)]; exact h, .tup ⟨upd_same, n1, n2⟩ (.cons ((r.turn e ht).ex' (Ex.upd hT)) (.one ((r2.turn e ht).ex' (Ex.upd hT))))⟩
theorem wk_zipT {a b : Addr} {vs ws : List V} {xs ys : List U} (f : FT t m H a vs) (g : FT t m H b ws) (ra : RpA K fa t m m.length H xs vs) (rb : RpA K fa t m m.length H ys ws) : WkL K fa t m H (RZ.ItzT K a b) (zips xs ys) where
  go := fun i m' H' e hl => by
    simp [zips] at hl
    have h1 : i < vs.length := by rw [← ra.length]; omega
    have h2 : i < ws.length := by rw [← rb.length]; omega
    exact ⟨vs, ws, vs[i], ws[i], (f.exT e).sq, (g.exT e).sq, List.getElem?_eq_getElem h1, List.getElem?_eq_getElem h2⟩
  stop := fun i m' H' e hl => ⟨vs, ws, (f.exT e).sq, (g.exT e).sq, by
    simp [zips] at hl
    rw [← ra.length, ← rb.length]; omega⟩
  yld := fun i m' H' t' bs μ v H'' hl e ht M y => by
    obtain ⟨T, x, z, rfl, hT, rfl, y1, y2⟩ := y
    obtain ⟨u, hu, r⟩ := ra.getV (y1 vs (f.exT e).sq)
    obtain ⟨w, hw, r2⟩ := rb.getV (y2 ws (g.exT e).sq)
    obtain ⟨n1, n2⟩ := M.fresh hT
    refine ⟨.tup [u, w], by simp [zips, List.getElem?_map, List.getElem?_zip_eq_some, hu, hw], fun b o h => by rw [upd_ne (ne_of_none h hT)]; exact h, .tup ⟨upd_same, n1, n2⟩ (.cons ((r.turn e ht).ex' (Ex.upd hT)) (.one ((r2.turn e ht).ex' (Ex.upd hT))))⟩
end

section
variable {X : Cx} {fa : Nat → Option Addr} {cal : Nat → List U → Mu → Option (U × Mu)} {n0 : Nat}
variable {a b c : E} {xa xb xc : Expr} {pos : Pos} {tg : Expr}
abbrev PIv (X : Cx) (fa : Nat → Option Addr) (cal : Nat → List U → Mu → Option (U × Mu)) (n0 : Nat) (tg iter : Expr) (ik : Ik) (its : List E) : Prop := PI X tg iter (tI X.K fa n0 (evalL cal n0 its) ik)
theorem evalL_one {σ : Env} {μ μ' : Mu} {us : List U} (h : evalL cal n0 [a] σ μ = some (us, μ')) : ∃ u, us = [u] ∧ evalE cal n0 a σ μ = some (u, μ') := by
  simp only [evalL] at h
  split at h
  · rename_i u μ1 e1
    cases h
    exact ⟨u, rfl, e1⟩
  · cases h
theorem i_ex (h : PEv X fa cal n0 xa a) : PIv X fa cal n0 tg xa .ex [a] := by
  refine ⟨fun pins s σV H R I q => ?_⟩
  obtain ⟨t, bs, m, σ, μ, us, μ', w, hb, he, M, ev, wk, k⟩ := q
  obtain ⟨u, rfl, e1⟩ := evalL_one ev
  cases u with
  | tup xs =>
    cases wk
    refine (pi_tup h).run pins s σV H R I ?_
    refine seq1 hb he M e1 fun m1 H1 v1 x1 M1 r1 => ?_
    cases r1 with
    | tup f ra => exact ⟨_, rfl, ⟨_, f.sq⟩, k m1 H1 _ x1 M1 (wk_tup f ra)⟩
  | lst xs =>
    cases wk
    refine (pi_list h).run pins s σV H R I ?_
    refine seq1 hb he M e1 fun m1 H1 v1 x1 M1 r1 => ?_
    cases r1 with
    | lst f ra => exact ⟨_, rfl, ⟨_, f.sq⟩, k m1 H1 _ x1 M1 (wk_list (fun m' H' e => (f.exT e).sq) ra)⟩
  | scr ns =>
    cases wk
    refine (pi_list h).run pins s σV H R I ?_
    refine seq1 hb he M e1 fun m1 H1 v1 x1 M1 r1 => ?_
    cases r1 with
    | scr f => exact ⟨_, rfl, ⟨_, f.sq⟩, k m1 H1 _ x1 M1 (wk_list (fun m' H' e => (f.exT e).sq) (RpA.ints ns))⟩
  | ob i =>
    simp only [walk] at wk
    split at wk
    · rename_i xs e2
      cases wk
      refine (pi_list h).run pins s σV H R I ?_
      refine seq1 hb he M e1 fun m1 H1 v1 x1 M1 r1 => ?_
      obtain ⟨p, rfl, hp, c⟩ := M1.objF r1 e2
      cases c with
      | lst hH ra => exact ⟨_, rfl, ⟨_, SqL.of hH⟩, k m1 H1 _ x1 M1 ⟨p, hp, rfl⟩⟩
    · cases wk
  | str x =>
    cases wk
    refine (pi_str h).run pins s σV H R I ?_
    refine seq1 hb he M e1 fun m1 H1 v1 x1 M1 r1 => ?_
    cases r1
    exact ⟨x, rfl, k m1 H1 _ x1 M1 wk_str⟩
  | _ => cases wk
theorem evalL_len {σ : Env} : ∀ {es : List E} {μ μ' : Mu} {us : List U}, evalL cal n0 es σ μ = some (us, μ') → us.length = es.length
  | [], _, _, _, h => by simp only [evalL] at h; cases h; rfl
  | e :: es, _, _, _, h => by
    simp only [evalL] at h
    split at h
    · split at h
      · rename_i e2
        cases h
        simp [evalL_len e2]
      · cases h
    · cases h
theorem i_rng1 {p : Pos} (hg : Gl X "range") (hm : X.mg "range" = none) (h : PEv X fa cal n0 xa a) (hk : okh xa = true) : PIv X fa cal n0 tg (.Call (.Name "range" p) [xa] [] pos) .rng [a] := by
  refine ⟨fun pins s σV H R I q => ?_⟩
  refine (pi_range1 (tg := tg) (p := p) (pos := pos) hg hm (a_cons h a_nil hk) (okh_star hk)).run pins s σV H R I ?_
  obtain ⟨t, bs, m, σ, μ, us, μ', w, hb, he, M, ev, wk, k⟩ := q
  obtain ⟨u, rfl, e1⟩ := evalL_one ev
  refine ⟨t, bs, m, σ, μ, _, μ', hb, he, M, ev, fun m1 H1 vs x1 M1 ra => ?_⟩
  obtain ⟨v, rfl, r⟩ := rpa1 ra
  cases u with
  | int j =>
    simp only [walk] at wk
    split at wk
    · rename_i hj
      cases wk
      cases r
      refine ⟨j, rfl, hj.1, hj.2, ?_⟩
      have := k m1 H1 (Itr 0 (j - 0).toNat) x1 M1 wk_rng
      simpa using this
    · cases wk
  | _ => simp [walk] at wk
theorem i_rng2 {p : Pos} (hg : Gl X "range") (hm : X.mg "range" = none) (h : PEv X fa cal n0 xa a) (hb : PEv X fa cal n0 xb b) (hk : okh xa = true) (hkb : okh xb = true) : PIv X fa cal n0 tg (.Call (.Name "range" p) [xa, xb] [] pos) .rng [a, b] := by
  refine ⟨fun pins s σV H R I q => ?_⟩
  refine (pi_range2 (tg := tg) (p := p) (pos := pos) hg hm (a_cons h (a_cons hb a_nil hkb) hk) (by rw [okh_star hk, okh_star hkb] <;> rfl) (okh_star hkb)).run pins s σV H R I ?_
  obtain ⟨t, bs, m, σ, μ, us, μ', w, hb, he, M, ev, wk, k⟩ := q
  refine ⟨t, bs, m, σ, μ, _, μ', hb, he, M, ev, fun m1 H1 vs x1 M1 ra => ?_⟩
  match us, wk, ra with
  | [.int i, .int j], wk, ra =>
    obtain ⟨v, z, rfl, r, r2⟩ := rpa2 ra
    simp only [walk] at wk
    split at wk
    · rename_i hj
      cases wk
      cases r
      cases r2
      exact ⟨i, j, rfl, hj, k m1 H1 (Itr i (j - i).toNat) x1 M1 wk_rng⟩
    · cases wk
  | [.int j], wk, ra =>
    have := evalL_len ev
    simp at this
theorem i_enm {p tpos : Pos} {elts : List Expr} {kk : Nat} (hg : Gl X "enumerate") (hm : X.mg "enumerate" = none) (h : PEv X fa cal n0 xa a) (hk : okh xa = true) : PIv X fa cal n0 (.Tuple elts kk tpos) (.Call (.Name "enumerate" p) [xa] [] pos) .enm [a] := by
  refine ⟨fun pins s σV H R I q => ?_⟩
  refine (pi_enumA (tpos := tpos) (elts := elts) (kk := kk) (p := p) (pos := pos) hg hm (a_cons h a_nil hk) (okh_star hk)).run pins s σV H R I ?_
  obtain ⟨t, bs, m, σ, μ, us, μ', w, hb, he, M, ev, wk, k⟩ := q
  obtain ⟨u, rfl, e1⟩ := evalL_one ev
  refine ⟨t, bs, m, σ, μ, _, μ', hb, he, M, ev, fun m1 H1 vs x1 M1 ra => ?_⟩
  obtain ⟨v, rfl, r⟩ := rpa1 ra
  cases u with
  | lst xs =>
    simp only [walk] at wk
    cases wk
    cases r with
    | lst f ra2 => exact ⟨_, _, rfl, .inl ⟨f.sq, k m1 H1 _ x1 M1 (wk_enm f ra2)⟩⟩
  | tup xs =>
    simp only [walk] at wk
    cases wk
    cases r with
    | tup f ra2 => exact ⟨_, _, rfl, .inr ⟨f.sq, k m1 H1 _ x1 M1 (wk_enmT f ra2)⟩⟩
  | ob i =>
    simp only [walk] at wk
    split at wk
    · rename_i zs e
      cases wk
      cases r with
      | ob hi ha =>
        obtain ⟨ad', e5, hm2, cc⟩ := M1.objF (.ob hi ha) e
        cases e5
        cases cc with
        | @lst vx _ hH rl => exact ⟨_, _, rfl, .inl ⟨SqL.of hH, k m1 H1 _ x1 M1 ⟨_, ha, rfl⟩⟩⟩
    · cases wk
  | _ => simp [walk] at wk
theorem i_zip {p tpos : Pos} {elts : List Expr} {kk : Nat} (hg : Gl X "zip") (hm : X.mg "zip" = none) (h : PEv X fa cal n0 xa a) (hb : PEv X fa cal n0 xb b) (hk : okh xa = true) (hkb : okh xb = true) : PIv X fa cal n0 (.Tuple elts kk tpos) (.Call (.Name "zip" p) [xa, xb] [] pos) .zip [a, b] := by
  refine ⟨fun pins s σV H R I q => ?_⟩
  refine (RZ.pi_zipA (tpos := tpos) (elts := elts) (kk := kk) (p := p) (pos := pos) hg hm (a_cons h (a_cons hb a_nil hkb) hk) (okh_star hk) (okh_back (es := [xb]) (by simp [hkb]))).run pins s σV H R I ?_
  obtain ⟨t, bs, m, σ, μ, us, μ', w, hb, he, M, ev, wk, k⟩ := q
  refine ⟨t, bs, m, σ, μ, _, μ', hb, he, M, ev, fun m1 H1 vs x1 M1 ra => ?_⟩
  match us, wk, ra with
  | [.lst xs, .lst ys], wk, ra =>
    obtain ⟨v, z, rfl, r, r2⟩ := rpa2 ra
    simp only [walk] at wk
    cases wk
    cases r with
    | lst f ra2 =>
      cases r2 with
      | lst g rb => exact ⟨_, _, _, _, rfl, .inl ⟨f.sq, g.sq, k m1 H1 _ x1 M1 (wk_zipL f g ra2 rb)⟩⟩
  | [.tup xs, .tup ys], wk, ra =>
    obtain ⟨v, z, rfl, r, r2⟩ := rpa2 ra
    simp only [walk] at wk
    cases wk
    cases r with
    | tup f ra2 =>
      cases r2 with
      | tup g rb => exact ⟨_, _, _, _, rfl, .inr ⟨f.sq, g.sq, k m1 H1 _ x1 M1 (wk_zipT f g ra2 rb)⟩⟩

/-! ### list comprehensions -/
theorem _root_.L2.PTs.imp {X : Cx} {e : List Expr} {t t' : TT} (h : PTs X e t) (hi : ∀ σ H Q, t' σ H Q → t σ H Q) : PTs X e t' := ⟨fun pins s σ H Q I q => h.run pins s σ H Q I (hi _ _ _ q)⟩
theorem pts_yes : PTs X [] (tT X.K fa n0 (evalE cal n0 (.bl true))) := pts_nil.imp fun σV H Q q => by
  obtain ⟨t, bs, m, σ, μ, u, μ', b, hb, he, M, ev, tr, k⟩ := q
  simp only [evalE] at ev
  cases ev
  cases tr
  exact k m H (Ex.refl _ _) M
theorem lc_rd {p : Pt} {ik : Ik} {its : List E} {al : Bool} {ws : List Nat} {K : PySem.W.Frag} (hws : ∀ i ∈ ptSlots p, i ∈ ws) {σV : L2.St} {H : Hp} {Q : VK} (q : tE K fa n0 (evalE cal n0 (.comp al p ik its c b ws)) σV H Q) :
    tLc (tI K fa n0 (evalL cal n0 its) ik) (tGp K fa p) (tT K fa n0 (evalE cal n0 c)) (tE K fa n0 (evalE cal n0 b)) ws σV H Q := by
  obtain ⟨t, bs, m0, σ0, μ0, u0, μ', hbl, he0, M0, ev, k⟩ := q
  have hl := sz_line
  simp only [evalE] at ev
  split at ev
  · rename_i us μ1 e1
    generalize hstep : (fun (x : U) (μ : Mu) => match bindP μ p x (wipeE σ0 ws) with
      | some σ' => match evalE cal n0 c σ' μ with
        | some (t, μ) => match truth μ t with
          | some true => match evalE cal n0 b σ' μ with
            | some (y, μ) => some (some y, μ)
            | none => none
          | some false => some (none, μ)
          | none => none
        | none => none
      | none => none) = step at ev
    -- a turn
    have turn : ∀ {t' m2 : List Addr} {H2 H3 : Hp} {μ2 μ3 : Mu} {x : U} {v : V} {oy : Option U} {R : L2.St → Hp → Prop} {Ny : V → Hp → Prop} {Nn : Hp → Prop}, step x μ2 = some (oy, μ3) → EnvR K fa t' m2 H2 σ0 σV → Me K fa bs t' m2 H2 μ2 → (∀ a o, H2 a = some o → H3 a = some o) → Rp K fa t' m2 m2.length H3 x v →
        (∀ y, oy = some y → ∀ m4 H4 w, Ex m2 H3 m4 H4 → Me K fa bs t' m4 H4 μ3 → Rp K fa t' m4 m4.length H4 y w → Ny w H4) → (oy = none → ∀ m4 H4, Ex m2 H3 m4 H4 → Me K fa bs t' m4 H4 μ3 → Nn H4) →
        tGp K fa p v (L2.wipe σV ws) H3 fun σ2 H2 => L2.wipe σ2 ws = L2.wipe σV ws ∧ tT K fa n0 (evalE cal n0 c) σ2 H2 fun b1 H3 => if b1 = true then tE K fa n0 (evalE cal n0 b) σ2 H3 fun y H4 => Ny y H4 else Nn H3 := by
      intro t' m2 H2 H3 μ2 μ3 x v oy R Ny Nn hs he M kp r hy hn
      rw [← hstep] at hs
      simp only at hs
      have x3 : Ex m2 H2 m2 H3 := Ex.of_keep kp
      split at hs
      · rename_i σ' eb
        refine ⟨t', bs, m2, μ2, wipeE σ0 ws, x, σ', (he.wipe ws).ex x3, M.ext kp, r, eb, fun σV2 he2 s2 => ⟨by rw [s2 ws hws, wipe_wipe], ?_⟩⟩
        split at hs
        · rename_i tv μ4 ec
          split at hs
          · rename_i et
            refine ⟨t', bs, m2, σ', μ2, tv, μ4, true, hbl, he2, M.ext kp, ec, et, fun m4 H4 x4 M4 => ?_⟩
            simp only [↓reduceIte]
            split at hs
            · rename_i y μ5 ey
              cases hs
              exact ⟨t', bs, m4, σ', μ4, y, _, hbl, he2.ex x4, M4, ey, fun m5 H5 w x5 M5 rw' => hy y rfl m5 H5 w (x4.trans x5) M5 rw'⟩
            · cases hs
          · rename_i et
            cases hs
            refine ⟨t', bs, m2, σ', μ2, tv, _, false, hbl, he2, M.ext kp, ec, et, fun m4 H4 x4 M4 => ?_⟩
            simp only [↓reduceIte, Bool.false_eq_true]
            exact hn rfl m4 H4 x4 M4
          · cases hs
        · cases hs
      · cases hs
    split at ev
    · rename_i xs e2
      split at ev
      · rename_i ys μ9 e3
        obtain ⟨rfl, rfl⟩ := Prod.mk.inj (Option.some.inj ev)
        refine ⟨t, bs, m0, σ0, μ0, us, μ1, .inl xs, hbl, he0, M0, e1, e2, fun m1 H1 J x1 M1 wk D hD => ?_⟩
        have wk : WkL K fa t m1 H1 J xs := wk
        obtain ⟨Dm, Dt⟩ := M1.fresh hD
        have he1 := he0.ex x1
        refine ⟨fun i mm H' => mm = xs.length - i ∧ i ≤ xs.length ∧ ∃ m μ acc vacc, Ex m1 H1 m H' ∧ Me K fa bs (D :: t) m H' μ ∧ H' D = some (.lst vacc) ∧ RpA K fa (D :: t) m m.length H' acc vacc ∧ compL step (xs.drop i) acc μ = some (ys, μ9),
          ⟨xs.length, by simp, Nat.zero_le _, m1, μ1, [], [], (Ex.refl _ _).tmp hD, M1.tn hD, upd_same, .nil, by simpa using e3⟩, ?_⟩
        rintro i mm H2 ⟨rfl, hle, m2, μ2, acc, vacc, x2, M2, hDv, ra, ev2⟩
        by_cases hlt : i < xs.length
        · refine .inr ⟨wk.go i m2 H2 x2.toT hlt, fun H' => i + 1 ≤ xs.length ∧ ∃ m μ acc vacc, Ex m1 H1 m H' ∧ Me K fa bs (D :: t) m H' μ ∧ H' D = some (.lst vacc) ∧ RpA K fa (D :: t) m m.length H' acc vacc ∧ compL step (xs.drop (i + 1)) acc μ = some (ys, μ9), fun H' w => ⟨xs.length - (i + 1), by omega, rfl, w.1, w.2⟩, fun x H3 y => ?_⟩
          obtain ⟨u, hu, kp, r⟩ := wk.yld i m2 H2 (D :: t) bs μ2 x H3 hlt x2.toT (fun a h => (List.mem_cons.mp h).elim (fun z => .inr (by rw [z]; exact hD)) .inl) M2 y
          have hd : xs.drop i = u :: xs.drop (i + 1) := by
            rw [List.drop_eq_getElem_cons hlt]
            rw [List.getElem?_eq_getElem hlt] at hu
            cases hu; rfl
          rw [hd] at ev2
          simp only [compL] at ev2
          have x3 : Ex m2 H2 m2 H3 := Ex.of_keep kp
          have x23 := x2.trans x3
          have heD : EnvR K fa (D :: t) m2 H2 σ0 σV := ⟨he1.len, fun j w q => let ⟨v, a, b⟩ := he1.at_ j w q; ⟨v, a, (b.tn hD).ex' x2⟩⟩
          have D2 : D ∉ m2 := (M2.tt D (by simp)).1
          split at ev2
          · rename_i y' μ3 e4
            split at ev2
            · rename_i hz
              refine turn (R := fun _ _ => True) e4 heD M2 kp r (fun y0 hy m4 H4 w x4 M4 rw' => ?_) (fun z => by cases z)
              cases hy
              have hD4 : H4 D = some (.lst vacc) := x4.keep D _ (kp D _ hDv) D2
              refine ⟨vacc, hD4, by rw [← ra.length]; omega, hlt, m4, μ3, acc ++ [y'], vacc ++ [w], (x23.trans x4).tmp hD, M4.td (by simp), upd_same, ?_, ev2⟩
              exact (((ra.ex' x3).ex' x4).append (.one rw')).td (by simp)
            · cases ev2
          · rename_i μ3 e4
            refine turn (R := fun _ _ => True) e4 heD M2 kp r (fun y0 hy => by cases hy) (fun _ m4 H4 x4 M4 => ?_)
            have hD4 : H4 D = some (.lst vacc) := x4.keep D _ (kp D _ hDv) D2
            exact ⟨hlt, m4, μ3, acc, vacc, x23.trans x4, M4, hD4, (ra.ex' x3).ex' x4, ev2⟩
          · cases ev2
        · have e : i = xs.length := by omega
          subst e
          rw [List.drop_length] at ev2
          simp only [compL] at ev2
          obtain ⟨rfl, rfl⟩ := Prod.mk.inj (Option.some.inj ev2)
          exact .inl ⟨wk.stop _ m2 H2 x2.toT (Nat.le_refl _), (k.ex x1).tmpL hD Dt x2 M2 hDv ra⟩
      · cases ev
    · rename_i en iob e2
      split at ev
      · rename_i ys μ9 e3
        obtain ⟨rfl, rfl⟩ := Prod.mk.inj (Option.some.inj ev)
        refine ⟨t, bs, m0, σ0, μ0, us, μ1, .inr (en, iob), hbl, he0, M0, e1, e2, fun m1 H1 J x1 M1 wk D hD => ?_⟩
        obtain ⟨ad, had, rfl⟩ := (show ∃ a, m1[iob]? = some a ∧ J = ItV K a en from wk)
        obtain ⟨Dm, Dt⟩ := M1.fresh hD
        have he1 := he0.ex x1
        refine ⟨fun i f H' => ∃ m μ acc vacc, Ex m1 H1 m H' ∧ Me K fa bs (D :: t) m H' μ ∧ H' D = some (.lst vacc) ∧ RpA K fa (D :: t) m m.length H' acc vacc ∧ compV en step iob f i acc μ = some (ys, μ9),
          ⟨FU, m1, μ1, [], [], (Ex.refl _ _).tmp hD, M1.tn hD, upd_same, .nil, e3⟩, ?_⟩
        rintro i f H2 ⟨m2, μ2, acc, vacc, x2, M2, hDv, ra, ev2⟩
        cases f with
        | zero => simp [compV] at ev2
        | succ g =>
          simp only [compV] at ev2
          split at ev2
          · rename_i xs e4
            have hat := x2.at_ had
            obtain ⟨ad', e5, hm2, cc⟩ := M2.objF (v := .ref ad) (.ob (by have := (List.getElem?_eq_some_iff.mp hat).1; exact this) hat) e4
            cases e5
            cases cc with
            | @lst vx _ hH rl =>
              have hS : SqL K H2 ad vx := SqL.of hH
              split at ev2
              · rename_i hnone
                obtain ⟨rfl, rfl⟩ := Prod.mk.inj (Option.some.inj ev2)
                exact .inl ⟨itv_stop en hS (by rw [← rl.length]; exact List.getElem?_eq_none_iff.mp hnone), (k.ex x1).tmpL hD Dt x2 M2 hDv ra⟩
              · rename_i u0 hu
                obtain ⟨v, hv, r0⟩ := rl.get hu
                refine .inr ⟨itv_go en hS hv, fun H' => ∃ m μ acc vacc, Ex m1 H1 m H' ∧ Me K fa bs (D :: t) m H' μ ∧ H' D = some (.lst vacc) ∧ RpA K fa (D :: t) m m.length H' acc vacc ∧ compV en step iob g (i + 1) acc μ = some (ys, μ9), fun H' w => ⟨g, Nat.lt_succ_self g, w⟩, fun x H3 y => ?_⟩
                obtain ⟨kp, r⟩ := itv_yld en y hS hv r0 M2
                have x3 : Ex m2 H2 m2 H3 := Ex.of_keep kp
                have x23 := x2.trans x3
                generalize elm en i u0 = u at r ev2
                have heD : EnvR K fa (D :: t) m2 H2 σ0 σV := ⟨he1.len, fun j w q => let ⟨v, a, b⟩ := he1.at_ j w q; ⟨v, a, (b.tn hD).ex' x2⟩⟩
                have D2 : D ∉ m2 := (M2.tt D (by simp)).1
                split at ev2
                · rename_i y' μ3 e6
                  split at ev2
                  · rename_i hz
                    refine turn (R := fun _ _ => True) e6 heD M2 kp r (fun y0 hy m4 H4 w x4 M4 rw' => ?_) (fun z => by cases z)
                    cases hy
                    have hD4 : H4 D = some (.lst vacc) := x4.keep D _ (kp D _ hDv) D2
                    refine ⟨vacc, hD4, by rw [← ra.length]; omega, m4, μ3, acc ++ [y'], vacc ++ [w], (x23.trans x4).tmp hD, M4.td (by simp), upd_same, ?_, ev2⟩
                    exact (((ra.ex' x3).ex' x4).append (.one rw')).td (by simp)
                  · cases ev2
                · rename_i μ3 e6
                  refine turn (R := fun _ _ => True) e6 heD M2 kp r (fun y0 hy => by cases hy) (fun _ m4 H4 x4 M4 => ?_)
                  have hD4 : H4 D = some (.lst vacc) := x4.keep D _ (kp D _ hDv) D2
                  exact ⟨m4, μ3, acc, vacc, x23.trans x4, M4, hD4, (ra.ex' x3).ex' x4, ev2⟩
                · cases ev2
          · cases ev2
      · cases ev
    · cases ev
  · cases ev
theorem e_comp {p : Pt} {ik : Ik} {its : List E} {al : Bool} {elt iter : Expr} {ifs : List Expr} {scope : Scope} {own : List (Str × Nat)} (hc : X.calm = true) (hN : X.N.Nodup) (hi : PIv X fa cal n0 tg iter ik its) (ok : BlkOk X.N X.env.scope scope own)
    (hg : ∀ (s : Shared) (H : Hp) (C : Addr) (cl : List (Str × Addr)) (fp : List Addr), PG (X.blk s H scope (compEnvC scope cl C X.env) fp) tg (tGp X.K fa p))
    (ht : ∀ (s : Shared) (H : Hp) (C : Addr) (cl : List (Str × Addr)) (fp : List Addr), PTs (X.blk s H scope (compEnvC scope cl C X.env) fp) ifs (tT X.K fa n0 (evalE cal n0 c)))
    (he : ∀ (s : Shared) (H : Hp) (C : Addr) (cl : List (Str × Addr)) (fp : List Addr), PE (X.blk s H scope (compEnvC scope cl C X.env) fp) elt (tE X.K fa n0 (evalE cal n0 b))) (hk : okh iter = true) (hws : ∀ i ∈ ptSlots p, i ∈ own.map (·.2)) :
    PEv X fa cal n0 (.ListComp elt [⟨tg, iter, ifs, 0⟩] scope pos) (.comp al p ik its c b (own.map (·.2))) :=
  (pe_lc hc hN hi ok hg ht he (okh_fold hk)).imp fun σV H Q q => lc_rd hws q
theorem s_setLc {i : Nat} {y : Str} {py spos : Pos} {p : Pt} {ik : Ik} {its : List E} {al : Bool} {elt iter : Expr} {ifs : List Expr} {scope : Scope} {own : List (Str × Nat)} (hc : X.calm = true) (hN : X.N.Nodup) (hy : X.N[i]? = some y) (hyl : X.env.scope.names.lookup y = some .local)
    (hsw : swapsWith (.ListComp elt [⟨tg, iter, ifs, 0⟩] scope pos) (some (.Name y py)) spos.line X.env = pure true) (hi : PIv X fa cal n0 tg iter ik its) (ok : BlkOk X.N X.env.scope scope own)
    (hg : ∀ (s : Shared) (H : Hp) (C : Addr) (cl : List (Str × Addr)) (fp : List Addr), PG (X.blk s H scope (compEnvC scope cl C X.env) fp) tg (tGp X.K fa p))
    (ht : ∀ (s : Shared) (H : Hp) (C : Addr) (cl : List (Str × Addr)) (fp : List Addr), PTs (X.blk s H scope (compEnvC scope cl C X.env) fp) ifs (tT X.K fa n0 (evalE cal n0 c)))
    (he : ∀ (s : Shared) (H : Hp) (C : Addr) (cl : List (Str × Addr)) (fp : List Addr), PE (X.blk s H scope (compEnvC scope cl C X.env) fp) elt (tE X.K fa n0 (evalE cal n0 b))) (hk : okh iter = true) (hws : ∀ i ∈ ptSlots p, i ∈ own.map (·.2)) :
    PSv X fa cal n0 (.Assign [.Name y py] (.ListComp elt [⟨tg, iter, ifs, 0⟩] scope pos) spos) (.set i (.comp al p ik its c b (own.map (·.2)))) :=
  (ps_setLc hc hN hy hyl hsw hi ok hg ht he (okh_fold hk)).imp fun D σV H q => by
    obtain ⟨t, bs, m, σ, μ, o, hb, he, M, ev, k⟩ := q
    simp only [exS] at ev
    split at ev
    · rename_i u μ1 e1
      cases ev
      exact lc_rd hws (seq1 hb he M e1 fun m1 H1 v1 x1 M1 r1 => k m1 H1 _ x1 M1 ((he.ex x1).set r1))
    · cases ev
end
end R

set_option Elab.async false
set_option linter.all false
set_option maxRecDepth 100000
set_option maxHeartbeats 4000000
/-! R3k: list(..), tuple(..), dict(..), sorted(..) -/
namespace R
open PySem PySem.Spec PyProof.Rows L2

mutual
theorem reads_there {h : Heap} : ∀ {v : Value} {d : PyData} {as : List Addr}, Reads h v d as → ∀ a ∈ as, ∃ o, h.get? a = some o
  | _, _, _, .none, a, m => by cases m
  | _, _, _, .bool b, a, m => by cases m
  | _, _, _, .int i t, a, m => by cases m
  | _, _, _, .str x t, a, m => by cases m
  | _, _, _, .list h1 h2 h3 h4, a, m => by
    rcases List.mem_cons.mp m with m | m
    · subst m; exact ⟨_, h1⟩
    · exact reads_thereA h4 a m
  | _, _, _, .tuple h1 h2 h3 h4, a, m => reads_thereA h4 a m
  | _, _, _, .dict h1 h2 h3 h4 h5, a, m => by
    rcases List.mem_append.mp m with m | m
    · rcases List.mem_cons.mp m with m | m
      · subst m; exact ⟨_, h1⟩
      · exact reads_thereA h4 a m
    · exact reads_thereA h5 a m
theorem reads_thereA {h : Heap} : ∀ {vs : List Value} {ds : List PyData} {as : List Addr}, ReadsAll h vs ds as → ∀ a ∈ as, ∃ o, h.get? a = some o
  | _, _, _, .nil, a, m => by cases m
  | _, _, _, .cons h1 h2, a, m => by
    rcases List.mem_append.mp m with m | m
    · exact reads_there h1 a m
    · exact reads_thereA h2 a m
end

section
variable {X : Cx} {fa : Nat → Option Addr}
def colF (al : Bool) (c : Cl) : Mu → List U → Option (U × Mu) := fun μ us => match items μ c .ex us with
  | some xs => evCol al μ c xs
  | none => none
theorem colF_some {al : Bool} {c : Cl} {μ μ' : Mu} {us : List U} {u : U} (h : colF al c μ us = some (u, μ')) : ∃ a xs, us = [a] ∧ items μ c .ex [a] = some xs ∧ evCol al μ c xs = some (u, μ') := by
  unfold colF at h
  split at h
  · rename_i xs e
    match us, e with
    | [a], e => exact ⟨a, xs, rfl, e, h⟩
    | [], e => cases c <;> simp [items] at e
    | _ :: _ :: _, e => cases c <;> simp [items] at e
  · cases h
theorem keyU_ok {K : PySem.W.Frag} {t m : List Addr} {n : Nat} {H : Hp} (k : Key) : Rp K fa t m n H (keyU k) (kV k) := by
  cases k with
  | inl i => exact .int i
  | inr x => exact .str x
theorem keysA_ok {K : PySem.W.Frag} {t m : List Addr} {n : Nat} {H : Hp} : ∀ (ks : List Key), RpA K fa t m n H (ks.map keyU) (ks.map kV)
  | [] => .nil
  | k :: ks => .cons (keyU_ok k) (keysA_ok ks)
theorem keysU_ok {K : PySem.W.Frag} {t m : List Addr} {n : Nat} {H : Hp} {bs : List Nat} {μ : Mu} (M : Me K fa bs t m H μ) : ∀ {kvs : List (List Key × V)} {ps : List Addr}, IsKeys H kvs ps → RpA K fa t m n H ((kvs.map (·.1)).map keysU) (ps.map V.ref)
  | [], _, .nil => .nil
  | kv :: kvs, _, .cons h r => .cons (.tup (M.tupN h) (keysA_ok _)) (keysU_ok M r)
/-- what list(u), sorted(u) walk -/
theorem items_ok {K : PySem.W.Frag} {t m : List Addr} {H : Hp} {bs : List Nat} {μ : Mu} {u : U} {v : V} {xs : List U} (M : Me K fa bs t m H μ) (r : Rp K fa t m m.length H u v)
    (h : (match asS μ u with
      | some xs => some xs
      | none => match cont μ u with
        | some (.dk ks _) => some (ks.map keyU)
        | some (.dt ks _) => some (ks.map keysU)
        | _ => none) = some xs) :
    ∃ p, v = .ref p ∧ ((∃ vs, (SqL K H p vs ∨ SqT K H p vs) ∧ RpA K fa t m m.length H xs vs) ∨ (∃ kvs : List (Key × V), H p = some (.dK kvs) ∧ xs = (kvs.map (·.1)).map keyU) ∨ ∃ kvs : List (List Key × V), H p = some (.dT kvs) ∧ xs = (kvs.map (·.1)).map keysU) := by
  split at h
  · rename_i ys e
    cases h
    obtain ⟨p, vs, rfl, q, ra⟩ := asS_ok M r e
    exact ⟨p, rfl, .inl ⟨vs, q, ra⟩⟩
  · split at h
    · rename_i e
      cases h
      obtain ⟨p, kvs, rfl, hH, rfl, _⟩ := dk_at M r e
      exact ⟨p, rfl, .inr (.inl ⟨kvs, hH, rfl⟩)⟩
    · rename_i e
      cases h
      obtain ⟨p, kvs, rfl, hH, rfl, _⟩ := dt_at M r e
      exact ⟨p, rfl, .inr (.inr ⟨kvs, hH, rfl⟩)⟩
    · cases h
theorem listR (hc : X.calm = true) (al : Bool) : CallR X (.type "list") (rVs X.K fa (colF al .list)) := by
  intro pins s σ H xs us Q I rx h
  obtain ⟨t, bs, m, μ, as, u, μ', M, ra, h, k⟩ := h
  obtain ⟨a, ys, rfl, e1, e2⟩ := colF_some h
  obtain ⟨v, rfl, r⟩ := rpa1 ra
  simp only [evCol] at e2
  obtain ⟨rfl, rfl⟩ := Prod.mk.inj (Option.some.inj e2)
  by_cases hs : ∃ ns, a = .scr ns
  · obtain ⟨ns, rfl⟩ := hs
    simp only [items] at e1
    cases e1
    cases r with
    | scr f => exact call_list_of pins s σ H _ us Q I rx ⟨_, _, rfl, .inl f.sq, fun l hl => k.lst M hl (RpA.ints ns)⟩
  · have e1' : (match asS μ a with
      | some xs => some xs
      | none => match cont μ a with
        | some (.dk ks _) => some (ks.map keyU)
        | some (.dt ks _) => some (ks.map keysU)
        | _ => none) = some ys := by
      rw [← e1]
      cases a <;> first | rfl | exact absurd ⟨_, rfl⟩ hs
    obtain ⟨p, rfl, q⟩ := items_ok M r e1'
    rcases q with ⟨vs, q, ra⟩ | ⟨kvs, hH, rfl⟩ | ⟨kvs, hH, rfl⟩
    · exact call_list_of pins s σ H _ us Q I rx ⟨_, _, rfl, q, fun l hl => k.lst M hl ra⟩
    · refine call_list_dK hc pins s σ H _ us Q I rx ⟨p, kvs, rfl, hH, fun l hl => ?_⟩
      refine k.lst M hl ?_
      have := keysA_ok (fa := fa) (K := X.K) (t := t) (m := m) (n := m.length) (H := H) (kvs.map (·.1))
      simpa [List.map_map, Function.comp_def] using this
    · exact call_list_dT hc pins s σ H _ us Q I rx ⟨p, kvs, rfl, .inl hH, fun l ps hl hk => k.lst M hl (keysU_ok M hk)⟩
theorem tupleR (al : Bool) : CallR X (.type "tuple") (rVs X.K fa (colF al .tuple)) := by
  intro pins s σ H xs us Q I rx h
  obtain ⟨t, bs, m, μ, as, u, μ', M, ra, h, k⟩ := h
  obtain ⟨a, ys, rfl, e1, e2⟩ := colF_some h
  obtain ⟨v, rfl, r⟩ := rpa1 ra
  simp only [evCol] at e2
  obtain ⟨rfl, rfl⟩ := Prod.mk.inj (Option.some.inj e2)
  by_cases hs : ∃ ns, a = .scr ns
  · obtain ⟨ns, rfl⟩ := hs
    simp only [items] at e1
    cases e1
    cases r with
    | scr f => exact call_tuple_of pins s σ H _ us Q I rx ⟨_, _, rfl, .inl ⟨f.sq, fun l hl => k.tup M hl (RpA.ints ns)⟩⟩
  · have e1' : asS μ a = some ys := by
      rw [← e1]
      cases a <;> first | rfl | exact absurd ⟨_, rfl⟩ hs
    by_cases ht : ∃ zs, a = .tup zs
    · obtain ⟨zs, rfl⟩ := ht
      cases e1'
      cases r with
      | tup f rb => exact call_tuple_of pins s σ H _ us Q I rx ⟨_, _, rfl, .inr ⟨f.sq, k.here M (.tup f rb)⟩⟩
    · have e3 : asL μ a = some ys := by
        rw [← e1']
        cases a <;> first | rfl | exact absurd ⟨_, rfl⟩ ht
      obtain ⟨p, vs, rfl, q, rb⟩ := asL_ok M r e3
      exact call_tuple_of pins s σ H _ us Q I rx ⟨_, _, rfl, .inl ⟨q, fun l hl => k.tup M hl rb⟩⟩
/-- pairs as tuples -/
theorem pairs_ok {K : PySem.W.Frag} {t m : List Addr} {n : Nat} {H : Hp} : ∀ {xs : List U} {vs : List V} {ps : List (U × U)}, RpA K fa t m n H xs vs → mapO pairKV xs = some ps →
    ∃ (as : List Addr) (qs : List (V × V)), vs = as.map V.ref ∧ RpP K fa t m n H ps qs ∧ Paired (fun p (q : V × V) => SqT K H p [q.1, q.2]) as qs
  | _, _, _, .nil, h => by cases h; exact ⟨[], [], rfl, .nil, .nil⟩
  | _, _, _, .cons r ra, h => by
    obtain ⟨z, zs, e1, e2, rfl⟩ := mapO_cons h
    obtain ⟨as, qs, rfl, rp, pr⟩ := pairs_ok ra e2
    cases r with
    | @tup a vs ys f rb =>
      match ys, e1, rb with
      | [k, v], e1, rb =>
        cases e1
        obtain ⟨x, y, rfl, r1, r2⟩ := rpa2 rb
        exact ⟨a :: as, (x, y) :: qs, rfl, .cons r1 r2 rp, .cons f.sq pr⟩
    | _ => simp [pairKV] at e1
theorem paired_map {α β γ : Type} {R : α → β → Prop} {f : γ → β} : ∀ {as : List α} {cs : List γ}, Paired R as (cs.map f) → Paired (fun a c => R a (f c)) as cs
  | [], [], _ => .nil
  | [], _ :: _, h => by cases h
  | a :: as, [], h => by cases h
  | a :: as, c :: cs, .cons h r => .cons h (paired_map r)
theorem dictR (hc : X.calm = true) (al : Bool) : CallR X (.type "dict") (rVs X.K fa (colF al (.dict false))) := by
  intro pins s σ H xs us Q I rx h
  obtain ⟨t, bs, m, μ, as, u, μ', M, ra, h, k⟩ := h
  obtain ⟨a, ys, rfl, e1, e2⟩ := colF_some h
  obtain ⟨v, rfl, r⟩ := rpa1 ra
  have e1' : asL μ a = some ys := by
    rw [← e1]
    cases a <;> rfl
  obtain ⟨p, vs, rfl, q, rb⟩ := asL_ok M r e1'
  simp only [evCol] at e2
  split at e2
  · rename_i ps e3
    split at e2
    · rename_i o e4
      obtain ⟨rfl, rfl⟩ := Prod.mk.inj (Option.some.inj e2)
      obtain ⟨ads, qs, rfl, rp, pr⟩ := pairs_ok rb e3
      have e4' : mergeU false ps (.dk (([] : List (Key × V)).map (·.1)) []) = some o := by simpa using e4
      obtain ⟨kvs, us', rfl, rfl, rc⟩ := mergeU_k (kvs0 := []) rp .nil e4'
      exact call_dictP hc pins s σ H _ us Q I rx ⟨p, ads, kvs, rfl, q, paired_map (R := fun p (q : V × V) => SqT X.K H p [q.1, q.2]) (f := fun kv : Key × V => (kV kv.1, kv.2)) pr, fun l hl => k.dk M hl rc⟩
    · cases e2
  · cases e2

theorem mergeT_len : ∀ (ts : List (List Key × Addr × V)) (kvs : List (List Key × V)), (mergeT kvs ts).length ≤ kvs.length + ts.length
  | [], kvs => Nat.le_refl _
  | x :: ts, kvs => by
    have h1 := mergeT_len ts (putK kvs x.1 x.2.2)
    have h2 := length_putK kvs x.1 x.2.2
    show (mergeT (putK kvs x.1 x.2.2) ts).length ≤ _
    rw [List.length_cons]
    omega
theorem kt_all {H : Hp} : ∀ {ts : List (List Key × Addr × V)} {prs : List (List Key × Addr × Value)} {kvs : List (List Key × V)} {xs : List (List Key × Addr × Value)}, Paired (fun (x : List Key × Addr × V) (y : List Key × Addr × Value) => x.1 = y.1 ∧ x.2.1 = y.2.1 ∧ RelV x.2.2 y.2.2) ts prs →
    (∀ x ∈ ts, H x.2.1 = some (.tup (x.1.map kV))) → KT H kvs xs → KT H (mergeT kvs ts) (storedAllH xs prs)
  | _, _, kvs, xs, .nil, _, r => r
  | _, _, kvs, xs, .cons (a := x) (b := y) h p, hh, r => by
    obtain ⟨e1, e2, e3⟩ := h
    have := r.put x.1 (hh x (by simp)) e3
    rw [e2, e1] at this
    have q := kt_all p (fun z hz => hh z (by simp [hz])) this
    rw [← e1] at q
    simpa [mergeT, storedAllH, e1, e2] using q
theorem prs_of {K : PySem.W.Frag} {X : Cx} {pins : List (Addr × Obj)} {σ : L2.St} {H : Hp} {s : Shared} (I : L2.Inv X pins σ H s) : ∀ {ads : List Addr} {ts : List (List Key × Addr × V)}, Paired (fun p (x : List Key × Addr × V) => SqT X.K H p [V.ref x.2.1, x.2.2]) ads ts →
    ∃ prs : List (List Key × Addr × Value), Paired (fun (x : List Key × Addr × V) (y : List Key × Addr × Value) => x.1 = y.1 ∧ x.2.1 = y.2.1 ∧ RelV x.2.2 y.2.2) ts prs ∧ prs.length = ads.length ∧ ∀ (j : Nat) (y : List Key × Addr × Value), prs[j]? = some y → ∃ p, ads[j]? = some p ∧ IsTup s.heap p #[.ref y.2.1, y.2.2]
  | _, _, .nil => ⟨[], .nil, rfl, fun j q e => by simp at e⟩
  | _, _, .cons (a := p) (b := x) h t => by
    obtain ⟨prs, r, hl, hp⟩ := prs_of (K := K) I t
    obtain ⟨its, rv, ht, _⟩ := I.tuple h
    obtain ⟨u, y, ei, ru, ry⟩ := vals2 rv
    subst ei
    cases ru
    refine ⟨(x.1, x.2.1, y) :: prs, .cons ⟨rfl, rfl, ry⟩ r, by rw [List.length_cons, List.length_cons, hl], fun j q e => ?_⟩
    cases j with
    | zero =>
      have e' : (x.1, x.2.1, y) = q := Option.some.inj e
      subst e'
      exact ⟨p, rfl, ht⟩
    | succ j =>
      obtain ⟨b, e1, e2⟩ := hp j q (by simpa using e)
      exact ⟨b, by simpa using e1, e2⟩
theorem dictRT (hc : X.calm = true) (hu : X.A.units + 66 < cLine) (al : Bool) : CallR X (.type "dict") (rVs X.K fa (colF al (.dict true))) := by
  intro pins s σ H xs us Q I rx h
  obtain ⟨t, bs, m, μ, as, u, μ', M, ra, h, k⟩ := h
  obtain ⟨a, ys, rfl, e1, e2⟩ := colF_some h
  obtain ⟨v, rfl, r⟩ := rpa1 ra
  have e1' : asL μ a = some ys := by
    rw [← e1]
    cases a <;> rfl
  obtain ⟨p, vs, rfl, q, rb⟩ := asL_ok M r e1'
  simp only [evCol] at e2
  split at e2
  · rename_i ps e3
    split at e2
    · rename_i o e4
      obtain ⟨rfl, rfl⟩ := Prod.mk.inj (Option.some.inj e2)
      obtain ⟨ads, qs, rfl, rp, pr⟩ := pairs_ok rb e3
      have e4' : mergeU true ps (.dt (([] : List (List Key × V)).map (·.1)) []) = some o := by simpa using e4
      obtain ⟨ts, us', rfl, hts, rfl, rc⟩ := mergeU_t (kvs0 := []) rp .nil e4'
      obtain ⟨w, ew, rw1⟩ := vals1 rx
      subst ew
      cases rw1
      obtain ⟨its, rv, pl, hz⟩ := I.list q
      have ei := refs_at rv
      subst ei
      rw [List.length_map] at hz
      have pr2 : Paired (fun p (x : List Key × Addr × V) => SqT X.K H p [V.ref x.2.1, x.2.2]) ads ts := paired_map (R := fun p (q : V × V) => SqT X.K H p [q.1, q.2]) (f := fun x : List Key × Addr × V => (V.ref x.2.1, x.2.2)) pr
      obtain ⟨prs, rel, hl, hpr⟩ := prs_of (K := X.K) I pr2
      obtain ⟨ob, n, ho, hco, hd, hdat⟩ := pl
      have hlt : ts.length = prs.length := rel.length
      refine call_dict_pairsH (knd := tupleKind (mixKind X.prog X.w)) (ps := prs) (PairArg.list p (ads.map Value.ref).toArray (fun j => ads[j]?.getD 0) (prs.map fun x => (Value.ref x.2.1, x.2.2))) (I.ok.hd hc)
        (show X.A.units + 1 + 1 < cLine by omega) ⟨⟨ob, n, ho, hco, hd, hdat⟩, by simp [hl], fun j kk vv e => ?_⟩ ⟨by simp, fun i kk vv e => ?_⟩ (fun h' hk x hx => ?_) (by rw [List.length_map, hl]; exact hz) fun h' tk hd' hk => ?_
      · rw [List.getElem?_map] at e
        cases e5 : prs[j]? with
        | none => rw [e5] at e; cases e
        | some y =>
          rw [e5] at e
          have e6 := Option.some.inj e
          obtain ⟨b, f1, f2⟩ := hpr j y e5
          have f3 : (Value.ref y.2.1, y.2.2) = (kk, vv) := e6
          obtain ⟨rfl, rfl⟩ := Prod.mk.inj f3
          exact ⟨by simp [f1], by show PairAt s.heap (ads[j]?.getD 0) _ _; rw [f1]; exact .inl f2⟩
      · have e' : (prs.map fun x => (Value.ref x.2.1, x.2.2))[i]? = some (kk, vv) := e
        rw [List.getElem?_map] at e'
        cases e5 : prs[i]? with
        | none => rw [e5] at e'; cases e'
        | some y =>
          rw [e5] at e'
          have f3 : (Value.ref y.2.1, y.2.2) = (kk, vv) := Option.some.inj e'
          obtain ⟨rfl, rfl⟩ := Prod.mk.inj f3
          exact ⟨y.1, y.2.1, rfl, rfl⟩
      · have mem : ∀ {l : List (List Key × Addr × V)} {l' : List (List Key × Addr × Value)}, Paired (fun (x : List Key × Addr × V) (y : List Key × Addr × Value) => x.1 = y.1 ∧ x.2.1 = y.2.1 ∧ RelV x.2.2 y.2.2) l l' → ∀ y ∈ l', ∃ x ∈ l, x.1 = y.1 ∧ x.2.1 = y.2.1 := by
          intro l l' hp
          induction hp with
          | nil => intro y hy; cases hy
          | @cons x y l l' h _ ih =>
            intro z hz
            rcases List.mem_cons.mp hz with rfl | hz
            · exact ⟨x, by simp, h.1, h.2.1⟩
            · obtain ⟨x', h1, h2⟩ := ih z hz
              exact ⟨x', by simp [h1], h2⟩
        obtain ⟨y, hy, y1, y2⟩ := mem rel x hx
        have ky := key_of I.hok (hts y hy)
        rw [y1, y2] at ky
        exact tupleKind_stays.stays (fun b o vs n e q => hk b o (Nat.ne_of_lt (Heap.lt_size e)) (fun z => nomatch z) e) ky
      · have hm : (s.heap.objs.size == sysModules) = false := beq_eq_false_iff_ne.mpr (Nat.ne_of_gt I.big)
        have hlen : (mergeT [] ts).length ≤ sizeLine := by
          have := mergeT_len ts []
          rw [List.length_nil] at this
          omega
        have new := I.hok.fresh (Nat.le_refl s.heap.objs.size)
        obtain ⟨ob2, es, ep, hq, h2, h3, h4, _, h5⟩ := hd'
        have kt : KT H (mergeT [] ts) (storedAllH [] prs) := kt_all rel hts .nil
        refine ⟨.ref s.heap.objs.size, upd H s.heap.objs.size (.dT (mergeT [] ts)), I.laid (t' := tk) (fun b o e => hk b o (fun z => nomatch z) e) (Nat.le_refl _) (show ObjOk X.prog X.w _ _ _ (.dT (mergeT [] ts)) from ⟨hlen, hm, _, kt.keeps fun c ys ec => ?_, ob2, es, ep, hq, h2, h3, h4, h5⟩), rfl, k.dt M new rc⟩
        rw [upd_ne (ne_of_none ec new)]
        exact ec
    · cases e2
  · cases e2

/-! ### sorted -/
theorem srtd_some {μ : Mu} {xs ys : List U} (h : srtd μ xs = some ys) : ∃ ds, mapO (dat μ D0) xs = some ds ∧ PySem.W.AllAlike ds ∧ PySem.W.Sortable ds ∧ ds.length ≤ SZ ∧ ys = ((xs.zip ds).mergeSort (PySem.W.dataLe false Prod.snd)).map (·.1) := by
  unfold srtd at h
  split at h
  · rename_i ds e
    split at h
    · rename_i c
      cases h
      simp only [Bool.and_eq_true, decide_eq_true_eq, Bool.or_eq_true, List.all_eq_true] at c
      refine ⟨ds, e, fun d hd d' hd' => c.1.1 d hd d' hd', ?_, c.2, rfl⟩
      rcases c.1.2 with q | q
      · refine .inl fun d hd => ?_
        have := q d hd
        split at this
        · exact ⟨_, _, rfl⟩
        · cases this
      · refine .inr fun d hd => ?_
        have := q d hd
        split at this
        · cases this
        · cases this
        · rename_i h1 h2
          exact ⟨fun z => h2 z, fun xs z => h1 xs z⟩
    · cases h
  · cases h
theorem each_build {pins : List (Addr × Obj)} {s : Shared} {σ : L2.St} {H : Hp} {t m : List Addr} {bs : List Nat} {μ : Mu} {h' : Heap} (I : L2.Inv X pins σ H s) (M : Me X.K fa bs t m H μ) (kp : ∀ b o, s.heap.get? b = some o → h'.get? b = some o) {a : Addr} (ha : s.heap.get? a = none) :
    ∀ {xs : List U} {vs : List V} {acc : List Value} {ds : List PyData}, RpA X.K fa t m m.length H xs vs → mapO (dat μ D0) xs = some ds → Vals vs acc →
    PySem.W.EachIs (fun v (b : (U × PyData) × V) => (RelV b.2 v ∧ Rp X.K fa t m m.length H b.1.1 b.2) ∧ (∃ as, Reads h' v b.1.2 as ∧ a ∉ as) ∧ b.1.2.depth ≤ D0) acc ((xs.zip ds).zip vs)
  | _, _, _, _, .nil, e, .nil => by cases e; exact .nil
  | _, _, _, _, .cons r ra, e, .cons rv vv => by
    obtain ⟨z, zs, e1, e2, rfl⟩ := mapO_cons e
    obtain ⟨d1, _, d3⟩ := Dp.of M D0 _ _ _ r e1
    obtain ⟨as, rd⟩ := Dp.reads I _ _ _ d1 rv
    refine .cons ⟨⟨rv, r⟩, ⟨as, Reads.keeps kp rd, fun z => ?_⟩, d3⟩ (each_build I M kp ha ra e2 vv)
    obtain ⟨o, eo⟩ := reads_there rd a z
    rw [ha] at eo; cases eo
theorem each_vals {K : PySem.W.Frag} {t m : List Addr} {n : Nat} {H : Hp} : ∀ {out : List Value} {zs : List ((U × PyData) × V)}, PySem.W.EachIs (fun v (b : (U × PyData) × V) => RelV b.2 v ∧ Rp K fa t m n H b.1.1 b.2) out zs → Vals (zs.map (·.2)) out ∧ RpA K fa t m n H ((zs.map (·.1)).map (·.1)) (zs.map (·.2))
  | _, _, .nil => ⟨.nil, .nil⟩
  | _, _, .cons h r => let ⟨a, b⟩ := each_vals r; ⟨.cons h.1 a, .cons h.2 b⟩
theorem each_zs {α β : Type} {R : α → β → Prop} {p : β → Prop} (hp : ∀ a b, R a b → p b) : ∀ {as : List α} {bs : List β}, PySem.W.EachIs R as bs → ∀ b ∈ bs, p b
  | _, _, .nil, b, h => by cases h
  | _, _, .cons h r, b, hb => by
    rcases List.mem_cons.mp hb with e | e
    · subst e; exact hp _ _ h
    · exact each_zs hp r b e
/-- sorted(..) behind its collecting -/
theorem sorted_from (hc : X.calm = true) (hu : X.A.units + 66 < cLine) {pins : List (Addr × Obj)} {s : Shared} {σ : L2.St} {H : Hp} {t m : List Addr} {bs : List Nat} {μ : Mu} {xs ys : List U} {vs : List V} {a : Addr} {Q : VK} {al : Bool}
    (I : L2.Inv X pins σ H s) (M : Me X.K fa bs t m H μ) (ra : RpA X.K fa t m m.length H xs vs) (hs : srtd μ xs = some ys) (k : Kn X.K fa bs t m H (fresh al (.lst ys) μ).1 (fresh al (.lst ys) μ).2 Q)
    (hcol : ∀ (R : List Value → Shared → Prop) (E : Value → Shared → Prop), (∀ h' tk acc, (∀ b o, s.heap.get? b = some o → h'.get? b = some o) → Vals vs acc → R acc { s with heap := h', toks := tk }) → wpAny (model X.prog X.w) X.A.in1 (collect (.ref a)) R E s) :
    wpAny (model X.prog X.w) X.A (call (.builtin "sorted") [.ref a]) (EP X pins σ Q) X.xe s := by
  obtain ⟨ds, e1, hal, hk, hz, rfl⟩ := srtd_some hs
  have l1 := mapO_len e1
  have l2 := ra.length
  have hl := sz_line
  have hd0 : D0 = 12 := rfl
  refine Calls.call_function_entry PyProof.Rows.kind_sorted PyProof.Rows.plain_sorted PyProof.Rows.entry_sorted (PyProof.Rows.args_sorted1 _) ?_
  unfold Builtin.«sorted»
  refine wpAny_bind (m := checkCount "sorted" 1 1 _) (wpAny_pure ?_)
  refine wpAny_bind (hcol _ _ fun h' tk acc kp vv => ?_)
  have la := vv.length
  have I1 : L2.Inv X pins σ H { s with heap := h', toks := tk } := I.kept kp
  refine wpAny_bind (wpAny_newList ?_ (by omega))
  have hoL : (h'.push (seqObj "list" acc.toArray 0)).get? h'.objs.size = some (seqObj "list" acc.toArray 0) := Heap.get?_push_size _ rfl
  show wpAny _ _ _ _ _ { s with heap := h'.push (seqObj "list" acc.toArray 0), toks := tk }
  have hfr : h'.get? h'.objs.size = none := Heap.get?_none_of_le (Nat.le_refl _)
  have ee := each_build (s := { s with heap := h', toks := tk }) (h' := h'.push (seqObj "list" acc.toArray 0)) (a := h'.objs.size) I1 M (fun b o e => Heap.get?_push_of_some _ e) hfr ra e1 vv
  have hbm : ((xs.zip ds).zip vs).map (fun b => b.1.2) = ds := by
    have h1 : ((xs.zip ds).zip vs).map (·.1) = xs.zip ds := List.map_fst_zip (by simp; omega)
    have h2 : (xs.zip ds).map (·.2) = ds := List.map_snd_zip (by omega)
    rw [show (fun b : (U × PyData) × V => b.1.2) = (fun p : U × PyData => p.2) ∘ (fun b : (U × PyData) × V => b.1) from rfl, ← List.map_map, h1, h2]
  refine wpAny_bind (wpAny_holding (PySem.W.list_sort_data (s := { s with heap := h'.push (seqObj "list" acc.toArray 0), toks := tk }) (enc := fun b : (U × PyData) × V => b.1.2) hoL (ee.mono fun _ _ q => q.1) (ee.mono fun _ _ q => q.2.1)
    (by rw [hbm]; exact hal) (by rw [hbm]; exact hk) (by simp; omega) (fun b hb => ?_) fun out ho he => ?_))
  · have : b.1.2.depth ≤ D0 := each_zs (p := fun b : (U × PyData) × V => b.1.2.depth ≤ D0) (fun _ _ q => q.2.2) ee b hb
    show X.A.units + 1 + 1 + _ < _
    omega
  · obtain ⟨e', he'⟩ := PyProof.Rows.sortedHeap_at (vs := acc) (out := out.toArray) hoL
    obtain ⟨rv, rr⟩ := each_vals he
    have hm : (((xs.zip ds).zip vs).mergeSort (PySem.W.dataLe false fun b => b.1.2)).map (·.1) = (xs.zip ds).mergeSort (PySem.W.dataLe false Prod.snd) := by
      have h1 : ((xs.zip ds).zip vs).map (·.1) = xs.zip ds := List.map_fst_zip (by simp; omega)
      rw [List.map_mergeSort (r := PySem.W.dataLe false fun b : (U × PyData) × V => b.1.2) (s := PySem.W.dataLe false Prod.snd) (f := fun b : (U × PyData) × V => b.1) (fun a _ b _ => rfl), h1]
    rw [hm] at rr
    have lo : out.length ≤ sizeLine := by rw [ho]; simp; omega
    refine wpAny_pure ⟨_, rfl, .ref h'.objs.size, upd H h'.objs.size (.lst _), I1.laid (t' := tk) (fun b u e => ?_) (Nat.le_refl _)
      (show ObjOk X.prog X.w _ _ _ (.lst _) from ⟨by rw [rv.length]; exact lo, out, e', rv, he'⟩), rfl, k.lst M (I1.hok.fresh (Nat.le_refl _)) rr⟩
    have hb : b < h'.objs.size := Heap.lt_size e
    rw [PyProof.Rows.sortedHeap_old (Nat.ne_of_lt hb) (by rw [size_push']; exact Nat.lt_succ_of_lt hb)]
    exact Heap.get?_push_of_some _ e
theorem sortedR (hc : X.calm = true) (hu : X.A.units + 66 < cLine) (al : Bool) : CallR X (.builtin "sorted") (rVs X.K fa (colF al .sorted)) := by
  intro pins s σ H xs us Q I rx h
  obtain ⟨t, bs, m, μ, as, u, μ', M, ra, h, k⟩ := h
  obtain ⟨a, ys, rfl, e1, e2⟩ := colF_some h
  obtain ⟨v, rfl, r⟩ := rpa1 ra
  simp only [evCol] at e2
  split at e2
  · rename_i zs e3
    obtain ⟨rfl, rfl⟩ := Prod.mk.inj (Option.some.inj e2)
    have e1' : (match asS μ a with
      | some xs => some xs
      | none => match cont μ a with
        | some (.dk ks _) => some (ks.map keyU)
        | some (.dt ks _) => some (ks.map keysU)
        | _ => none) = some ys := by
      rw [← e1]
      cases a <;> rfl
    obtain ⟨p, rfl, q⟩ := items_ok M r e1'
    obtain ⟨w, rfl, rw'⟩ := vals1 rx
    obtain rfl : w = Value.ref p := rw'
    have hl := sz_line
    rcases q with ⟨vs, q, rb⟩ | ⟨kvs, hH, rfl⟩ | ⟨kvs, hH, rfl⟩
    · refine sorted_from hc hu I M rb e3 k fun R E hR => ?_
      rcases q with q | q
      · obtain ⟨its, rv, ⟨o, n, ho, hcl, hdn, hd⟩, hz⟩ := I.list q
        have hlen := rv.length
        exact wpAny_collect_seq p (.inl rfl) ho hcl hd (fun h' hk => hR h' s.toks _ hk (by simpa using rv)) (by simp; omega)
      · obtain ⟨its, rv, ⟨o, ho, hcl, n, hd⟩, hz⟩ := I.tuple q
        have hlen := rv.length
        exact wpAny_collect_seq p (.inr rfl) ho hcl hd (fun h' hk => hR h' s.toks _ hk (by simpa using rv)) (by simp; omega)
    · obtain ⟨z, lo, vs, rel, dd⟩ := dk_of I.hok hH
      obtain ⟨ep, hat⟩ := dd.dictAt
      have h16 : vs.length ≤ sizeLine := by rw [← rel.length]; exact z
      have hkeys := rel.keys
      refine sorted_from hc hu I M (vs := (kvs.map (·.1)).map kV) (keysA_ok _) e3 k fun R E hR => ?_
      refine PySem.W.kdu_collect (A := X.A.in1) (PySem.W.kdl_dict (knd := mixKind X.prog X.w) (kvs := vs) (ep := ep) lo) (I.ok.hd hc) hat h16 fun h' tk acc hk hacc => hR h' tk _ hk ?_
      have := keys_at (us := acc.toList) (vs := vs) (by rw [Array.length_toList, hacc.1]) fun j v e => hacc.2 j v (by rw [← Array.getElem?_toList]; exact e)
      rw [hkeys, List.map_map]
      exact this
    · obtain ⟨z, hs, ks, pr, o, es, ep, ho, hx, hdt, he, hn⟩ := (show ObjOk X.prog X.w H s.heap p (.dT kvs) from I.hok p _ hH)
      have l1 : es.size = ks.length := size_of_entries he
      have l2 : kvs.length = ks.length := Paired.length pr
      refine sorted_from hc hu I M (vs := (ks.map fun x => x.2.1).map V.ref) (keysU_ok M (isKeys_of pr)) e3 k fun R E hR => ?_
      refine PySem.W.kdu_collect (A := X.A.in1) (kdl_raw hs hx hdt) (I.ok.hd hc) ho (by omega) fun h' tk acc' hk it => hR h' tk _ hk ?_
      have ea : acc'.toList = ks.map fun x => Value.ref x.2.1 := by
        have hl : acc'.toList.length = ks.length := by rw [Array.length_toList, it.1]; exact l1
        apply List.ext_getElem?
        intro j
        rw [List.getElem?_map]
        cases hj : acc'.toList[j]? with
        | none =>
          have h1 := List.getElem?_eq_none_iff.mp hj
          rw [List.getElem?_eq_none (by omega)]
          all_goals rfl
        | some v =>
          obtain ⟨en, hen, hv⟩ := it.2 j v (by rw [← Array.getElem?_toList]; exact hj)
          have qe := entry_at he j
          rw [hen] at qe
          cases hb : ks[j]? with
          | none =>
            rw [hb] at qe
            exact nomatch (show some en = none from qe)
          | some b =>
            rw [hb] at qe
            have e2 : en = entryOfKey (tupleKind (mixKind X.prog X.w)) b := Option.some.inj qe
            rw [hv, e2]
            all_goals rfl
      have eb : acc'.toList = (ks.map fun x => x.2.1).map Value.ref := by rw [ea, List.map_map]; all_goals rfl
      rw [eb]
      exact vals_refs _
  · cases e2
variable {cal : Nat → List U → Mu → Option (U × Mu)} {n0 : Nat} {a b : E} {xa xb : Expr} {pos p p2 pos2 : Pos}
theorem col_ev {al : Bool} {c : Cl} {σ : Env} {μ μ' : Mu} {u : U} {its : List E} (h : evalE cal n0 (.col al c .ex its) σ μ = some (u, μ')) : ∃ us μ1, evalL cal n0 its σ μ = some (us, μ1) ∧ colF al c μ1 us = some (u, μ') := by
  simp only [evalE] at h
  split at h
  · rename_i us μ1 e1
    exact ⟨us, μ1, e1, h⟩
  · cases h
theorem e_list {al : Bool} (hc : X.calm = true) (hg : Gl X "list") (hm : X.mg "list" = none) (ha : PEv X fa cal n0 xa a) (hk : okh xa = true) : PEv X fa cal n0 (.Call (.Name "list" p) [xa] [] pos) (.col al .list .ex [a]) :=
  (pe_callTy (listR hc al) hg hm boot_list (a_cons ha a_nil hk) (by decide) (by decide) (okh_star hk) rfl).imp fun σV H Q q => vs_rd (fun _ _ _ _ => col_ev) q
theorem e_tuple {al : Bool} (hg : Gl X "tuple") (hm : X.mg "tuple" = none) (ha : PEv X fa cal n0 xa a) (hk : okh xa = true) : PEv X fa cal n0 (.Call (.Name "tuple" p) [xa] [] pos) (.col al .tuple .ex [a]) :=
  (pe_callTy (tupleR al) hg hm boot_tuple (a_cons ha a_nil hk) (by decide) (by decide) (okh_star hk) rfl).imp fun σV H Q q => vs_rd (fun _ _ _ _ => col_ev) q
theorem e_dict {al : Bool} (hc : X.calm = true) (hg : Gl X "dict") (hm : X.mg "dict" = none) (ha : PEv X fa cal n0 xa a) (hk : okh xa = true) : PEv X fa cal n0 (.Call (.Name "dict" p) [xa] [] pos) (.col al (.dict false) .ex [a]) :=
  (pe_callTy (dictR hc al) hg hm boot_dict (a_cons ha a_nil hk) (by decide) (by decide) (okh_star hk) rfl).imp fun σV H Q q => vs_rd (fun _ _ _ _ => col_ev) q
theorem e_dictT {al : Bool} (hc : X.calm = true) (hu : X.A.units + 66 < cLine) (hg : Gl X "dict") (hm : X.mg "dict" = none) (ha : PEv X fa cal n0 xa a) (hk : okh xa = true) : PEv X fa cal n0 (.Call (.Name "dict" p) [xa] [] pos) (.col al (.dict true) .ex [a]) :=
  (pe_callTy (dictRT hc hu al) hg hm boot_dict (a_cons ha a_nil hk) (by decide) (by decide) (okh_star hk) rfl).imp fun σV H Q q => vs_rd (fun _ _ _ _ => col_ev) q
theorem e_sorted {al : Bool} (hc : X.calm = true) (hu : X.A.units + 66 < cLine) (hg : Gl X "sorted") (hm : X.mg "sorted" = none) (ha : PEv X fa cal n0 xa a) (hk : okh xa = true) : PEv X fa cal n0 (.Call (.Name "sorted" p) [xa] [] pos) (.col al .sorted .ex [a]) :=
  (pe_callB (sortedR hc hu al) hg hm boot_sorted (a_cons ha a_nil hk) (by decide) (by decide) (okh_star hk) rfl).imp fun σV H Q q => vs_rd (fun _ _ _ _ => col_ev) q
theorem rgn_ok {K : PySem.W.Frag} {t m : List Addr} {n : Nat} {H : Hp} (lo hi : Int) : RpA K fa t m n H (rgn lo hi) (rgV lo hi) := by
  unfold rgn rgV
  have : ∀ l : List Nat, RpA K fa t m n H (l.map fun (k : Nat) => U.int (lo + k)) (l.map fun i => V.int (lo + (i : Nat))) := by
    intro l
    induction l with
    | nil => exact .nil
    | cons x l ih => exact .cons (.int _) ih
  exact this _
/-- the bounds of a range that is collected -/
theorem rg1_rd {al : Bool} {c : Cl} {σV : L2.St} {H : Hp} {Q : VK} (hc : c = .list ∨ c = .tuple) (q : tE X.K fa n0 (evalE cal n0 (.col al c .rng [a])) σV H Q) :
    tRg1 (tE X.K fa n0 (evalE cal n0 a)) σV H fun lo hi H1 => RgOk lo hi ∧ ∃ t bs m μ u μ', Me X.K fa bs t m H1 μ ∧ evCol al μ c (rgn lo hi) = some (u, μ') ∧ Kn X.K fa bs t m H1 u μ' Q := by
  obtain ⟨t, bs, m, σ, μ, u, μ', hb, he, M, ev, k⟩ := q
  simp only [evalE] at ev
  split at ev
  · rename_i us μ1 e1
    split at ev
    · rename_i xs e2
      obtain ⟨w, rfl, e3⟩ := evalL_one e1
      refine seq1 hb he M e3 fun m1 H1 v1 x1 M1 r1 => ?_
      cases w with
      | int j =>
        have e4 : (if -(2 ^ 62) ≤ j ∧ j ≤ 2 ^ 24 then some (rgn 0 j) else none) = some xs := by
          rcases hc with rfl | rfl <;> exact e2
        split at e4
        · rename_i hj
          cases e4
          cases r1
          exact ⟨j, rfl, ⟨by omega, by omega, by omega, by omega, by omega⟩, t, bs, m1, μ1, u, μ', M1, ev, k.ex x1⟩
        · cases e4
      | _ => rcases hc with rfl | rfl <;> simp [items] at e2
    · cases ev
  · cases ev
theorem rg2_rd {al : Bool} {c : Cl} {σV : L2.St} {H : Hp} {Q : VK} (hc : c = .list ∨ c = .tuple) (q : tE X.K fa n0 (evalE cal n0 (.col al c .rng [a, b])) σV H Q) :
    tRg2 (tE X.K fa n0 (evalE cal n0 a)) (tE X.K fa n0 (evalE cal n0 b)) σV H fun lo hi H1 => RgOk lo hi ∧ ∃ t bs m μ u μ', Me X.K fa bs t m H1 μ ∧ evCol al μ c (rgn lo hi) = some (u, μ') ∧ Kn X.K fa bs t m H1 u μ' Q := by
  obtain ⟨t, bs, m, σ, μ, u, μ', hb, he, M, ev, k⟩ := q
  simp only [evalE] at ev
  split at ev
  · rename_i us μ1 e1
    split at ev
    · rename_i xs e2
      have hl := evalL_len e1
      match us, hl, e1, e2 with
      | [w1, w2], hl, e1, e2 =>
        simp only [evalL] at e1
        split at e1
        · rename_i y1 μ2 e3
          split at e1
          · rename_i e4
            split at e4
            · rename_i y2 μ3 e5
              cases e4
              cases e1
              refine seq2 hb he M e3 e5 fun m1 H1 v1 v2 x1 M1 r1 r2 => ?_
              have key : ∃ i j, w1 = .int i ∧ w2 = .int j ∧ (if -(2 ^ 62) ≤ i ∧ i < 2 ^ 62 ∧ -(2 ^ 62) ≤ j ∧ j < 2 ^ 62 ∧ (j - i).toNat ≤ 2 ^ 24 then some (rgn i j) else none) = some xs := by
                rcases hc with rfl | rfl
                · cases w1 <;> first | (simp [items] at e2; done) | (cases w2 <;> first | (simp [items] at e2; done) | exact ⟨_, _, rfl, rfl, e2⟩)
                · cases w1 <;> first | (simp [items] at e2; done) | (cases w2 <;> first | (simp [items] at e2; done) | exact ⟨_, _, rfl, rfl, e2⟩)
              obtain ⟨i, j, rfl, rfl, e6⟩ := key
              split at e6
              · rename_i hj
                cases e6
                cases r1
                cases r2
                exact ⟨i, j, rfl, rfl, ⟨hj.1, hj.2.1, hj.2.2.1, hj.2.2.2.1, hj.2.2.2.2⟩, t, bs, m1, _, u, μ', M1, ev, k.ex x1⟩
              · cases e6
            · cases e4
          · cases e1
        · cases e1
    · cases ev
  · cases ev
theorem col_lst {al : Bool} {t m : List Addr} {bs : List Nat} {H : Hp} {μ μ' : Mu} {u : U} {lo hi : Int} {Q : VK} (M : Me X.K fa bs t m H μ) (e : evCol al μ .list (rgn lo hi) = some (u, μ')) (k : Kn X.K fa bs t m H u μ' Q) : ∀ q, H q = none → Q (.ref q) (upd H q (.lst (rgV lo hi))) := fun q hq => by
  simp only [evCol] at e
  obtain ⟨rfl, rfl⟩ := Prod.mk.inj (Option.some.inj e)
  exact k.lst M hq (rgn_ok lo hi)
theorem col_tup {al : Bool} {t m : List Addr} {bs : List Nat} {H : Hp} {μ μ' : Mu} {u : U} {lo hi : Int} {Q : VK} (M : Me X.K fa bs t m H μ) (e : evCol al μ .tuple (rgn lo hi) = some (u, μ')) (k : Kn X.K fa bs t m H u μ' Q) : ∀ q, H q = none → Q (.ref q) (upd H q (.tup (rgV lo hi))) := fun q hq => by
  simp only [evCol] at e
  obtain ⟨rfl, rfl⟩ := Prod.mk.inj (Option.some.inj e)
  exact k.tup M hq (rgn_ok lo hi)
theorem tRg1_imp {ta : TE} {σ : L2.St} {H : Hp} {P R : Int → Int → Hp → Prop} (mono : ∀ (σ : L2.St) (H : Hp) (Q Q' : VK), (∀ v H', Q v H' → Q' v H') → ta σ H Q → ta σ H Q') (h : tRg1 ta σ H P) (hi : ∀ a b H', P a b H' → R a b H') : tRg1 ta σ H R :=
  mono σ H _ _ (fun _ _ ⟨n, e, p⟩ => ⟨n, e, hi _ _ _ p⟩) h
theorem tE_mono {K : PySem.W.Frag} {ev : Ev} {σ : L2.St} {H : Hp} {Q Q' : VK} (hq : ∀ v H', Q v H' → Q' v H') (h : tE K fa n0 ev σ H Q) : tE K fa n0 ev σ H Q' := by
  obtain ⟨t, bs, m, σ, μ, u, μ', hb, he, M, ev, k⟩ := h
  exact ⟨t, bs, m, σ, μ, u, μ', hb, he, M, ev, fun m' H' v x M' r => hq _ _ (k m' H' v x M' r)⟩
theorem e_list1 {al : Bool} (hc : X.calm = true) (hg : Gl X "list") (hm : X.mg "list" = none) (hgr : Gl X "range") (hmr : X.mg "range" = none) (ha : PEv X fa cal n0 xa a) (hk : okh xa = true) :
    PEv X fa cal n0 (.Call (.Name "list" p) [.Call (.Name "range" p2) [xa] [] pos2] [] pos) (.col al .list .rng [a]) :=
  (pe_listRg hc hg hm (prg_1 hgr hmr ha (okh_star hk)) (okh_star rfl)).imp fun σV H Q q =>
    tE_mono (fun v H' ⟨n, e, ok, t, bs, m, μ, u, μ', M, ec, k⟩ => ⟨n, e, ok, col_lst M ec k⟩) (rg1_rd (.inl rfl) q)
theorem e_tuple1 {al : Bool} (hc : X.calm = true) (hg : Gl X "tuple") (hm : X.mg "tuple" = none) (hgr : Gl X "range") (hmr : X.mg "range" = none) (ha : PEv X fa cal n0 xa a) (hk : okh xa = true) :
    PEv X fa cal n0 (.Call (.Name "tuple" p) [.Call (.Name "range" p2) [xa] [] pos2] [] pos) (.col al .tuple .rng [a]) :=
  (pe_tupRg hc hg hm (prg_1 hgr hmr ha (okh_star hk)) (okh_star rfl)).imp fun σV H Q q =>
    tE_mono (fun v H' ⟨n, e, ok, t, bs, m, μ, u, μ', M, ec, k⟩ => ⟨n, e, ok, col_tup M ec k⟩) (rg1_rd (.inr rfl) q)
theorem e_list2 {al : Bool} (hc : X.calm = true) (hg : Gl X "list") (hm : X.mg "list" = none) (hgr : Gl X "range") (hmr : X.mg "range" = none) (ha : PEv X fa cal n0 xa a) (hb : PEv X fa cal n0 xb b) (hk : okh xa = true) (hkb : okh xb = true) :
    PEv X fa cal n0 (.Call (.Name "list" p) [.Call (.Name "range" p2) [xa, xb] [] pos2] [] pos) (.col al .list .rng [a, b]) :=
  (pe_listRg hc hg hm (prg_2 hgr hmr ha hb (okh_star hk) (okh_star hkb) (okh_back (es := [xb]) (by simp [hkb]))) (okh_star rfl)).imp fun σV H Q q =>
    tE_mono (fun v H' h => tE_mono (fun w H'' ⟨i, j, e1, e2, ok, t, bs, m, μ, u, μ', M, ec, k⟩ => ⟨i, j, e1, e2, ok, col_lst M ec k⟩) h) (rg2_rd (.inl rfl) q)
theorem e_tuple2 {al : Bool} (hc : X.calm = true) (hg : Gl X "tuple") (hm : X.mg "tuple" = none) (hgr : Gl X "range") (hmr : X.mg "range" = none) (ha : PEv X fa cal n0 xa a) (hb : PEv X fa cal n0 xb b) (hk : okh xa = true) (hkb : okh xb = true) :
    PEv X fa cal n0 (.Call (.Name "tuple" p) [.Call (.Name "range" p2) [xa, xb] [] pos2] [] pos) (.col al .tuple .rng [a, b]) :=
  (pe_tupRg hc hg hm (prg_2 hgr hmr ha hb (okh_star hk) (okh_star hkb) (okh_back (es := [xb]) (by simp [hkb]))) (okh_star rfl)).imp fun σV H Q q =>
    tE_mono (fun v H' h => tE_mono (fun w H'' ⟨i, j, e1, e2, ok, t, bs, m, μ, u, μ', M, ec, k⟩ => ⟨i, j, e1, e2, ok, col_tup M ec k⟩) h) (rg2_rd (.inr rfl) q)
/-! ### list(d.items()) -/
theorem itms_ok {K : PySem.W.Frag} {t m : List Addr} {H' : Hp} {bs : List Nat} {μ : Mu} (M : Me K fa bs t m H' μ) : ∀ {kvs : List (Key × V)} {us : List U} {ts : List Addr}, Paired (fun (t : Addr) (q : Key × V) => H' t = some (.tup [kV q.1, q.2])) ts kvs → RpA K fa t m m.length H' us (kvs.map (·.2)) →
    RpA K fa t m m.length H' (((kvs.map (·.1)).zip us).map fun p => .tup [keyU p.1, p.2]) (ts.map V.ref)
  | [], us, ts, p, r => by
    cases p
    cases r
    exact .nil
  | kv :: kvs, us, ts, p, r => by
    cases p with
    | cons e p =>
      cases r with
      | cons r rr => exact .cons (.tup (M.tupN e) (.cons (keyU_ok _) (.one r))) (itms_ok M p rr)
theorem e_itms {p apos cpos : Pos} (hc : X.calm = true) (hg : Gl X "list") (hm : X.mg "list" = none) (hv : bootBuiltins "list" = some (.type "list")) (ha : PEv X fa cal n0 xa a) (hr : okr xa = true) (hline : (apos.endLine == cpos.line) = true) :
    PEv X fa cal n0 (.Call (.Name "list" p) [.Call (.Attribute xa "items" apos) [] [] cpos] [] pos) (.itms a) :=
  (LiI.pe_listItems hc ha hg hm hv (okr_base hr) hline (okh_star rfl)).imp fun σV H Q q => by
    obtain ⟨t, bs, m, σ, μ, u, μ', hb, he, M, ev, k⟩ := q
    simp only [evalE] at ev
    split at ev
    · rename_i u1 μ1 e1
      split at ev
      · rename_i xs e2
        cases ev
        refine seq1 hb he M e1 fun m1 H1 v1 x1 M1 r1 => ?_
        unfold itmU at e2
        split at e2
        · rename_i ks us e3
          cases e2
          obtain ⟨d, kvs, rfl, hH, rfl, ra⟩ := dk_at M1 r1 e3
          refine ⟨d, kvs, rfl, hH, fun H' p ts kp hp hts hpt hl hpr => ?_⟩
          have ex : Ex m1 H1 m1 H' := Ex.of_keep kp
          have M' := M1.ext kp
          obtain ⟨n1, n2⟩ := M1.fresh hp
          exact k m1 H' _ (x1.trans ex) M' (.lst ⟨hl, n1, n2⟩ (itms_ok M' hpr (ra.ex' ex)))
        · cases e2
      · cases ev
    · cases ev
end
end R
namespace R
open PySem PySem.Spec PyProof.Rows L2
def tListVals (te : TE) : TE := fun σ H Q => te σ H fun x H1 => ∃ (d : Addr) (kvs : List (Key × V)), x = .ref d ∧ H1 d = some (.dK kvs) ∧ ∀ l, H1 l = none → Q (.ref l) (upd H1 l (.lst (kvs.map (·.2))))
section
variable {X : Cx} {e : Expr} {te : TE} {p apos cpos pos : Pos}
/-- list(e.values()) -/
theorem pe_listValues (hc : X.calm = true) (he : PE X e te) (hg : Gl X "list") (hm : X.mg "list" = none) (hv : bootBuiltins "list" = some (.type "list")) (hbase : attributeBase e "values" X.env (eval e X.env) = eval e X.env := by rfl) (hline : (apos.endLine == cpos.line) = true := by rfl)
    (hs : starEach [.Call (.Attribute e "values" apos) [] [] cpos] X.env = (false, eval (.Call (.Attribute e "values" apos) [] [] cpos) X.env) :: starEach [] X.env := by rfl) :
    PE X (.Call (.Name "list" p) [.Call (.Attribute e "values" apos) [] [] cpos] [] pos) (tListVals te) := by
  refine ⟨fun pins s σ H Q I hq => ?_⟩
  refine wpAny_Call_Name_kw (ld_blt I hg hm hv ?_)
  refine PyProof.Rows.callWith_type1 ?_ hs rfl
  rw [hs]
  show wpAny _ _ (spliced ((false, eval (.Call (.Attribute e "values" apos) [] [] cpos) X.env) :: backTo pos (starEach [] X.env))) _ _ s
  refine Calls.spliced_cons ?_
  refine wpAny_Call_method (T := "dict") (id := "dict.values") hbase rfl hline F.plainAttrs_dict F.slot_dict_values F.type_dict_values (thn (he.run pins s σ H _ I hq) fun u s1 ⟨x, H1, I1, rx, d, kvs, ex, hd, q⟩ => ?_)
  subst ex
  obtain rfl : u = Value.ref d := rx
  obtain ⟨hz, hs0, vs, kv, hdo⟩ := I1.hok d _ hd
  obtain ⟨ep, hat⟩ := hdo.dictAt
  have lk : kvs.length = vs.length := Paired.length kv
  have I2 : Inv X pins σ H1 { s1 with heap := s1.heap.push { cls := .type "dict_values", data := .fields #[.ref d] } } := I1.kept (t' := s1.toks) fun b ob q => Heap.get?_push_of_some _ q
  refine ⟨hdo.typeIs, hdo.mapOf.noDict, ?_⟩
  show wpAny _ _ (callWith cpos (.builtin "dict.values") [.ref d] [] []) _ X.xe s1
  refine method_meetsIn F.slot_dict_values F.entry_dict_values rfl (PySem.evalArgs_none ⟨rfl, hdo.typeIs, F.args_dict_values_1 _, _, meets_dict_values (mixKind X.prog X.w) d hs0, ⟨vs, hdo⟩, ?_⟩)
  refine Calls.spliced_nil ?_
  refine PySem.W.kdl_call (PySem.W.kdl_values (knd := mixKind X.prog X.w) (kvs := vs) (ep := ep)) (I1.ok.hd hc) ⟨⟨_, Heap.get?_push_size _ rfl, rfl, rfl⟩, hat.push _⟩ (by rw [← lk]; exact hz) fun h' tk acc' c' hkeep hS hacc => ?_
  refine ⟨.ref _, upd H1 _ (.lst (kvs.map (·.2))), I2.laid hkeep (Nat.le_refl _) (show ObjOk X.prog X.w _ _ _ (.lst (kvs.map (·.2))) from ⟨?_, acc'.toList, c', ?_, ?_⟩), rfl, q _ (I2.hok.fresh (Nat.le_refl _))⟩
  · rw [List.length_map]; exact hz
  · have el : acc'.toList.length = acc'.size := by simp
    refine vals_of_at (by rw [List.length_map, el, hacc.1, lk]) fun j x w h1 h2 => ?_
    obtain ⟨k, hky⟩ := hacc.2 j w (by rw [← Array.getElem?_toList]; exact h2)
    rw [List.getElem?_map] at h1
    cases hq : kvs[j]? with
    | none => rw [hq] at h1; cases h1
    | some q =>
      rw [hq] at h1
      cases h1
      obtain ⟨qv, g1, g2, g3⟩ := LiI.paired_get kv hq
      rw [hky] at g1
      cases g1
      exact g3
  · rw [Array.toArray_toList]; exact hS
end
section
variable {X : Cx} {fa : Nat → Option Addr} {cal : Nat → List U → Mu → Option (U × Mu)} {n0 : Nat} {a b : E} {xa xb : Expr} {pos p p2 pos2 : Pos}
theorem e_vals {p apos cpos : Pos} (hc : X.calm = true) (hg : Gl X "list") (hm : X.mg "list" = none) (hv : bootBuiltins "list" = some (.type "list")) (ha : PEv X fa cal n0 xa a) (hr : okr xa = true) (hline : (apos.endLine == cpos.line) = true) :
    PEv X fa cal n0 (.Call (.Name "list" p) [.Call (.Attribute xa "values" apos) [] [] cpos] [] pos) (.vals a) :=
  (pe_listValues hc ha hg hm hv (okr_base hr) hline (okh_star rfl)).imp fun σV H Q q => by
    obtain ⟨t, bs, m, σ, μ, u, μ', hb, he, M, ev, k⟩ := q
    simp only [evalE] at ev
    split at ev
    · rename_i u1 μ1 e1
      split at ev
      · rename_i xs e2
        cases ev
        refine seq1 hb he M e1 fun m1 H1 v1 x1 M1 r1 => ?_
        unfold valU at e2
        split at e2
        · rename_i ks us e3
          cases e2
          obtain ⟨d, kvs, rfl, hH, rfl, ra⟩ := dk_at M1 r1 e3
          exact ⟨d, kvs, rfl, hH, fun l hl => Kn.lst (al := false) (k.ex x1) M1 hl ra⟩
        · cases e2
      · cases ev
    · cases ev
end
end R

set_option Elab.async false
set_option linter.all false
set_option maxRecDepth 100000
set_option maxHeartbeats 4000000
/-! R3x: sorted(set(..)), len(set(..)) of whole numbers -/
namespace R
open PySem PySem.Spec PyProof.Rows L2

/-! ### in order, each once -/
theorem insI_mem (x y : Int) : ∀ l : List Int, y ∈ insI x l ↔ y = x ∨ y ∈ l
  | [] => by simp [insI]
  | z :: l => by
    simp only [insI]
    split
    · simp
    · split
      · rename_i h; subst h; simp
      · rw [List.mem_cons, insI_mem x y l, List.mem_cons]
        constructor
        · rintro (a | a | a)
          · exact .inr (.inl a)
          · exact .inl a
          · exact .inr (.inr a)
        · rintro (a | a | a)
          · exact .inr (.inl a)
          · exact .inl a
          · exact .inr (.inr a)
theorem insI_lt (x : Int) : ∀ {l : List Int}, l.Pairwise (· < ·) → (insI x l).Pairwise (· < ·)
  | [], _ => by simp [insI]
  | z :: l, h => by
    obtain ⟨h1, h2⟩ := List.pairwise_cons.mp h
    simp only [insI]
    split
    · rename_i hx
      refine List.pairwise_cons.mpr ⟨fun y hy => ?_, h⟩
      rcases List.mem_cons.mp hy with rfl | hy
      · exact hx
      · have := h1 y hy; omega
    · split
      · exact h
      · refine List.pairwise_cons.mpr ⟨fun y hy => ?_, insI_lt x h2⟩
        rcases (insI_mem x y l).mp hy with rfl | hy
        · omega
        · exact h1 y hy
theorem ssrt_lt : ∀ l : List Int, (ssrt l).Pairwise (· < ·)
  | [] => List.Pairwise.nil
  | x :: l => insI_lt x (ssrt_lt l)
theorem ssrt_mem (y : Int) : ∀ l : List Int, y ∈ ssrt l ↔ y ∈ l
  | [] => by simp [ssrt]
  | x :: l => by simp only [ssrt]; rw [insI_mem, ssrt_mem y l, List.mem_cons]
theorem lt_uniq {a b : List Int} (ha : a.Pairwise (· < ·)) (hb : b.Pairwise (· < ·)) (h : ∀ x, x ∈ a ↔ x ∈ b) : a = b := by
  have na : a.Nodup := ha.imp fun h => by omega
  have nb : b.Nodup := hb.imp fun h => by omega
  exact ((List.perm_ext_iff_of_nodup na nb).mpr h).eq_of_pairwise (fun x y _ _ h1 h2 => by omega) ha hb
theorem ssrt_uniq {ns out : List Int} (h : out.Pairwise (· < ·)) (hm : ∀ k, k ∈ out ↔ k ∈ ns) : out = ssrt ns := lt_uniq h (ssrt_lt ns) fun x => by rw [hm, ssrt_mem]
/-! ### over the layer -/
section
variable {X : Cx}
def rSetIs (K : PySem.W.Frag) (w : World) : List V → Hp → VK → Prop := fun vs H Q => ∃ (l : Addr) (ns : List Int), vs = [V.ref l] ∧ (SqL K H l (ns.map V.int) ∨ SqT K H l (ns.map V.int)) ∧ ns.length < 1000 ∧
  ∀ p c, H p = none → c ≤ ns.length → Q (.ref p) (upd H p (SetO w p (fun j => decide (j ∈ ns)) c))
theorem cr_setIs (hc : X.calm = true) : CallR X (.type "set") (rSetIs X.K X.w) := by
  intro pins s σ H xs us Q I r h
  obtain ⟨l, ns, rfl, hq, hn, q⟩ := h
  obtain ⟨u, rfl, ru⟩ := vals1 r
  cases ru
  have fin : ∀ (h' : Heap) (tk c : Nat), SetR X.w h' s.heap.objs.size (fun j => decide (j ∈ ns)) c → c ≤ ns.length → (∀ b o, s.heap.get? b = some o → h'.get? b = some o) → ∃ x H', L2.Inv X pins σ H' { s with heap := h', toks := tk } ∧ RelV x (.ref s.heap.objs.size) ∧ Q x H' := fun h' tk c hS hcn hk =>
    ⟨.ref s.heap.objs.size, _, I.laid (t' := tk) hk (Nat.le_refl _) (setO_new hS), rfl, q _ _ (I.hok.fresh (Nat.le_refl _)) hcn⟩
  rcases hq with hq | hq
  · obtain ⟨its, rv, pl, hz⟩ := I.list hq
    exact call_set_lst ns (I.ok.hd hc) pl.isList (by simpa using intsAre_of rv) (by unfold scanBound; omega) fin
  · obtain ⟨its, rv, ht, hz⟩ := I.tuple hq
    exact call_set_tupI ns (I.ok.hd hc) ht (by simpa using intsAre_of rv) (by unfold scanBound; omega) fin
def rLenSet (w : World) : List V → Hp → VK → Prop := fun vs H Q => ∃ (a : Addr) (S : Int → Bool) (n : Nat), vs = [V.ref a] ∧ H a = some (SetO w a S n) ∧ ∀ ks : List Int, ks.Nodup → (∀ k, k ∈ ks ↔ S k = true) → ks.length = n → Q (.int n) H
theorem cr_lenSet : CallR X (.builtin "len") (rLenSet X.w) := by
  intro pins s σ H vs us Q I r h
  obtain ⟨a, S, n, rfl, ha, q⟩ := h
  obtain ⟨u, rfl, ru⟩ := vals1 r
  cases ru
  obtain ⟨o, es, ep, t, ho, hex, hd, g, nd, hm, hb, hf, hn, hr, hl⟩ := setO_get I ha
  refine call_len_set ho hex hd hf (by unfold scanBound at hb; omega) ⟨.int n, H, (I.tok _), ⟨_, by rw [hn]⟩, q (es.toList.map keyOf) nd (fun k => (hm k).symm) (by rw [List.length_map, Array.length_toList, hn])⟩
end
section
variable {X : Cx} {fa : Nat → Option Addr} {cal : Nat → List U → Mu → Option (U × Mu)} {n0 : Nat}
variable {a b c : E} {xa xb xc : Expr} {p p2 pos pos2 : Pos}
theorem asInts_ok {K : PySem.W.Frag} {t m : List Addr} {n : Nat} {H : Hp} : ∀ {xs : List U} {vs : List V} {ns : List Int}, RpA K fa t m n H xs vs → mapO asInt xs = some ns → vs = ns.map V.int
  | _, _, _, .nil, h => by cases h; rfl
  | _, _, _, .cons r ra, h => by
    obtain ⟨z, zs, e1, e2, rfl⟩ := mapO_cons h
    rw [asInts_ok ra e2]
    cases r <;> simp [asInt] at e1
    subst e1
    rfl
theorem intT_at {K : PySem.W.Frag} {t m : List Addr} {H : Hp} {bs : List Nat} {μ : Mu} {u : U} {v : V} {ns : List Int} (M : Me K fa bs t m H μ) (r : Rp K fa t m m.length H u v) (h : intT μ u = some ns) : ∃ l, v = .ref l ∧ (SqL K H l (ns.map V.int) ∨ SqT K H l (ns.map V.int)) := by
  unfold intT at h
  split at h
  · rename_i xs e
    unfold asS at e
    split at e
    · cases e
      cases r with
      | tup f ra => rw [← asInts_ok ra h]; exact ⟨_, rfl, .inr f.sq⟩
    · obtain ⟨l, vs, rfl, hq, ra⟩ := asL_ok M r e
      rw [← asInts_ok ra h]
      exact ⟨l, rfl, .inl hq⟩
  · cases h
theorem e_sset {al : Bool} (hc : X.calm = true) (hg : Gl X "sorted") (hm : X.mg "sorted" = none) (hg2 : Gl X "set") (hm2 : X.mg "set" = none) (ha : PEv X fa cal n0 xa a) (hk : okh xa = true) :
    PEv X fa cal n0 (.Call (.Name "sorted" p) [.Call (.Name "set" p2) [xa] [] pos2] [] pos) (.sset al a) :=
  (pe_callB (cr_sortedSet hc) hg hm boot_sorted (pa_cons (pe_callTy (cr_setIs hc) hg2 hm2 PyProof.Rows.boot_set (a_cons ha a_nil hk) (by decide) (by decide) (okh_star hk) rfl) pa_nil (okh_star rfl)) (by decide) (by decide) (okh_star rfl) rfl).imp fun σV H Q q => by
    obtain ⟨t, bs, m, σ, μ, u, μ', hb, he, M, ev, k⟩ := q
    simp only [evalE] at ev
    split at ev
    · rename_i u1 μ1 e1
      split at ev
      · rename_i ns e2
        split at ev
        · rename_i hz
          obtain ⟨rfl, rfl⟩ := Prod.mk.inj (Option.some.inj ev)
          refine ⟨t, bs, m, σ, μ, [u1], _, hb, he, M, by simp only [evalL, e1]; rfl, fun m1 H1 vs x1 M1 ra => ?_⟩
          obtain ⟨v, rfl, r1⟩ := rpa1 ra
          obtain ⟨l, rfl, hq⟩ := intT_at M1 r1 e2
          refine ⟨l, ns, rfl, hq, by omega, fun D cc hD hcc => ⟨D, _, cc, rfl, upd_same, by omega, fun out q hlt hmem hlen hq0 => ?_⟩⟩
          have eo : out = ssrt ns := ssrt_uniq hlt fun k => by rw [hmem]; simp
          subst eo
          have ex : Ex m1 H1 m1 (upd H1 D (SetO X.w D (fun j => decide (j ∈ ns)) cc)) := Ex.upd hD
          have ri : RpA X.K fa t m1 m1.length (upd H1 D (SetO X.w D (fun j => decide (j ∈ ns)) cc)) ((ssrt ns).map U.int) ((ssrt ns).map V.int) := by
            generalize ssrt ns = l
            induction l with
            | nil => exact .nil
            | cons x l ih => exact .cons (.int x) ih
          exact (k.ex (x1.trans ex)).lst (M1.upd hD) hq0 ri
        · cases ev
      · cases ev
    · cases ev
theorem e_lset (hc : X.calm = true) (hg : Gl X "len") (hm : X.mg "len" = none) (hg2 : Gl X "set") (hm2 : X.mg "set" = none) (ha : PEv X fa cal n0 xa a) (hk : okh xa = true) :
    PEv X fa cal n0 (.Call (.Name "len" p) [.Call (.Name "set" p2) [xa] [] pos2] [] pos) (.lset a) :=
  (pe_callB cr_lenSet hg hm PySem.boot_len (pa_cons (pe_callTy (cr_setIs hc) hg2 hm2 PyProof.Rows.boot_set (a_cons ha a_nil hk) (by decide) (by decide) (okh_star hk) rfl) pa_nil (okh_star rfl)) (by decide) (by decide) (okh_star rfl) rfl).imp fun σV H Q q => by
    obtain ⟨t, bs, m, σ, μ, u, μ', hb, he, M, ev, k⟩ := q
    simp only [evalE] at ev
    split at ev
    · rename_i u1 μ1 e1
      split at ev
      · rename_i ns e2
        split at ev
        · rename_i hz
          cases ev
          refine ⟨t, bs, m, σ, μ, [u1], _, hb, he, M, by simp only [evalL, e1]; rfl, fun m1 H1 vs x1 M1 ra => ?_⟩
          obtain ⟨v, rfl, r1⟩ := rpa1 ra
          obtain ⟨l, rfl, hq⟩ := intT_at M1 r1 e2
          refine ⟨l, ns, rfl, hq, by omega, fun D cc hD hcc => ⟨D, _, cc, rfl, upd_same, fun ks nd hmem hlen => ?_⟩⟩
          have eo : cc = (ssrt ns).length := by
            rw [← hlen]
            exact ((List.perm_ext_iff_of_nodup nd ((ssrt_lt ns).imp fun h => by omega)).mpr fun k => by rw [hmem, ssrt_mem]; simp).length_eq
          subst eo
          have ex : Ex m1 H1 m1 (upd H1 D (SetO X.w D (fun j => decide (j ∈ ns)) (ssrt ns).length)) := Ex.upd hD
          exact (k.ex (x1.trans ex)).here (M1.upd hD) (.int _)
        · cases ev
      · cases ev
    · cases ev
end
end R

set_option Elab.async false
set_option linter.all false
set_option maxRecDepth 100000
set_option maxHeartbeats 4000000
/-! R3y: list comprehensions with two for -/
namespace R
open PySem PySem.Spec PyProof.Rows L2

section
variable {X : Cx} {fa : Nat → Option Addr} {cal : Nat → List U → Mu → Option (U × Mu)} {n0 : Nat}
variable {xa xb xc : Expr} {pos : Pos} {tg tg1 : Expr}
/-- a turn of a comprehension -/
theorem turn_rd {p : Pt} {ec : Env → Mu → Option (U × Mu)} {b : E} {ws : List Nat} {K : PySem.W.Frag} (hws : ∀ i ∈ ptSlots p, i ∈ ws) {σ0 : Env} {σV : L2.St} {t' m2 : List Addr} {bs : List Nat} (hbl : bs.length = n0) {H2 H3 : Hp} {μ2 μ3 : Mu} {x : U} {v : V} {oy : Option U} {Ny : V → Hp → Prop} {Nn : Hp → Prop}
    (hs : (match bindP μ2 p x (wipeE σ0 ws) with
      | some σ' => match ec σ' μ2 with
        | some (t, μ) => match truth μ t with
          | some true => match evalE cal n0 b σ' μ with
            | some (y, μ) => some (some y, μ)
            | none => none
          | some false => some (none, μ)
          | none => none
        | none => none
      | none => none) = some (oy, μ3)) (he : EnvR K fa t' m2 H2 σ0 σV) (M : Me K fa bs t' m2 H2 μ2) (kp : ∀ a o, H2 a = some o → H3 a = some o) (r : Rp K fa t' m2 m2.length H3 x v)
    (hy : ∀ y, oy = some y → ∀ m4 H4 w, Ex m2 H3 m4 H4 → Me K fa bs t' m4 H4 μ3 → Rp K fa t' m4 m4.length H4 y w → Ny w H4) (hn : oy = none → ∀ m4 H4, Ex m2 H3 m4 H4 → Me K fa bs t' m4 H4 μ3 → Nn H4) :
    tGp K fa p v (L2.wipe σV ws) H3 fun σ2 H2 => L2.wipe σ2 ws = L2.wipe σV ws ∧ tT K fa n0 ec σ2 H2 fun b1 H3 => if b1 = true then tE K fa n0 (evalE cal n0 b) σ2 H3 fun y H4 => Ny y H4 else Nn H3 := by
  have x3 : Ex m2 H2 m2 H3 := Ex.of_keep kp
  split at hs
  · rename_i σ' eb
    refine ⟨t', bs, m2, μ2, wipeE σ0 ws, x, σ', (he.wipe ws).ex x3, M.ext kp, r, eb, fun σV2 he2 s2 => ⟨by rw [s2 ws hws, wipe_wipe], ?_⟩⟩
    split at hs
    · rename_i tv μ4 hec
      split at hs
      · rename_i et
        refine ⟨t', bs, m2, σ', μ2, tv, μ4, true, hbl, he2, M.ext kp, hec, et, fun m4 H4 x4 M4 => ?_⟩
        simp only [↓reduceIte]
        split at hs
        · rename_i y μ5 ey
          cases hs
          exact ⟨t', bs, m4, σ', μ4, y, _, hbl, he2.ex x4, M4, ey, fun m5 H5 w x5 M5 rw' => hy y rfl m5 H5 w (x4.trans x5) M5 rw'⟩
        · cases hs
      · rename_i et
        cases hs
        refine ⟨t', bs, m2, σ', μ2, tv, _, false, hbl, he2, M.ext kp, hec, et, fun m4 H4 x4 M4 => ?_⟩
        simp only [↓reduceIte, Bool.false_eq_true]
        exact hn rfl m4 H4 x4 M4
      · cases hs
    · cases hs
  · cases hs
theorem ExT.ex {t m m1 m2 : List Addr} {H H1 H2 : Hp} (a : ExT t m H m1 H1) (ht : ∀ c ∈ t, c ∉ m1) (b : Ex m1 H1 m2 H2) (hk : ∀ c ∈ t, H c = none ∨ ∃ o, H1 c = some o) : ExT t m H m2 H2 where
  pre := by
    obtain ⟨r, rfl⟩ := a.pre; obtain ⟨r', rfl⟩ := b.pre; exact ⟨r ++ r', by simp⟩
  keep := fun c o h n z => b.keep c o (a.keep c o h n z) (a.nin h n)
  new := fun c h n => by
    by_cases q : c ∈ m1
    · exact a.new c q n
    · cases hc : H c with
      | none => rfl
      | some o =>
        have w := b.new c h q
        by_cases z : c ∈ t
        · rcases hk c z with k | ⟨o', k⟩
          · rw [hc] at k; cases k
          · rw [k] at w; cases w
        · rw [a.keep c o hc n z] at w
          cases w
theorem lc2_rd {p p1 : Pt} {ik ik1 : Ik} {its its1 : List E} {cs cs1 : List E} {b : E} {al : Bool} {ws ws1 : List Nat} {K : PySem.W.Frag} (hws : ∀ i ∈ ptSlots p, i ∈ ws) (hws1 : ∀ i ∈ ptSlots p1, i ∈ ws1) {σV : L2.St} {H : Hp} {Q : VK} (q : tE K fa n0 (evalE cal n0 (.comp2 al p ik its cs p1 ik1 its1 cs1 b ws ws1)) σV H Q) :
    tLc2 (tI K fa n0 (evalL cal n0 its) ik) (tGp K fa p) (tT K fa n0 (evalC cal n0 cs)) (tI K fa n0 (evalL cal n0 its1) ik1) (tGp K fa p1) (tT K fa n0 (evalC cal n0 cs1)) (tE K fa n0 (evalE cal n0 b)) ws ws1 σV H Q := by
  obtain ⟨t, bs, m0, σ0, μ0, u0, μ', hbl, he0, M0, ev, k⟩ := q
  have hl := sz_line
  simp only [evalE] at ev
  split at ev
  · rename_i us μ1 e1
    split at ev
    · rename_i xs e2
      split at ev
      · rename_i ys9 μ9 e3
        obtain ⟨rfl, rfl⟩ := Prod.mk.inj (Option.some.inj ev)
        generalize hstep : (fun (x : U) (μ : Mu) => match bindP μ p x (wipeE σ0 ws) with
          | some σ' => match evalC cal n0 cs σ' μ with
            | some (t, μ) => match truth μ t with
              | some true => match evalL cal n0 its1 σ' μ with
                | some (us1, μ) => match walk μ ik1 us1 with
                  | some (.inl ys) => some (some (ys, fun (y : U) (μ : Mu) => match bindP μ p1 y (wipeE σ' ws1) with
                      | some σ'' => match evalC cal n0 cs1 σ'' μ with
                        | some (t, μ) => match truth μ t with
                          | some true => match evalE cal n0 b σ'' μ with
                            | some (y, μ) => some (some y, μ)
                            | none => none
                          | some false => some (none, μ)
                          | none => none
                        | none => none
                      | none => none), μ)
                  | _ => none
                | none => none
              | some false => some (none, μ)
              | none => none
            | none => none
          | none => none) = step at e3
        refine ⟨t, bs, m0, σ0, μ0, us, μ1, .inl xs, hbl, he0, M0, e1, e2, fun m1 H1 J x1 M1 wk D hD => ?_⟩
        have wk : WkL K fa t m1 H1 J xs := wk
        obtain ⟨Dm, Dt⟩ := M1.fresh hD
        have he1 := he0.ex x1
        refine ⟨fun i mm H' => mm = xs.length - i ∧ i ≤ xs.length ∧ ∃ m μ acc vacc, Ex m1 H1 m H' ∧ Me K fa bs (D :: t) m H' μ ∧ H' D = some (.lst vacc) ∧ RpA K fa (D :: t) m m.length H' acc vacc ∧ comp2L step (xs.drop i) acc μ = some (ys9, μ9),
          ⟨xs.length, by simp, Nat.zero_le _, m1, μ1, [], [], (Ex.refl _ _).tmp hD, M1.tn hD, upd_same, .nil, by simpa using e3⟩, ?_⟩
        rintro i mm H2 ⟨rfl, hle, m2, μ2, acc, vacc, x2, M2, hDv, ra, ev2⟩
        by_cases hlt : i < xs.length
        · refine .inr ⟨wk.go i m2 H2 x2.toT hlt, fun H' => i + 1 ≤ xs.length ∧ ∃ m μ acc vacc, Ex m1 H1 m H' ∧ Me K fa bs (D :: t) m H' μ ∧ H' D = some (.lst vacc) ∧ RpA K fa (D :: t) m m.length H' acc vacc ∧ comp2L step (xs.drop (i + 1)) acc μ = some (ys9, μ9), fun H' w => ⟨xs.length - (i + 1), by omega, rfl, w.1, w.2⟩, fun x H3 y => ?_⟩
          obtain ⟨u, hu, kp, r⟩ := wk.yld i m2 H2 (D :: t) bs μ2 x H3 hlt x2.toT (fun a h => (List.mem_cons.mp h).elim (fun z => .inr (by rw [z]; exact hD)) .inl) M2 y
          have hd : xs.drop i = u :: xs.drop (i + 1) := by
            rw [List.drop_eq_getElem_cons hlt]
            rw [List.getElem?_eq_getElem hlt] at hu
            cases hu; rfl
          rw [hd] at ev2
          simp only [comp2L] at ev2
          have x3 : Ex m2 H2 m2 H3 := Ex.of_keep kp
          have x23 := x2.trans x3
          have heD : EnvR K fa (D :: t) m2 H2 σ0 σV := ⟨he1.len, fun j w q => let ⟨v, a, b⟩ := he1.at_ j w q; ⟨v, a, (b.tn hD).ex' x2⟩⟩
          have D2 : D ∉ m2 := (M2.tt D (by simp)).1
          have hD3 := kp D _ hDv
          have M3 := M2.ext kp
          have ra3 := ra.ex' x3
          rw [← hstep] at ev2
          simp only at ev2
          split at ev2
          · rename_i yi st μ8 e4
            rw [hstep] at ev2
            split at e4
            · rename_i σ' eb
              refine ⟨D :: t, bs, m2, μ2, wipeE σ0 ws, u, σ', (heD.wipe ws).ex x3, M3, r, eb, fun σV2 he2 s2 => ⟨by rw [s2 ws hws, wipe_wipe], ?_⟩⟩
              split at e4
              · rename_i tv μ4 ec
                split at e4
                · rename_i et
                  refine ⟨D :: t, bs, m2, σ', μ2, tv, μ4, true, hbl, he2, M3, ec, et, fun m4 H4 x4 M4 => ?_⟩
                  simp only [↓reduceIte]
                  split at e4
                  · rename_i us1 μ5 e5
                    split at e4
                    · rename_i ys e6
                      simp only [Option.some.injEq, Prod.mk.injEq] at e4
                      obtain ⟨⟨rfl, hst⟩, rfl⟩ := e4
                      refine ⟨D :: t, bs, m4, σ', μ4, us1, μ5, .inl ys, hbl, he2.ex x4, M4, e5, e6, fun m6 H6 J1 x6 M6 wk1 => ?_⟩
                      have wk1 : WkL K fa (D :: t) m6 H6 J1 ys := wk1
                      have D4 := x4.keep D _ hD3 D2
                      have Dm4 : D ∉ m4 := (M4.tt D (by simp)).1
                      have D6 := x6.keep D _ D4 Dm4
                      have Dm6 : D ∉ m6 := (M6.tt D (by simp)).1
                      have he6 := (he2.ex x4).ex x6
                      have x16 := (x23.trans x4).trans x6
                      have ra6 := (ra3.ex' x4).ex' x6
                      split at ev2
                      · rename_i accE μE e7
                        refine ⟨fun j k H' => k = ys.length - j ∧ j ≤ ys.length ∧ ∃ m μ acc vacc, ExT (D :: t) m6 H6 m H' ∧ Ex m1 H1 m H' ∧ Me K fa bs (D :: t) m H' μ ∧ H' D = some (.lst vacc) ∧ RpA K fa (D :: t) m m.length H' acc vacc ∧ compL st (ys.drop j) acc μ = some (accE, μE),
                          ⟨ys.length, by simp, Nat.zero_le _, m6, μ5, acc, vacc, ExT.refl, x16, M6, D6, ra6, by simpa using e7⟩, ?_⟩
                        rintro j kk H7 ⟨rfl, hlej, m7, μ7, acc7, vacc7, xT, x17, M7, hD7, ra7, ev7⟩
                        by_cases hj : j < ys.length
                        · refine .inr ⟨wk1.go j m7 H7 xT hj, fun H' => j + 1 ≤ ys.length ∧ ∃ m μ acc vacc, ExT (D :: t) m6 H6 m H' ∧ Ex m1 H1 m H' ∧ Me K fa bs (D :: t) m H' μ ∧ H' D = some (.lst vacc) ∧ RpA K fa (D :: t) m m.length H' acc vacc ∧ compL st (ys.drop (j + 1)) acc μ = some (accE, μE), fun H' w => ⟨ys.length - (j + 1), by omega, rfl, w.1, w.2⟩, fun z H8 yz => ?_⟩
                          obtain ⟨u1, hu1, kp1, r1⟩ := wk1.yld j m7 H7 (D :: t) bs μ7 z H8 hj xT (fun a h => .inl h) M7 yz
                          have hd1 : ys.drop j = u1 :: ys.drop (j + 1) := by
                            rw [List.drop_eq_getElem_cons hj]
                            rw [List.getElem?_eq_getElem hj] at hu1
                            cases hu1; rfl
                          rw [hd1] at ev7
                          simp only [compL] at ev7
                          have x8 : Ex m7 H7 m7 H8 := Ex.of_keep kp1
                          have he7 : EnvR K fa (D :: t) m7 H7 σ' σV2 := ⟨he6.len, fun j w q => let ⟨v, a, b⟩ := he6.at_ j w q; ⟨v, a, b.exT xT xT.len⟩⟩
                          have Dm7 : D ∉ m7 := (M7.tt D (by simp)).1
                          have hD8 := kp1 D _ hD7
                          have tt7 : ∀ c ∈ (D :: t), c ∉ m7 := fun c hc => (M7.tt c hc).1
                          have exs : ∀ c ∈ (D :: t), H6 c = none ∨ ∃ o, H7 c = some o := fun c hc => by
                            by_cases e : H6 c = none
                            · exact .inl e
                            · refine .inr ?_
                              rcases List.mem_cons.mp hc with rfl | hc
                              · exact ⟨_, hD7⟩
                              · cases h1c : H1 c with
                                | none => exact absurd rfl (fun (_ : c = c) => absurd (M1.tt c hc).2 (by rw [h1c]; simp))
                                | some o => exact ⟨o, x17.keep c o h1c (M1.tt c hc).1⟩
                          split at ev7
                          · rename_i y' μ10 e8
                            split at ev7
                            · rename_i hz
                              rw [← hst] at e8
                              refine turn_rd hws1 hbl e8 he7 M7 kp1 r1 (fun y0 hy m9 H9 w x9 M9 rw' => ?_) (fun z => by cases z)
                              cases hy
                              have hD9 : H9 D = some (.lst vacc7) := x9.keep D _ hD8 Dm7
                              have x79 := x8.trans x9
                              refine ⟨vacc7, hD9, by rw [← ra7.length]; omega, hj, m9, μ10, acc7 ++ [y'], vacc7 ++ [w], ?_, (x17.trans x79).tmp hD, M9.td (by simp), upd_same, ?_, ev7⟩
                              · have e9 := xT.ex tt7 x79 exs
                                refine ⟨e9.pre, fun a o h n z => ?_, e9.new⟩
                                rw [upd_ne (fun q : a = D => z (by rw [q]; simp))]
                                exact e9.keep a o h n z
                              · exact (((ra7.ex' x8).ex' x9).append (.one rw')).td (by simp)
                            · cases ev7
                          · rename_i μ10 e8
                            rw [← hst] at e8
                            refine turn_rd hws1 hbl e8 he7 M7 kp1 r1 (fun y0 hy => by cases hy) (fun _ m9 H9 x9 M9 => ?_)
                            have hD9 : H9 D = some (.lst vacc7) := x9.keep D _ hD8 Dm7
                            have x79 := x8.trans x9
                            exact ⟨hj, m9, μ10, acc7, vacc7, xT.ex tt7 x79 exs, x17.trans x79, M9, hD9, (ra7.ex' x8).ex' x9, ev7⟩
                          · cases ev7
                        · have e : j = ys.length := by omega
                          subst e
                          rw [List.drop_length] at ev7
                          simp only [compL] at ev7
                          obtain ⟨rfl, rfl⟩ := Prod.mk.inj (Option.some.inj ev7)
                          exact .inl ⟨wk1.stop _ m7 H7 xT (Nat.le_refl _), hlt, m7, _, _, vacc7, x17, M7, hD7, ra7, ev2⟩
                      · cases ev2
                    · cases e4
                  · cases e4
                · cases e4
                · cases e4
              · cases e4
            · cases e4
          · rename_i μ8 e4
            rw [hstep] at ev2
            split at e4
            · rename_i σ' eb
              refine ⟨D :: t, bs, m2, μ2, wipeE σ0 ws, u, σ', (heD.wipe ws).ex x3, M3, r, eb, fun σV2 he2 s2 => ⟨by rw [s2 ws hws, wipe_wipe], ?_⟩⟩
              split at e4
              · rename_i tv μ4 ec
                split at e4
                · split at e4
                  · split at e4
                    · cases e4
                    · cases e4
                  · cases e4
                · rename_i et
                  cases e4
                  refine ⟨D :: t, bs, m2, σ', μ2, tv, _, false, hbl, he2, M3, ec, et, fun m4 H4 x4 M4 => ?_⟩
                  simp only [↓reduceIte, Bool.false_eq_true]
                  have hD4 : H4 D = some (.lst vacc) := x4.keep D _ hD3 D2
                  exact ⟨hlt, m4, _, acc, vacc, x23.trans x4, M4, hD4, ra3.ex' x4, ev2⟩
                · cases e4
              · cases e4
            · cases e4
          · cases ev2
        · have e : i = xs.length := by omega
          subst e
          rw [List.drop_length] at ev2
          simp only [comp2L] at ev2
          obtain ⟨rfl, rfl⟩ := Prod.mk.inj (Option.some.inj ev2)
          exact .inl ⟨wk.stop _ m2 H2 x2.toT (Nat.le_refl _), (k.ex x1).tmpL hD Dt x2 M2 hDv ra⟩
      · cases ev
    · cases ev
  · cases ev
theorem e_comp2 {p p1 : Pt} {ik ik1 : Ik} {its its1 : List E} {cs cs1 : List E} {b : E} {al : Bool} {elt iter iter1 : Expr} {ifs ifs1 : List Expr} {scope : Scope} {own : List (Str × Nat)} {ws1 : List Nat} (hc : X.calm = true) (hN : X.N.Nodup) (hi : PIv X fa cal n0 tg iter ik its) (ok : BlkOk X.N X.env.scope scope own) (hv : ∀ i ∈ ws1, i ∈ own.map (·.2))
    (hg : ∀ (s : Shared) (H : Hp) (C : Addr) (cl : List (Str × Addr)) (fp : List Addr), PG (X.blk s H scope (compEnvC scope cl C X.env) fp) tg (tGp X.K fa p))
    (ht : ∀ (s : Shared) (H : Hp) (C : Addr) (cl : List (Str × Addr)) (fp : List Addr), PTs (X.blk s H scope (compEnvC scope cl C X.env) fp) ifs (tT X.K fa n0 (evalC cal n0 cs)))
    (hi1 : ∀ (s : Shared) (H : Hp) (C : Addr) (cl : List (Str × Addr)) (fp : List Addr), PI (X.blk s H scope (compEnvC scope cl C X.env) fp) tg1 iter1 (tI X.K fa n0 (evalL cal n0 its1) ik1))
    (hg1 : ∀ (s : Shared) (H : Hp) (C : Addr) (cl : List (Str × Addr)) (fp : List Addr), PG (X.blk s H scope (compEnvC scope cl C X.env) fp) tg1 (tGp X.K fa p1))
    (ht1 : ∀ (s : Shared) (H : Hp) (C : Addr) (cl : List (Str × Addr)) (fp : List Addr), PTs (X.blk s H scope (compEnvC scope cl C X.env) fp) ifs1 (tT X.K fa n0 (evalC cal n0 cs1)))
    (he : ∀ (s : Shared) (H : Hp) (C : Addr) (cl : List (Str × Addr)) (fp : List Addr), PE (X.blk s H scope (compEnvC scope cl C X.env) fp) elt (tE X.K fa n0 (evalE cal n0 b))) (hk : okh iter = true) (hk1 : okh iter1 = true) (hws : ∀ i ∈ ptSlots p, i ∈ own.map (·.2)) (hws1 : ∀ i ∈ ptSlots p1, i ∈ ws1) :
    PEv X fa cal n0 (.ListComp elt [⟨tg, iter, ifs, 0⟩, ⟨tg1, iter1, ifs1, 0⟩] scope pos) (.comp2 al p ik its cs p1 ik1 its1 cs1 b (own.map (·.2)) ws1) :=
  (pe_lc2 hc hN hi ok hv hg ht hi1 hg1 ht1 he (okh_fold hk) fun env x => okh_fold hk1 x).imp fun σV H Q q => lc2_rd hws hws1 q
theorem s_setLc2 {i : Nat} {y : Str} {py spos : Pos} {p p1 : Pt} {ik ik1 : Ik} {its its1 : List E} {cs cs1 : List E} {b : E} {al : Bool} {elt iter iter1 : Expr} {ifs ifs1 : List Expr} {scope : Scope} {own : List (Str × Nat)} {ws1 : List Nat} (hc : X.calm = true) (hN : X.N.Nodup) (hy : X.N[i]? = some y) (hyl : X.env.scope.names.lookup y = some .local)
    (hsw : swapsWith (.ListComp elt [⟨tg, iter, ifs, 0⟩, ⟨tg1, iter1, ifs1, 0⟩] scope pos) (some (.Name y py)) spos.line X.env = pure true) (hi : PIv X fa cal n0 tg iter ik its) (ok : BlkOk X.N X.env.scope scope own) (hv : ∀ i ∈ ws1, i ∈ own.map (·.2))
    (hg : ∀ (s : Shared) (H : Hp) (C : Addr) (cl : List (Str × Addr)) (fp : List Addr), PG (X.blk s H scope (compEnvC scope cl C X.env) fp) tg (tGp X.K fa p))
    (ht : ∀ (s : Shared) (H : Hp) (C : Addr) (cl : List (Str × Addr)) (fp : List Addr), PTs (X.blk s H scope (compEnvC scope cl C X.env) fp) ifs (tT X.K fa n0 (evalC cal n0 cs)))
    (hi1 : ∀ (s : Shared) (H : Hp) (C : Addr) (cl : List (Str × Addr)) (fp : List Addr), PI (X.blk s H scope (compEnvC scope cl C X.env) fp) tg1 iter1 (tI X.K fa n0 (evalL cal n0 its1) ik1))
    (hg1 : ∀ (s : Shared) (H : Hp) (C : Addr) (cl : List (Str × Addr)) (fp : List Addr), PG (X.blk s H scope (compEnvC scope cl C X.env) fp) tg1 (tGp X.K fa p1))
    (ht1 : ∀ (s : Shared) (H : Hp) (C : Addr) (cl : List (Str × Addr)) (fp : List Addr), PTs (X.blk s H scope (compEnvC scope cl C X.env) fp) ifs1 (tT X.K fa n0 (evalC cal n0 cs1)))
    (he : ∀ (s : Shared) (H : Hp) (C : Addr) (cl : List (Str × Addr)) (fp : List Addr), PE (X.blk s H scope (compEnvC scope cl C X.env) fp) elt (tE X.K fa n0 (evalE cal n0 b))) (hk : okh iter = true) (hk1 : okh iter1 = true) (hws : ∀ i ∈ ptSlots p, i ∈ own.map (·.2)) (hws1 : ∀ i ∈ ptSlots p1, i ∈ ws1) :
    PSv X fa cal n0 (.Assign [.Name y py] (.ListComp elt [⟨tg, iter, ifs, 0⟩, ⟨tg1, iter1, ifs1, 0⟩] scope pos) spos) (.set i (.comp2 al p ik its cs p1 ik1 its1 cs1 b (own.map (·.2)) ws1)) :=
  (ps_setLc2 hc hN hy hyl hsw hi ok hv hg ht hi1 hg1 ht1 he (okh_fold hk) fun env x => okh_fold hk1 x).imp fun D σV H q => by
    obtain ⟨t, bs, m, σ, μ, o, hb, he, M, ev, k⟩ := q
    simp only [exS] at ev
    split at ev
    · rename_i u μ1 e1
      cases ev
      exact lc2_rd hws hws1 (seq1 hb he M e1 fun m1 H1 v1 x1 M1 r1 => k m1 H1 _ x1 M1 ((he.ex x1).set r1))
    · cases ev
end
end R

set_option Elab.async false
set_option linter.all false
set_option maxRecDepth 100000
set_option maxHeartbeats 4000000
/-! R4: the checker that an expression of ours is an expression of the program; its soundness -/
namespace R
open PySem PySem.Spec PyProof.Rows L2

/-- what stands at the top -/
structure Gd where
  fa : Nat → Option Addr
  fns : List (Str × Nat)
  nums : List (Str × Int)
  bns : List Str
def opC : Bo → Operator → Bool
  | .add, .Add | .sub, .Sub | .mul, .Mult | .fdiv, .FloorDiv | .mod, .Mod | .pow, .Pow | .shl, .LShift | .shr, .RShift | .band, .BitAnd | .bor, .BitOr | .bxor, .BitXor => true
  | _, _ => false
theorem opC_ok {a : Bo} {b : Operator} (h : opC a b = true) : b = a.op := by cases a <;> cases b <;> first | rfl | cases h
def coC : Co → CmpOp → Bool
  | .eq, .Eq | .ne, .NotEq | .lt, .Lt | .le, .LtE | .gt, .Gt | .ge, .GtE | .isin, .In | .notin, .NotIn | .is_, .Is | .isnot, .IsNot => true
  | _, _ => false
theorem coC_ok {a : Co} {b : CmpOp} (h : coC a b = true) : b = a.op := by cases a <;> cases b <;> first | rfl | cases h
def boC : Bool → BoolOp → Bool
  | true, .And | false, .Or => true
  | _, _ => false
theorem boC_ok {a : Bool} {b : BoolOp} (h : boC a b = true) : b = bop a := by cases a <;> cases b <;> first | rfl | cases h
def isNonE : E → Bool
  | .non => true
  | _ => false
def isYesE : E → Bool
  | .bl true => true
  | _ => false
/-- seen from within -/
def visC (rs : Scope) (x : Str) : Bool := match rs.names.lookup x with
  | some .local => true
  | some .cell => true
  | some .free => true
  | _ => false
def glC (rs : Scope) (x : Str) : Bool := decide (rs.names.lookup x = some .globalImplicit) && !(x == ("__debug__" : Str))
def bnC (G : Gd) (rs : Scope) (x : Str) : Bool := glC rs x && decide (x ∈ G.bns)
def varC (N : List Str) (rs : Scope) (i : Nat) (x : Str) : Bool := decide (N[i]? = some x) && visC rs x && !(x == ("__debug__" : Str)) && !(x == ("__classdict__" : Str))
def asgC (N : List Str) (rs ws : Scope) (i : Nat) (x : Str) : Bool := decide (N[i]? = some x) && (decide (rs.names.lookup x = some .local) || (decide (rs.names.lookup x = some .cell) && decide (ws.names.lookup x = some .cell)))
mutual
def chkP (N : List Str) (rs ws : Scope) : Pt → Expr → Bool
  | .slot i, .Name x _ => asgC N rs ws i x
  | .tup ps, .Tuple xs _ _ => chkPs N rs ws ps xs
  | _, _ => false
def chkPs (N : List Str) (rs ws : Scope) : List Pt → List Expr → Bool
  | [], [] => true
  | p :: ps, x :: xs => chkP N rs ws p x && chkPs N rs ws ps xs
  | _, _ => false
end
def ownOf (N : List Str) (ws : List Nat) : List (Str × Nat) := ws.map fun i => (N[i]?.getD default, i)
theorem ownOf_snd (N : List Str) (ws : List Nat) : (ownOf N ws).map (·.2) = ws := by
  unfold ownOf
  rw [List.map_map]
  show ws.map (fun i => i) = ws
  simp
def blkC (N : List Str) (rs scope : Scope) (ws : List Nat) : Bool :=
  decide (scope.kind = .function) && scope.names.all (fun y => decide (scope.names.lookup y.1 = some y.2)) && (ownOf N ws).all (fun p => decide (N[p.2]? = some p.1)) &&
  scope.names.all (fun y => !decide (y.2 = .free) || decide (rs.names.lookup y.1 = some .cell) || decide (rs.names.lookup y.1 = some .free)) &&
  scope.names.all (fun y => !(decide (y.2 = .local) || decide (y.2 = .cell)) || decide (y.1 ∈ (ownOf N ws).map (·.1)) || decide (y.1 ∉ N))
theorem blkC_ok {N : List Str} {rs scope : Scope} {ws : List Nat} (h : blkC N rs scope ws = true) : BlkOk N rs scope (ownOf N ws) := by
  unfold blkC at h
  simp only [Bool.and_eq_true, decide_eq_true_eq, List.all_eq_true, Bool.or_eq_true, Bool.not_eq_true', decide_eq_false_iff_not, Bool.or_eq_false_iff] at h
  obtain ⟨⟨⟨⟨h1, h2⟩, h3⟩, h4⟩, h5⟩ := h
  refine ⟨h1, h2, h3, fun y hy e => ?_, fun y hy e => ?_⟩
  · rcases h4 y hy with (z | z) | z
    · exact absurd e z
    · exact .inl z
    · exact .inr z
  · rcases h5 y hy with (z | z) | z
    · rcases e with e | e
      · exact absurd e z.1
      · exact absurd e z.2
    · exact .inl z
    · exact .inr z
/-- the arguments of what is walked -/
def argsOf (G : Gd) (rs : Scope) (ik : Ik) (tup : Bool) (iter : Expr) : Option (List Expr) :=
  match ik with
    | .ex => some [iter]
    | .rng => match iter with
      | .Call (.Name f _) [a] [] _ => if (bnC G rs f && decide (f = ("range" : Str))) = true then some [a] else none
      | .Call (.Name f _) [a, b] [] _ => if (bnC G rs f && decide (f = ("range" : Str))) = true then some [a, b] else none
      | _ => none
    | .enm => match iter with
      | .Call (.Name f _) [a] [] _ => if (tup && bnC G rs f && decide (f = ("enumerate" : Str))) = true then some [a] else none
      | _ => none
    | .zip => match iter with
      | .Call (.Name f _) [a, b] [] _ => if (tup && bnC G rs f && decide (f = ("zip" : Str))) = true then some [a, b] else none
      | _ => none
def isTupE : Expr → Bool
  | .Tuple .. => true
  | _ => false
def Cl.nm : Cl → Str
  | .list => "list" | .tuple => "tuple" | .sorted => "sorted" | .dict _ => "dict"
def meC : Mt → Str → Nat → Bool
  | .append, n, k => decide (n = ("append" : Str)) && decide (1 ≤ k) && decide (k < 20)
  | .pop0, n, k => decide (n = ("pop" : Str)) && decide (k = 0)
  | .pop1, n, k => decide (n = ("pop" : Str)) && decide (1 ≤ k) && decide (k < 20)
  | .get2, n, k => decide (n = ("get" : Str)) && decide (1 ≤ k) && decide (k < 20)
  | _, _, _ => false

def argsG (G : Gd) (rs : Scope) (ik : Ik) (tup : Bool) (iter : Expr) : List Expr := (argsOf G rs ik tup iter).getD []
def lc2C (G : Gd) (N : List Str) (rs scope : Scope) (vs vs1 : List Nat) (p p1 : Pt) (ik ik1 : Ik) (tg tg1 iter iter1 : Expr) (z z1 : Int) (cs cs1 : List E) : Bool :=
  decide (z = 0) && decide (z1 = 0) && blkC N rs scope vs && (ptSlots p).all (fun i => decide (i ∈ vs)) && (ptSlots p1).all (fun i => decide (i ∈ vs1)) && vs1.all (fun i => decide (i ∈ vs)) && okh iter && okh iter1 && chkP N (relS scope rs) scope p tg && chkP N (relS scope rs) scope p1 tg1 &&
  (argsOf G rs ik (isTupE tg) iter).isSome && (argsOf G (relS scope rs) ik1 (isTupE tg1) iter1).isSome && decide (cs.length ≤ 1) && decide (cs1.length ≤ 1)

variable (G : Gd) (N : List Str)
mutual
def chkE (rs ws : Scope) : E → Expr → Bool
  | .var i, x => match x with
    | .Name x _ => varC N rs i x
    | _ => false
  | .non, x => match x with
    | .Constant .none _ _ => true
    | _ => false
  | .bl b, x => match x with
    | .Constant (.bool c) _ _ => decide (b = c)
    | _ => false
  | .int i, x => match x with
    | .Constant (.int j) _ _ => decide (i = j)
    | _ => false
  | .str z, x => match x with
    | .Constant (.str y) _ _ => decide (z = y)
    | _ => false
  | .gint i, x => match x with
    | .Name x _ => glC rs x && decide (G.nums.lookup x = some i)
    | _ => false
  | .fnv f, x => match x with
    | .Name x _ => glC rs x && decide (G.fns.lookup x = some f)
    | _ => false
  | .tup es, x => match x with
    | .Tuple xs _ _ => chkL rs ws es xs
    | _ => false
  | .lst _ es, x => match x with
    | .List xs _ => chkL rs ws es xs
    | _ => false
  | .dct _ tk es, x => match x with
    | .Dict keys vals _ => match flatE keys vals with
      | some r => chkL rs ws es r && decide (keys.length ≤ 15) && (keys.isEmpty || !tk)
      | none => false
    | _ => false
  | .bin _ op a b, x => match x with
    | .BinOp xa o xb _ => opC op o && chkE rs ws a xa && chkE rs ws b xb
    | _ => false
  | .neg a, x => match x with
    | .UnaryOp .USub xa _ => chkE rs ws a xa
    | _ => false
  | .cmp op a b, x => match x with
    | .Compare xa [o] [xb] _ => coC op o && chkE rs ws a xa && chkE rs ws b xb
    | _ => false
  | .chain op op' a b c, x => match x with
    | .Compare xa [o, o'] [xb, xc] _ => coC op o && coC op' o' && chkE rs ws a xa && chkE rs ws b xb && chkE rs ws c xc
    | _ => false
  | .bool and es, x => match x with
    | .BoolOp o xs _ => boC and o && !xs.isEmpty && chkL rs ws es xs
    | _ => false
  | .not a, x => match x with
    | .UnaryOp .Not xa _ => chkE rs ws a xa
    | _ => false
  | .ite c a b, x => match x with
    | .IfExp xc xa xb _ => chkE rs ws c xc && chkE rs ws a xa && chkE rs ws b xb
    | _ => false
  | .idx a i, x => match x with
    | .Subscript xa xi _ => chkE rs ws a xa && chkE rs ws i xi
    | _ => false
  | .slc _ a lo hi, x => match x with
    | .Subscript xa (.Slice xlo xhi none _) _ => chkE rs ws a xa && (match xlo with
      | some y => chkE rs ws lo y
      | none => isNonE lo) && (match xhi with
      | some y => chkE rs ws hi y
      | none => isNonE hi)
    | _ => false
  | .rev _ a, x => match x with
    | .Subscript xa (.Slice none none (some (.UnaryOp .USub (.Constant (.int j) _ _) _)) _) _ => decide (j = 1) && chkE rs ws a xa
    | _ => false
  | .comp _ p ik its c e vs, x => match x with
    | .ListComp elt [⟨tg, iter, ifs, z⟩] scope _ => decide (z = 0) && blkC N rs scope vs && (ptSlots p).all (fun i => decide (i ∈ vs)) && okh iter && chkP N (relS scope rs) scope p tg &&
      (match argsOf G rs ik (isTupE tg) iter with
        | some xs => chkL rs ws its xs
        | none => false) && (match ifs with
        | [] => isYesE c
        | [f] => chkE (relS scope rs) scope c f
        | _ => false) && chkE (relS scope rs) scope e elt
    | _ => false
  | .comp2 _ p ik its cs p1 ik1 its1 cs1 e vs vs1, x => match x with
    | .ListComp elt [⟨tg, iter, ifs, z⟩, ⟨tg1, iter1, ifs1, z1⟩] scope _ => lc2C G N rs scope vs vs1 p p1 ik ik1 tg tg1 iter iter1 z z1 cs cs1 && chkL rs ws its (argsG G rs ik (isTupE tg) iter) && chkL (relS scope rs) scope its1 (argsG G (relS scope rs) ik1 (isTupE tg1) iter1) && chkL (relS scope rs) scope cs ifs && chkL (relS scope rs) scope cs1 ifs1 && chkE (relS scope rs) scope e elt
    | _ => false
  | .col _ c ik its, x => match x with
    | .Call (.Name f _) [arg] [] _ => bnC G rs f && decide (f = c.nm) && (match ik with
      | .ex => chkL rs ws its [arg]
      | .rng => (decide (c = .list) || decide (c = .tuple)) && okh arg && (match argsOf G rs .rng false arg with
        | some xs => chkL rs ws its xs
        | none => false)
      | _ => false)
    | _ => false
  | .call f es, x => match x with
    | .Call (.Name g _) xs [] _ => glC rs g && decide (G.fns.lookup g = some f) && chkL rs ws es xs
    | _ => false
  | .bi b es, x => match x with
    | .Call (.Name f _) xs [] _ => bnC G rs f && decide (f = b.nm) && !xs.isEmpty && chkL rs ws es xs
    | _ => false
  | .isi e t, x => match x with
    | .Call (.Name f _) [xa, .Name y _] [] _ => bnC G rs f && decide (f = ("isinstance" : Str)) && bnC G rs y && decide (y = t.st) && chkE rs ws e xa
    | _ => false
  | .itms a, x => match x with
    | .Call (.Name f _) [.Call (.Attribute xa nm apos) [] [] cpos] [] _ => bnC G rs f && decide (f = ("list" : Str)) && decide (nm = ("items" : Str)) && okr xa && (apos.endLine == cpos.line) && chkE rs ws a xa
    | _ => false
  | .sset _ a, x => match x with
    | .Call (.Name f _) [.Call (.Name g _) [xa] [] _] [] _ => bnC G rs f && decide (f = ("sorted" : Str)) && bnC G rs g && decide (g = ("set" : Str)) && chkE rs ws a xa
    | _ => false
  | .lset a, x => match x with
    | .Call (.Name f _) [.Call (.Name g _) [xa] [] _] [] _ => bnC G rs f && decide (f = ("len" : Str)) && bnC G rs g && decide (g = ("set" : Str)) && chkE rs ws a xa
    | _ => false
  | .vals a, x => match x with
    | .Call (.Name f _) [.Call (.Attribute xa nm apos) [] [] cpos] [] _ => bnC G rs f && decide (f = ("list" : Str)) && decide (nm = ("values" : Str)) && okr xa && (apos.endLine == cpos.line) && chkE rs ws a xa
    | _ => false
  | .me _ m a es, x => match x with
    | .Call (.Attribute xa nm apos) xs [] pos => okr xa && (apos.endLine == pos.line) && meC m nm xs.length && chkE rs ws a xa && chkL rs ws es xs
    | _ => false
def chkL (rs ws : Scope) : List E → List Expr → Bool
  | [], xs => xs.isEmpty
  | e :: es, xs => match xs with
    | x :: xs => chkE rs ws e x && chkL rs ws es xs
    | [] => false
end
end R

set_option Elab.async false
set_option linter.all false
set_option maxRecDepth 100000
set_option maxHeartbeats 4000000
/-! R4b: the checker is sound for expressions -/
namespace R
open PySem PySem.Spec PyProof.Rows L2

/-- a def's promise -/
def spU (K : PySem.W.Frag) (fa : Nat → Option Addr) (cal : Nat → List U → Mu → Option (U × Mu)) (i : Nat) : Sp := fun vs H Q _ => ∃ t bs m μ us u μ', Me K fa bs t m H μ ∧ RpA K fa t m m.length H us vs ∧ cal i us μ = some (u, μ') ∧ Kn K fa bs t m H u μ' Q
/-- the context in which the checker is sound -/
structure Ok (G : Gd) (cal : Nat → List U → Mu → Option (U × Mu)) (k : Nat) (N : List Str) (rs ws : Scope) (X : Cx) : Prop where
  calm : X.calm = true
  nm : X.N = N
  nd : N.Nodup
  sc : X.env.scope = rs
  fn : ∀ x, ws.names.lookup x = some .cell → X.fn x = true
  room : Room k X.A
  own : PassesOwn (model X.prog X.w) X.A X.env X.xe
  nums : ∀ x i, G.nums.lookup x = some i → ∃ t, X.mg x = some (.int i t)
  bns : ∀ x, x ∈ G.bns → X.mg x = none
  calls : ∀ x i, G.fns.lookup x = some i → ∃ f fd ps, X.mg x = some (.ref f) ∧ G.fa i = some f ∧ PySem.W.keepIn X.K (.ref f) = true ∧ Binds X.K fd ps [] ∧ FnOk X.prog X.w X.K X.mg X.base C8.CX0 k f fd ps (spU X.K G.fa cal i)

section
variable {G : Gd} {cal : Nat → List U → Mu → Option (U × Mu)} {k n0 : Nat} {N : List Str} {rs ws : Scope} {X : Cx}
theorem Ok.blk (h : Ok G cal k N rs ws X) (s : Shared) (H : Hp) (scope : Scope) (C : Addr) (cl : List (Str × Addr)) (fp : List Addr) : Ok G cal k N (relS scope rs) scope (X.blk s H scope (compEnvC scope cl C X.env) fp) where
  calm := h.calm
  nm := h.nm
  nd := h.nd
  sc := by rw [← h.sc]; rfl
  fn := fun x e => by
    show (scope.names.lookup x == some NameKind.cell) = true
    rw [e]; rfl
  room := h.room
  own := PassesOwn.never
  nums := h.nums
  bns := h.bns
  calls := h.calls
theorem Ok.hu (h : Ok G cal k N rs ws X) : X.A.units + 66 < cLine := room_eq h.room
theorem glC_ok (h : Ok G cal k N rs ws X) {x : Str} (c : glC rs x = true) : Gl X x ∧ (x == ("__debug__" : Str)) = false := by
  unfold glC at c
  simp only [Bool.and_eq_true, decide_eq_true_eq, Bool.not_eq_true'] at c
  refine ⟨?_, c.2⟩
  unfold Gl PySem.Env.kindOf
  rw [h.sc]
  exact c.1
theorem bnC_ok (h : Ok G cal k N rs ws X) {x : Str} (c : bnC G rs x = true) : Gl X x ∧ X.mg x = none := by
  unfold bnC at c
  simp only [Bool.and_eq_true, decide_eq_true_eq] at c
  exact ⟨(glC_ok h c.1).1, h.bns x c.2⟩
theorem varC_ok (h : Ok G cal k N rs ws X) {i : Nat} {x : Str} (c : varC N rs i x = true) : X.N[i]? = some x ∧ Vis X.env.scope x ∧ (x == ("__debug__" : Str)) = false ∧ (x == ("__classdict__" : Str)) = false := by
  unfold varC at c
  simp only [Bool.and_eq_true, decide_eq_true_eq, Bool.not_eq_true'] at c
  obtain ⟨⟨⟨c1, c2⟩, c3⟩, c4⟩ := c
  refine ⟨by rw [h.nm]; exact c1, ?_, c3, c4⟩
  unfold Vis
  rw [h.sc]
  unfold visC at c2
  split at c2
  · rename_i e; exact .inl e
  · rename_i e; exact .inr (.inl e)
  · rename_i e; exact .inr (.inr e)
  · cases c2
theorem asgC_ok (h : Ok G cal k N rs ws X) {i : Nat} {x : Str} (c : asgC N rs ws i x = true) : X.N[i]? = some x ∧ Loc X.env.scope x ∧ (X.fn x = true ∨ X.env.scope.names.lookup x = some .local) := by
  unfold asgC at c
  simp only [Bool.and_eq_true, decide_eq_true_eq, Bool.or_eq_true] at c
  refine ⟨by rw [h.nm]; exact c.1, ?_⟩
  unfold L2.Loc
  rw [h.sc]
  rcases c.2 with e | ⟨e, e2⟩
  · exact ⟨.inl e, .inr e⟩
  · exact ⟨.inr e, .inl (h.fn x e2)⟩
mutual
theorem okP (h : Ok G cal k N rs ws X) : ∀ (p : Pt) (x : Expr), chkP N rs ws p x = true → PG X x (tGp X.K G.fa p) ∧ okt x = true
  | .slot i, x, c => by
    cases x with
    | Name x pos =>
      simp only [chkP] at c
      obtain ⟨c1, c2, c3⟩ := asgC_ok h c
      exact ⟨g_slot (by rw [h.nm]; exact h.nd) c1 c2 c3, rfl⟩
    | _ => simp [chkP] at c
  | .tup ps, x, c => by
    cases x with
    | Tuple xs j pos =>
      simp only [chkP] at c
      obtain ⟨c1, c2, c3⟩ := okPs h ps xs c
      exact ⟨g_tup h.calm c1 c2 c3, rfl⟩
    | _ => simp [chkP] at c
theorem okPs (h : Ok G cal k N rs ws X) : ∀ (ps : List Pt) (xs : List Expr), chkPs N rs ws ps xs = true → PGs X xs (tGs X.K G.fa ps) ∧ xs.all okt = true ∧ xs.length = ps.length
  | [], xs, c => by
    cases xs with
    | nil => exact ⟨gs_nil, rfl, rfl⟩
    | cons => simp [chkPs] at c
  | p :: ps, xs, c => by
    cases xs with
    | nil => simp [chkPs] at c
    | cons x xs =>
      simp only [chkPs, Bool.and_eq_true] at c
      obtain ⟨a1, a2⟩ := okP h p x c.1
      obtain ⟨b1, b2, b3⟩ := okPs h ps xs c.2
      exact ⟨gs_cons a1 b1 a2, by simp [a2, b2], by simp [b3]⟩
end
theorem e_call {f : Nat} {es : List E} {g : Str} {xs : List Expr} {p pos : Pos} (h : Ok G cal k N rs ws X) (hg : Gl X g) (hd : (g == ("__debug__" : Str)) = false) (hf : G.fns.lookup g = some f) (ha : PAv X G.fa cal n0 xs es) (hk : xs.all okh = true) (hl : xs.length = es.length) :
    PEv X G.fa cal n0 (.Call (.Name g p) xs [] pos) (.call f es) := by
  obtain ⟨ad, fd, ps, h1, h2, h3, h4, F⟩ := h.calls g f hf
  have rd : ∀ {σV : L2.St} {H : Hp} {Q : VK}, tE X.K G.fa n0 (evalE cal n0 (.call f es)) σV H Q → tL X.K G.fa n0 (evalL cal n0 es) σV H fun vs H1 => spU X.K G.fa cal f (vs ++ []) H1 Q C8.E0 := by
    intro σV H Q q
    obtain ⟨t, bs, m, σ, μ, u, μ', hb, he, M, ev, kk⟩ := q
    simp only [evalE] at ev
    split at ev
    · rename_i us μ1 e1
      exact ⟨t, bs, m, σ, μ, us, μ1, hb, he, M, e1, fun m1 H1 vs x1 M1 ra => ⟨t, bs, m1, μ1, us, u, μ', M1, by rw [List.append_nil]; exact ra, ev, kk.ex x1⟩⟩
    · cases ev
  cases xs with
  | nil =>
    refine (pe_call0 F h.room hg h1 h3 h4 (dvs := []) .nil (E := C8.E0) C8.pass0 hd).imp fun σV H Q q => ?_
    have := rd q
    obtain ⟨t, bs, m, σ, μ, us, μ1, hb, he, M, e1, kk⟩ := this
    have : es = [] := by
      cases es with
      | nil => rfl
      | cons => simp at hl
    subst this
    simp only [evalL] at e1
    cases e1
    exact kk m H [] (Ex.refl _ _) M .nil
  | cons x xs =>
    simp only [List.all_cons, Bool.and_eq_true] at hk
    exact (pe_call F h.room hg h1 h3 h4 (dvs := []) .nil (E := C8.E0) C8.pass0 ha hd (okh_star hk.1) (okh_back hk.2)).imp fun σV H Q q => rd q

/-! ### the checker -/
def Both (X : Cx) (fa : Nat → Option Addr) (cal : Nat → List U → Mu → Option (U × Mu)) (n0 : Nat) (x : Expr) (e : E) : Prop := PEv X fa cal n0 x e ∧ PTv X fa cal n0 x e ∧ okh x = true
inductive AllE (X : Cx) (fa : Nat → Option Addr) (cal : Nat → List U → Mu → Option (U × Mu)) (n0 : Nat) : List Expr → List E → Prop
  | nil : AllE X fa cal n0 [] []
  | cons {x : Expr} {e : E} {xs : List Expr} {es : List E} : Both X fa cal n0 x e → AllE X fa cal n0 xs es → AllE X fa cal n0 (x :: xs) (e :: es)
variable {fa : Nat → Option Addr}
theorem AllE.pa : ∀ {xs : List Expr} {es : List E}, AllE X fa cal n0 xs es → PAv X fa cal n0 xs es
  | _, _, .nil => a_nil
  | _, _, .cons h r => a_cons h.1 r.pa h.2.2
theorem AllE.okh : ∀ {xs : List Expr} {es : List E}, AllE X fa cal n0 xs es → xs.all R.okh = true
  | _, _, .nil => rfl
  | _, _, .cons h r => by simp [h.2.2, r.okh]
theorem AllE.len : ∀ {xs : List Expr} {es : List E}, AllE X fa cal n0 xs es → xs.length = es.length
  | _, _, .nil => rfl
  | _, _, .cons h r => by simp [r.len]
theorem AllE.at_ : ∀ {xs : List Expr} {es : List E}, AllE X fa cal n0 xs es → ∀ (i : Nat) x e, xs[i]? = some x → es[i]? = some e → PEv X fa cal n0 x e
  | _, _, .nil, i, x, e, h, _ => by simp at h
  | _, _, .cons h r, 0, x, e, h1, h2 => by simp at h1 h2; subst h1 h2; exact h.1
  | _, _, .cons h r, i + 1, x, e, h1, h2 => r.at_ i x e (by simpa using h1) (by simpa using h2)
theorem AllE.bool {and : Bool} {pos : Pos} : ∀ {xs : List Expr} {es : List E}, AllE X fa cal n0 xs es → xs ≠ [] → PBv X fa cal n0 (.BoolOp (bop and) xs pos) and es ∧ PBw X fa cal n0 (.BoolOp (bop and) xs pos) and es
  | _, _, .nil, h => absurd rfl h
  | _, _, .cons h .nil, _ => ⟨b_one h.1, w_one h.2.1⟩
  | _, _, .cons h (.cons h2 r), _ => let ⟨a, b⟩ := AllE.bool (.cons h2 r) (by simp); ⟨b_cons h.1 a, w_cons h.2.1 b⟩
/-- what is walked -/
theorem i_of {ik : Ik} {its : List E} {iter tg : Expr} {xs : List Expr} (h : Ok G cal k N rs ws X) (e : argsOf G rs ik (isTupE tg) iter = some xs) (ha : AllE X G.fa cal n0 xs its) : PIv X G.fa cal n0 tg iter ik its := by
  unfold argsOf at e
  split at e
  · cases e
    match its, ha with
    | [_], .cons h1 .nil => exact i_ex h1.1
  · split at e
    · split at e
      · rename_i c
        simp only [Bool.and_eq_true, decide_eq_true_eq] at c
        obtain ⟨c1, rfl⟩ := c
        cases e
        match its, ha with
        | [_], .cons h1 .nil => exact i_rng1 (bnC_ok h c1).1 (bnC_ok h c1).2 h1.1 h1.2.2
      · cases e
    · split at e
      · rename_i c
        simp only [Bool.and_eq_true, decide_eq_true_eq] at c
        obtain ⟨c1, rfl⟩ := c
        cases e
        match its, ha with
        | [_, _], .cons h1 (.cons h2 .nil) => exact i_rng2 (bnC_ok h c1).1 (bnC_ok h c1).2 h1.1 h2.1 h1.2.2 h2.2.2
      · cases e
    · cases e
  · split at e
    · split at e
      · rename_i c
        simp only [Bool.and_eq_true, decide_eq_true_eq] at c
        obtain ⟨⟨c0, c1⟩, rfl⟩ := c
        cases e
        cases tg with
        | Tuple ts j p =>
          match its, ha with
          | [_], .cons h1 .nil => exact i_enm (bnC_ok h c1).1 (bnC_ok h c1).2 h1.1 h1.2.2
        | _ => simp [isTupE] at c0
      · cases e
    · cases e
  · split at e
    · split at e
      · rename_i c
        simp only [Bool.and_eq_true, decide_eq_true_eq] at c
        obtain ⟨⟨c0, c1⟩, rfl⟩ := c
        cases e
        cases tg with
        | Tuple ts j p =>
          match its, ha with
          | [_, _], .cons h1 (.cons h2 .nil) => exact i_zip (bnC_ok h c1).1 (bnC_ok h c1).2 h1.1 h2.1 h1.2.2 h2.2.2
        | _ => simp [isTupE] at c0
      · cases e
    · cases e
theorem both_plain {x : Expr} {e : E} (h : PEv X fa cal n0 x e) (hk : R.okh x = true) (he : ∀ whole, PySem.isTrue x X.env whole = (do let v ← whole; standAt x.pos; holding [v] (truthy v))) : Both X fa cal n0 x e := ⟨h, t_of_e h he, hk⟩

/-- a list comprehension, seen -/
structure LcOk (G : Gd) (cal : Nat → List U → Mu → Option (U × Mu)) (n0 : Nat) (X : Cx) (elt tg iter : Expr) (ifs : List Expr) (scope : Scope) (p : Pt) (ik : Ik) (its : List E) (c e : E) (vs : List Nat) : Prop where
  hi : PIv X G.fa cal n0 tg iter ik its
  ok : BlkOk X.N X.env.scope scope (ownOf X.N vs)
  hg : ∀ (s : Shared) (H : Hp) (C : Addr) (cl : List (Str × Addr)) (fp : List Addr), PG (X.blk s H scope (compEnvC scope cl C X.env) fp) tg (tGp X.K G.fa p)
  ht : ∀ (s : Shared) (H : Hp) (C : Addr) (cl : List (Str × Addr)) (fp : List Addr), PTs (X.blk s H scope (compEnvC scope cl C X.env) fp) ifs (tT X.K G.fa n0 (evalE cal n0 c))
  he : ∀ (s : Shared) (H : Hp) (C : Addr) (cl : List (Str × Addr)) (fp : List Addr), PE (X.blk s H scope (compEnvC scope cl C X.env) fp) elt (tE X.K G.fa n0 (evalE cal n0 e))
  hk : okh iter = true
  hws : ∀ i ∈ ptSlots p, i ∈ vs
theorem LcOk.pe {elt tg iter : Expr} {ifs : List Expr} {scope : Scope} {p : Pt} {ik : Ik} {its : List E} {c e : E} {vs : List Nat} {al : Bool} {pos : Pos} (h : Ok G cal k N rs ws X) (q : LcOk G cal n0 X elt tg iter ifs scope p ik its c e vs) :
    PEv X G.fa cal n0 (.ListComp elt [⟨tg, iter, ifs, 0⟩] scope pos) (.comp al p ik its c e vs) := by
  have := e_comp (al := al) (pos := pos) h.calm (by rw [h.nm]; exact h.nd) q.hi q.ok q.hg q.ht q.he q.hk (by rw [ownOf_snd]; exact q.hws)
  rw [ownOf_snd] at this
  exact this
structure Lc2Ok (G : Gd) (cal : Nat → List U → Mu → Option (U × Mu)) (n0 : Nat) (X : Cx) (elt tg iter tg1 iter1 : Expr) (ifs ifs1 : List Expr) (scope : Scope) (p : Pt) (ik : Ik) (its cs : List E) (p1 : Pt) (ik1 : Ik) (its1 cs1 : List E) (e : E) (vs vs1 : List Nat) : Prop where
  hi : PIv X G.fa cal n0 tg iter ik its
  ok : BlkOk X.N X.env.scope scope (ownOf X.N vs)
  hv : ∀ i ∈ vs1, i ∈ vs
  hg : ∀ (s : Shared) (H : Hp) (C : Addr) (cl : List (Str × Addr)) (fp : List Addr), PG (X.blk s H scope (compEnvC scope cl C X.env) fp) tg (tGp X.K G.fa p)
  ht : ∀ (s : Shared) (H : Hp) (C : Addr) (cl : List (Str × Addr)) (fp : List Addr), PTs (X.blk s H scope (compEnvC scope cl C X.env) fp) ifs (tT X.K G.fa n0 (evalC cal n0 cs))
  hi1 : ∀ (s : Shared) (H : Hp) (C : Addr) (cl : List (Str × Addr)) (fp : List Addr), PI (X.blk s H scope (compEnvC scope cl C X.env) fp) tg1 iter1 (tI X.K G.fa n0 (evalL cal n0 its1) ik1)
  hg1 : ∀ (s : Shared) (H : Hp) (C : Addr) (cl : List (Str × Addr)) (fp : List Addr), PG (X.blk s H scope (compEnvC scope cl C X.env) fp) tg1 (tGp X.K G.fa p1)
  ht1 : ∀ (s : Shared) (H : Hp) (C : Addr) (cl : List (Str × Addr)) (fp : List Addr), PTs (X.blk s H scope (compEnvC scope cl C X.env) fp) ifs1 (tT X.K G.fa n0 (evalC cal n0 cs1))
  he : ∀ (s : Shared) (H : Hp) (C : Addr) (cl : List (Str × Addr)) (fp : List Addr), PE (X.blk s H scope (compEnvC scope cl C X.env) fp) elt (tE X.K G.fa n0 (evalE cal n0 e))
  hk : okh iter = true
  hk1 : okh iter1 = true
  hws : ∀ i ∈ ptSlots p, i ∈ vs
  hws1 : ∀ i ∈ ptSlots p1, i ∈ vs1
theorem Lc2Ok.pe {elt tg iter tg1 iter1 : Expr} {ifs ifs1 : List Expr} {scope : Scope} {p p1 : Pt} {ik ik1 : Ik} {its its1 cs cs1 : List E} {e : E} {vs vs1 : List Nat} {al : Bool} {pos : Pos} (h : Ok G cal k N rs ws X) (q : Lc2Ok G cal n0 X elt tg iter tg1 iter1 ifs ifs1 scope p ik its cs p1 ik1 its1 cs1 e vs vs1) :
    PEv X G.fa cal n0 (.ListComp elt [⟨tg, iter, ifs, 0⟩, ⟨tg1, iter1, ifs1, 0⟩] scope pos) (.comp2 al p ik its cs p1 ik1 its1 cs1 e vs vs1) := by
  have := e_comp2 (al := al) (pos := pos) h.calm (by rw [h.nm]; exact h.nd) q.hi q.ok (by rw [ownOf_snd]; exact q.hv) q.hg q.ht q.hi1 q.hg1 q.ht1 q.he q.hk q.hk1 (by rw [ownOf_snd]; exact q.hws) q.hws1
  rw [ownOf_snd] at this
  exact this
theorem pts_of {ifs : List Expr} {cs : List E} (h : AllE X G.fa cal n0 ifs cs) (hl : cs.length ≤ 1) : PTs X ifs (tT X.K G.fa n0 (evalC cal n0 cs)) := by
  match ifs, cs, h, hl with
  | [], [], _, _ =>
    refine pts_nil.imp fun σV H Q q => ?_
    obtain ⟨t, bs, m, σ, μ, u, μ', b, hb, he, M, ev, tr, k⟩ := q
    simp only [evalC] at ev
    cases ev
    cases tr
    exact k m H (Ex.refl _ _) M
  | [f], [c], .cons b .nil, _ => exact (pts_one b.2.1).imp fun σV H Q q => by simpa only [evalC] using q
  | _, _ :: _ :: _, _, hl => simp at hl
theorem lc2C_z {scope : Scope} {p p1 : Pt} {ik ik1 : Ik} {cs cs1 : List E} {vs vs1 : List Nat} {tg iter tg1 iter1 : Expr} {z z1 : Int} (c : lc2C G N rs scope vs vs1 p p1 ik ik1 tg tg1 iter iter1 z z1 cs cs1 = true) : z = 0 ∧ z1 = 0 := by
  unfold lc2C at c
  simp only [Bool.and_eq_true, decide_eq_true_eq] at c
  exact ⟨c.1.1.1.1.1.1.1.1.1.1.1.1.1, c.1.1.1.1.1.1.1.1.1.1.1.1.2⟩
theorem lc2_parts {elt tg iter tg1 iter1 : Expr} {ifs ifs1 : List Expr} {scope : Scope} {p p1 : Pt} {ik ik1 : Ik} {its its1 cs cs1 : List E} {e : E} {vs vs1 : List Nat} {z z1 : Int} (h : Ok G cal k N rs ws X) (c : lc2C G N rs scope vs vs1 p p1 ik ik1 tg tg1 iter iter1 z z1 cs cs1 = true)
    (a : AllE X G.fa cal n0 (argsG G rs ik (isTupE tg) iter) its)
    (a1 : ∀ (s : Shared) (H : Hp) (C : Addr) (cl : List (Str × Addr)) (fp : List Addr), AllE (X.blk s H scope (compEnvC scope cl C X.env) fp) G.fa cal n0 (argsG G (relS scope rs) ik1 (isTupE tg1) iter1) its1)
    (b : ∀ (s : Shared) (H : Hp) (C : Addr) (cl : List (Str × Addr)) (fp : List Addr), AllE (X.blk s H scope (compEnvC scope cl C X.env) fp) G.fa cal n0 ifs cs)
    (b1 : ∀ (s : Shared) (H : Hp) (C : Addr) (cl : List (Str × Addr)) (fp : List Addr), AllE (X.blk s H scope (compEnvC scope cl C X.env) fp) G.fa cal n0 ifs1 cs1)
    (he : ∀ (s : Shared) (H : Hp) (C : Addr) (cl : List (Str × Addr)) (fp : List Addr), PE (X.blk s H scope (compEnvC scope cl C X.env) fp) elt (tE X.K G.fa n0 (evalE cal n0 e))) :
    Lc2Ok G cal n0 X elt tg iter tg1 iter1 ifs ifs1 scope p ik its cs p1 ik1 its1 cs1 e vs vs1 := by
  unfold lc2C at c
  simp only [Bool.and_eq_true, decide_eq_true_eq, List.all_eq_true] at c
  obtain ⟨⟨⟨⟨⟨⟨⟨⟨⟨⟨⟨⟨⟨_, _⟩, c2⟩, c3⟩, c3'⟩, cv⟩, c4⟩, c4'⟩, c5⟩, c5'⟩, c6⟩, c6'⟩, c7⟩, c7'⟩ := c
  obtain ⟨xs, e1⟩ := Option.isSome_iff_exists.mp c6
  obtain ⟨xs1, e2⟩ := Option.isSome_iff_exists.mp c6'
  refine ⟨?_, ?_, cv, fun s H C cl fp => (okP (h.blk s H scope C cl fp) p tg c5).1, fun s H C cl fp => pts_of (b s H C cl fp) c7, fun s H C cl fp => ?_, fun s H C cl fp => (okP (h.blk s H scope C cl fp) p1 tg1 c5').1, fun s H C cl fp => pts_of (b1 s H C cl fp) c7', he, c4, c4', c3, c3'⟩
  · unfold argsG at a
    rw [e1] at a
    exact i_of h e1 a
  · rw [h.nm, h.sc]; exact blkC_ok c2
  · have := a1 s H C cl fp
    unfold argsG at this
    rw [e2] at this
    exact i_of (h.blk s H scope C cl fp) e2 this
theorem isYesE_ok {c : E} (h : isYesE c = true) : c = .bl true := by
  cases c with
  | bl b => cases b <;> first | rfl | cases h
  | _ => cases h
theorem isNonE_ok {c : E} (h : isNonE c = true) : c = .non := by
  cases c <;> first | rfl | cases h
theorem isTrue_plainH {x : Expr} {env : PySem.Env} {whole : Sem Value} (h : match x with
    | .UnaryOp .Not _ _ => False
    | .BoolOp .. => False
    | .IfExp .. => False
    | .Compare .. => False
    | _ => True) : PySem.isTrue x env whole = (do let v ← whole; standAt x.pos; holding [v] (truthy v)) := by
  cases x with
  | UnaryOp op a p => cases op <;> first | rfl | exact h.elim
  | BoolOp => exact h.elim
  | IfExp => exact h.elim
  | Compare => exact h.elim
  | _ => rfl
mutual
theorem okE : ∀ (e : E) {rs ws : Scope} {X : Cx} (x : Expr), Ok G cal k N rs ws X → chkE G N rs ws e x = true → Both X G.fa cal n0 x e
  | .var i, rs, ws, X, x, h, c => by
    cases x with
    | Name y pos =>
      simp only [chkE] at c
      obtain ⟨c1, c2, c3, c4⟩ := varC_ok h c
      exact both_plain (e_var c1 c2 c3 c4) rfl fun _ => rfl
    | _ => simp [chkE] at c
  | .non, rs, ws, X, x, h, c => by
    simp only [chkE] at c
    split at c
    · exact both_plain e_non rfl fun _ => rfl
    · cases c
  | .bl b, rs, ws, X, x, h, c => by
    simp only [chkE] at c
    split at c
    · have := of_decide_eq_true c
      subst this
      exact both_plain e_bl rfl fun _ => rfl
    · cases c
  | .int i, rs, ws, X, x, h, c => by
    simp only [chkE] at c
    split at c
    · have := of_decide_eq_true c
      subst this
      exact both_plain e_int rfl fun _ => rfl
    · cases c
  | .str z, rs, ws, X, x, h, c => by
    simp only [chkE] at c
    split at c
    · have := of_decide_eq_true c
      subst this
      exact both_plain e_str rfl fun _ => rfl
    · cases c
  | .gint i, rs, ws, X, x, h, c => by
    simp only [chkE] at c
    split at c
    · simp only [Bool.and_eq_true, decide_eq_true_eq] at c
      obtain ⟨g, d⟩ := glC_ok h c.1
      exact both_plain (e_gint g (h.nums _ _ c.2) d) rfl fun _ => rfl
    · cases c
  | .fnv f, rs, ws, X, x, h, c => by
    simp only [chkE] at c
    split at c
    · simp only [Bool.and_eq_true, decide_eq_true_eq] at c
      obtain ⟨g, d⟩ := glC_ok h c.1
      obtain ⟨ad, fd, ps, h1, h2, _⟩ := h.calls _ _ c.2
      exact both_plain (e_fnv g h1 h2 d) rfl fun _ => rfl
    · cases c
  | .tup es, rs, ws, X, x, h, c => by
    simp only [chkE] at c
    split at c
    · exact both_plain (e_tup (okL es _ h c).pa) rfl fun _ => rfl
    · cases c
  | .lst al es, rs, ws, X, x, h, c => by
    simp only [chkE] at c
    split at c
    · exact both_plain (e_lst (okL es _ h c).pa) rfl fun _ => rfl
    · cases c
  | .dct al tk es, rs, ws, X, x, h, c => by
    simp only [chkE] at c
    split at c
    · rename_i keys vals pos
      split at c
      · rename_i r e
        simp only [Bool.and_eq_true, decide_eq_true_eq, Bool.or_eq_true, Bool.not_eq_true'] at c
        obtain ⟨⟨c1, c2⟩, c3⟩ := c
        have A := okL es _ h c1
        cases keys with
        | nil =>
          cases vals with
          | nil =>
            cases e
            cases A
            exact both_plain e_dnew rfl fun _ => rfl
          | cons => simp [flatE] at e
        | cons k1 ks =>
          rcases c3 with c3 | c3
          · simp at c3
          · subst c3
            exact both_plain (e_dct e A.at_ A.len (by simp) c2) rfl fun _ => rfl
      · cases c
    · cases c
  | .bin al op a b, rs, ws, X, x, h, c => by
    simp only [chkE] at c
    split at c
    · simp only [Bool.and_eq_true] at c
      have e := opC_ok c.1.1
      subst e
      exact both_plain (e_bin (okE a _ h c.1.2).1 (okE b _ h c.2).1) rfl fun _ => rfl
    · cases c
  | .neg a, rs, ws, X, x, h, c => by
    simp only [chkE] at c
    split at c
    · exact both_plain (e_neg (okE a _ h c).1) rfl fun _ => rfl
    · cases c
  | .cmp op a b, rs, ws, X, x, h, c => by
    simp only [chkE] at c
    split at c
    · simp only [Bool.and_eq_true] at c
      have e := coC_ok c.1.1
      subst e
      have A := okE a _ h c.1.2
      have B := okE b _ h c.2
      exact ⟨e_cmp h.hu A.1 B.1 B.2.2, t_cmp h.hu A.1 B.1 B.2.2, rfl⟩
    · cases c
  | .chain op op' a b c', rs, ws, X, x, h, c => by
    simp only [chkE] at c
    split at c
    · simp only [Bool.and_eq_true] at c
      obtain ⟨⟨⟨⟨c1, c2⟩, c3⟩, c4⟩, c5⟩ := c
      have e := coC_ok c1
      subst e
      have e := coC_ok c2
      subst e
      have A := okE a _ h c3
      have B := okE b _ h c4
      have C := okE c' _ h c5
      exact ⟨e_chain h.hu A.1 B.1 C.1 C.2.2, t_chain h.hu A.1 B.1 C.1 C.2.2, rfl⟩
    · cases c
  | .bool and es, rs, ws, X, x, h, c => by
    simp only [chkE] at c
    split at c
    · rename_i o xs pos
      simp only [Bool.and_eq_true, Bool.not_eq_true'] at c
      have e := boC_ok c.1.1
      subst e
      have A := okL es _ h c.2
      obtain ⟨p, q⟩ := A.bool (pos := pos) (and := and) (by intro z; subst z; simp at c)
      exact ⟨e_bool p, t_bool q, rfl⟩
    · cases c
  | .not a, rs, ws, X, x, h, c => by
    simp only [chkE] at c
    split at c
    · have A := okE a _ h c
      exact ⟨e_not A.1, t_not A.2.1, rfl⟩
    · cases c
  | .ite c' a b, rs, ws, X, x, h, c => by
    simp only [chkE] at c
    split at c
    · simp only [Bool.and_eq_true] at c
      have C := okE c' _ h c.1.1
      have A := okE a _ h c.1.2
      have B := okE b _ h c.2
      exact ⟨e_ite C.2.1 A.1 B.1, t_ite C.2.1 A.2.1 B.2.1, rfl⟩
    · cases c
  | .idx a i, rs, ws, X, x, h, c => by
    simp only [chkE] at c
    split at c
    · simp only [Bool.and_eq_true] at c
      have A := okE a _ h c.1
      have B := okE i _ h c.2
      exact both_plain (e_idx h.hu A.1 B.1 B.2.2) rfl fun _ => rfl
    · cases c
  | .slc al a lo hi, rs, ws, X, x, h, c => by
    simp only [chkE] at c
    split at c
    · simp only [Bool.and_eq_true] at c
      obtain ⟨⟨c1, c2⟩, c3⟩ := c
      have A := okE a _ h c1
      refine both_plain (e_slc A.1 ?_ ?_) rfl fun _ => rfl
      · split at c2
        · exact pov_some (okE lo _ h c2).1
        · rw [isNonE_ok c2]; exact pov_none
      · split at c3
        · exact pov_some (okE hi _ h c3).1
        · rw [isNonE_ok c3]; exact pov_none
    · cases c
  | .rev al a, rs, ws, X, x, h, c => by
    simp only [chkE] at c
    split at c
    · simp only [Bool.and_eq_true, decide_eq_true_eq] at c
      obtain ⟨rfl, c2⟩ := c
      exact both_plain (e_revL (okE a _ h c2).1) rfl fun _ => rfl
    · cases c
  | .comp al p ik its c' e vs, rs, ws, X, x, h, c => by
    simp only [chkE] at c
    split at c
    · rename_i elt tg iter ifs z scope pos
      simp only [Bool.and_eq_true, decide_eq_true_eq, List.all_eq_true] at c
      obtain ⟨⟨⟨⟨⟨⟨⟨rfl, c2⟩, c3⟩, c4⟩, c5⟩, c6⟩, c7⟩, c8⟩ := c
      have q : LcOk G cal n0 X elt tg iter ifs scope p ik its c' e vs := by
        refine ⟨?_, ?_, fun s H C cl fp => ?_, fun s H C cl fp => ?_, fun s H C cl fp => ?_, c4, c3⟩
        · split at c6
          · rename_i xs e1
            exact i_of h e1 (okL its _ h c6)
          · cases c6
        · rw [h.nm, h.sc]; exact blkC_ok c2
        · exact (okP (h.blk s H scope C cl fp) p tg c5).1
        · split at c7
          · rw [isYesE_ok c7]; exact pts_yes
          · exact pts_one (okE c' _ (h.blk s H scope C cl fp) c7).2.1
          · cases c7
        · exact (okE e _ (h.blk s H scope C cl fp) c8).1
      exact both_plain (q.pe h) rfl fun _ => rfl
    · cases c
  | .comp2 al p ik its cs p1 ik1 its1 cs1 e vs vs1, rs, ws, X, x, h, c => by
    simp only [chkE] at c
    split at c
    · rename_i elt tg iter ifs z tg1 iter1 ifs1 z1 scope pos
      simp only [Bool.and_eq_true] at c
      obtain ⟨⟨⟨⟨⟨c1, c2⟩, c3⟩, c4⟩, c5⟩, c6⟩ := c
      obtain ⟨rfl, rfl⟩ := lc2C_z c1
      exact both_plain (Lc2Ok.pe h (lc2_parts h c1 (okL its _ h c2) (fun s H C cl fp => okL its1 _ (h.blk s H scope C cl fp) c3) (fun s H C cl fp => okL cs _ (h.blk s H scope C cl fp) c4) (fun s H C cl fp => okL cs1 _ (h.blk s H scope C cl fp) c5) fun s H C cl fp => (okE e _ (h.blk s H scope C cl fp) c6).1)) rfl fun _ => rfl
    · cases c
  | .col al cl ik its, rs, ws, X, x, h, c => by
    simp only [chkE] at c
    split at c
    · rename_i f p1 arg pos
      simp only [Bool.and_eq_true, decide_eq_true_eq] at c
      obtain ⟨⟨c1, rfl⟩, c3⟩ := c
      obtain ⟨g, m⟩ := bnC_ok h c1
      refine both_plain ?_ rfl fun _ => rfl
      split at c3
      · have A := okL its _ h c3
        match its, A with
        | [_], .cons h1 .nil =>
          match cl, g, m, c3 with
          | .list, g, m, _ => exact e_list h.calm g m h1.1 h1.2.2
          | .tuple, g, m, _ => exact e_tuple g m h1.1 h1.2.2
          | .sorted, g, m, _ => exact e_sorted h.calm h.hu g m h1.1 h1.2.2
          | .dict false, g, m, _ => exact e_dict h.calm g m h1.1 h1.2.2
          | .dict true, g, m, _ => exact e_dictT h.calm h.hu g m h1.1 h1.2.2
      · simp only [Bool.and_eq_true, Bool.or_eq_true, decide_eq_true_eq] at c3
        obtain ⟨⟨c4, c5⟩, c6⟩ := c3
        split at c6
        · rename_i xs e1
          have A := okL its _ h c6
          unfold argsOf at e1
          simp only at e1
          split at e1
          · split at e1
            · rename_i cc
              simp only [Bool.and_eq_true, decide_eq_true_eq] at cc
              obtain ⟨cc1, rfl⟩ := cc
              obtain ⟨gr, mr⟩ := bnC_ok h cc1
              cases e1
              match its, A with
              | [_], .cons h1 .nil =>
                rcases c4 with rfl | rfl
                · exact e_list1 h.calm g m gr mr h1.1 h1.2.2
                · exact e_tuple1 h.calm g m gr mr h1.1 h1.2.2
            · cases e1
          · split at e1
            · rename_i cc
              simp only [Bool.and_eq_true, decide_eq_true_eq] at cc
              obtain ⟨cc1, rfl⟩ := cc
              obtain ⟨gr, mr⟩ := bnC_ok h cc1
              cases e1
              match its, A with
              | [_, _], .cons h1 (.cons h2 .nil) =>
                rcases c4 with rfl | rfl
                · exact e_list2 h.calm g m gr mr h1.1 h2.1 h1.2.2 h2.2.2
                · exact e_tuple2 h.calm g m gr mr h1.1 h2.1 h1.2.2 h2.2.2
            · cases e1
          · cases e1
        · cases c6
      · cases c3
    · cases c
  | .call f es, rs, ws, X, x, h, c => by
    simp only [chkE] at c
    split at c
    · simp only [Bool.and_eq_true, decide_eq_true_eq] at c
      obtain ⟨g, d⟩ := glC_ok h c.1.1
      have A := okL es _ h c.2
      exact both_plain (e_call h g d c.1.2 A.pa A.okh A.len) rfl fun _ => rfl
    · cases c
  | .bi b es, rs, ws, X, x, h, c => by
    simp only [chkE] at c
    split at c
    · rename_i f p1 xs pos
      simp only [Bool.and_eq_true, decide_eq_true_eq, Bool.not_eq_true'] at c
      obtain ⟨⟨⟨c1, rfl⟩, c3⟩, c4⟩ := c
      obtain ⟨g, m⟩ := bnC_ok h c1
      have A := okL es _ h c4
      cases xs with
      | nil => simp at c3
      | cons x xs =>
        have hk := A.okh
        simp only [List.all_cons, Bool.and_eq_true] at hk
        exact both_plain (e_bi h.calm h.hu g m A.pa hk.1 hk.2) rfl fun _ => rfl
    · cases c
  | .isi e t, rs, ws, X, x, h, c => by
    simp only [chkE] at c
    split at c
    · simp only [Bool.and_eq_true, decide_eq_true_eq] at c
      obtain ⟨⟨⟨⟨c1, rfl⟩, c3⟩, rfl⟩, c5⟩ := c
      obtain ⟨g, m⟩ := bnC_ok h c1
      obtain ⟨g2, m2⟩ := bnC_ok h c3
      have A := okE e _ h c5
      exact both_plain (e_isi g m g2 m2 A.1 A.2.2) rfl fun _ => rfl
    · cases c
  | .itms a, rs, ws, X, x, h, c => by
    simp only [chkE] at c
    split at c
    · simp only [Bool.and_eq_true, decide_eq_true_eq] at c
      obtain ⟨⟨⟨⟨⟨c1, rfl⟩, rfl⟩, c4⟩, c5⟩, c6⟩ := c
      obtain ⟨g, mm⟩ := bnC_ok h c1
      exact both_plain (e_itms h.calm g mm rfl (okE a _ h c6).1 c4 c5) rfl fun _ => rfl
    · cases c
  | .vals a, rs, ws, X, x, h, c => by
    simp only [chkE] at c
    split at c
    · simp only [Bool.and_eq_true, decide_eq_true_eq] at c
      obtain ⟨⟨⟨⟨⟨c1, rfl⟩, rfl⟩, c4⟩, c5⟩, c6⟩ := c
      obtain ⟨g, mm⟩ := bnC_ok h c1
      exact both_plain (e_vals h.calm g mm rfl (okE a _ h c6).1 c4 c5) rfl fun _ => rfl
    · cases c
  | .sset al a, rs, ws, X, x, h, c => by
    simp only [chkE] at c
    split at c
    · simp only [Bool.and_eq_true, decide_eq_true_eq] at c
      obtain ⟨⟨⟨⟨c1, rfl⟩, c3⟩, rfl⟩, c5⟩ := c
      obtain ⟨g, mm⟩ := bnC_ok h c1
      obtain ⟨g2, mm2⟩ := bnC_ok h c3
      have B := okE a _ h c5
      exact both_plain (e_sset h.calm g mm g2 mm2 B.1 B.2.2) rfl fun _ => rfl
    · cases c
  | .lset a, rs, ws, X, x, h, c => by
    simp only [chkE] at c
    split at c
    · simp only [Bool.and_eq_true, decide_eq_true_eq] at c
      obtain ⟨⟨⟨⟨c1, rfl⟩, c3⟩, rfl⟩, c5⟩ := c
      obtain ⟨g, mm⟩ := bnC_ok h c1
      obtain ⟨g2, mm2⟩ := bnC_ok h c3
      have B := okE a _ h c5
      exact both_plain (e_lset h.calm g mm g2 mm2 B.1 B.2.2) rfl fun _ => rfl
    · cases c
  | .me al me a es, rs, ws, X, x, h, c => by
    simp only [chkE] at c
    split at c
    · rename_i xa nm apos xs pos
      simp only [Bool.and_eq_true] at c
      obtain ⟨⟨⟨⟨c1, c2⟩, c3⟩, c4⟩, c5⟩ := c
      have A := okE a _ h c4
      have B := okL es _ h c5
      have hk := B.okh
      have hl := B.len
      refine both_plain ?_ rfl fun _ => rfl
      cases xs with
      | nil =>
        cases me <;> simp [meC] at c3
        subst c3
        cases es with
        | nil => exact e_pop0 A.1 c1 c2
        | cons => simp at hl
      | cons x xs =>
        simp only [List.all_cons, Bool.and_eq_true] at hk
        cases me <;> simp [meC] at c3
        · obtain ⟨rfl, c6⟩ := c3
          exact e_append A.1 B.pa c1 hk.1 hk.2 (by omega) c2
        · obtain ⟨rfl, c6⟩ := c3
          exact e_pop1 A.1 B.pa c1 hk.1 hk.2 (by omega) c2
        · obtain ⟨rfl, c6⟩ := c3
          exact e_get2 h.hu A.1 B.pa c1 hk.1 hk.2 (by omega) c2
    · cases c
theorem okL : ∀ (es : List E) {rs ws : Scope} {X : Cx} (xs : List Expr), Ok G cal k N rs ws X → chkL G N rs ws es xs = true → AllE X G.fa cal n0 xs es
  | [], rs, ws, X, xs, h, c => by
    cases xs with
    | nil => exact .nil
    | cons => simp [chkL] at c
  | e :: es, rs, ws, X, xs, h, c => by
    cases xs with
    | nil => simp [chkL] at c
    | cons x xs =>
      simp only [chkL, Bool.and_eq_true] at c
      exact .cons (okE e x h c.1) (okL es xs h c.2)
end
end
end R

set_option Elab.async false
set_option linter.all false
set_option maxRecDepth 100000
set_option maxHeartbeats 4000000
/-! R4c: the checker for statements, sound -/
namespace R
open PySem PySem.Spec PyProof.Rows L2

/-- does a list comprehension change places with the store of its name -/
def swL (rs : Scope) (t : Str) (tl vl : Nat) (sc : Scope) : Bool := (rs.names.lookup t == some .local) && (tl == vl) && !(sc.names.any fun (n, k) => n == t && (k == .local || k == .cell))
def isCompE : E → Bool
  | .comp .. => true
  | _ => false
def nodup2 (i j : Nat) : Bool := decide (i ≠ j)
def locC (N : List Str) (rs : Scope) (i : Nat) (x : Str) : Bool := decide (N[i]? = some x) && decide (rs.names.lookup x = some .local)
variable (G : Gd) (N : List Str) (rs ws : Scope)
def chkPar (is : List Nat) (tg v : Expr) : Bool :=
  match is, tg, v with
    | [i, j], .Tuple [.Name x px, .Name y py] kt pt, .Tuple [xa, xb] k2 pt2 => locC N rs i x && locC N rs j y && decide (i ≠ j) && decide (swF rs [.Name x px, .Name y py] [xa, xb] = some (some [x, y]))
    | [i, j, l], .Tuple [.Name x px, .Name y py, .Name z pz] kt pt, .Tuple [xa, xb, xc] k2 pt2 => locC N rs i x && locC N rs j y && locC N rs l z && decide (i ≠ j) && decide (i ≠ l) && decide (j ≠ l) && decide (swF rs [.Name x px, .Name y py, .Name z pz] [xa, xb, xc] = some (some [x, y, z]))
    | _, _, _ => false
def tupsOf : Expr → List Expr
  | .Tuple xs _ _ => xs
  | _ => []
mutual
def chkS : S → Stmt → Bool
  | .set i e, x => match x with
    | .Assign [.Name y py] xe pos => asgC N rs ws i y && chkE G N rs ws e xe && (noLc xe || (match xe with
      | .ListComp _ _ sc lp => swL rs y py.line lp.line sc || !swL rs y py.line lp.line sc
      | _ => false))
    | _ => false
  | .par is es, x => match x with
    | .Assign [tg] xe _ => chkPar N rs is tg xe && chkL G N rs ws es (tupsOf xe)
    | _ => false
  | .asg p e, x => match x with
    | .Assign [tg] xe _ => chkP N rs ws p tg && chkE G N rs ws e xe && noLc xe && (noSw tg xe || (isTupE tg && isTupE xe && decide (swF rs (tupsOf tg) (tupsOf xe) = some none)))
    | _ => false
  | .sub a i e, x => match x with
    | .Assign [.Subscript xa xi _] xe _ => chkE G N rs ws a xa && chkE G N rs ws i xi && chkE G N rs ws e xe && noLc xe
    | _ => false
  | .asg2 a i a' i' e, x => match x with
    | .Assign [.Subscript xa xi _, .Subscript xa' xi' _] xe _ => chkE G N rs ws a xa && chkE G N rs ws i xi && chkE G N rs ws a' xa' && chkE G N rs ws i' xi' && chkE G N rs ws e xe
    | _ => false
  | .sub2 a i a' i' e e', x => match x with
    | .Assign [.Tuple [.Subscript xa xi p2, .Subscript xa' xi' p3] _ _] (.Tuple [xe, xe'] _ _) _ => chkE G N rs ws a xa && chkE G N rs ws i xi && chkE G N rs ws a' xa' && chkE G N rs ws i' xi' && chkL G N rs ws [e, e'] [xe, xe'] && decide (swF rs [.Subscript xa xi p2, .Subscript xa' xi' p3] [xe, xe'] = some none)
    | _ => false
  | .ex e, x => match x with
    | .Expr xe _ => chkE G N rs ws e xe && noLc xe
    | _ => false
  | .ret e, x => match x with
    | .Return (some xe) _ => chkE G N rs ws e xe
    | .Return none _ => isNonE e
    | _ => false
  | .iff c t f, x => match x with
    | .If xc xt xf _ => chkE G N rs ws c xc && chkB t xt && chkB f xf
    | _ => false
  | .for_ p ik its b, x => match x with
    | .For tg iter xb [] _ => chkP N rs ws p tg && okh iter && (match argsOf G rs ik (isTupE tg) iter with
      | some xs => chkL G N rs ws its xs
      | none => false) && chkB b xb
    | _ => false
  | .wh c b, x => match x with
    | .While xc xb [] _ => chkE G N rs ws c xc && chkB b xb
    | _ => false
  | .pass, x => match x with
    | .Pass _ => true
    | .Expr (.Constant (.str _) _ _) _ => true
    | _ => false
  | .brk, x => match x with
    | .Break _ => true
    | _ => false
  | .cont, x => match x with
    | .Continue _ => true
    | _ => false
  | .stuck, _ => true
def chkB : List S → List Stmt → Bool
  | [], xs => xs.isEmpty
  | s :: ss, xs => match xs with
    | x :: xs => chkS s x && chkB ss xs
    | [] => false
end
end R
namespace R
open PySem PySem.Spec PyProof.Rows L2
section
variable {G : Gd} {cal : Nat → List U → Mu → Option (U × Mu)} {k n0 : Nat} {N : List Str} {rs ws : Scope} {X : Cx}
theorem locC_ok (h : Ok G cal k N rs ws X) {i : Nat} {x : Str} (c : locC N rs i x = true) : X.N[i]? = some x ∧ X.env.scope.names.lookup x = some .local := by
  unfold locC at c
  simp only [Bool.and_eq_true, decide_eq_true_eq] at c
  rw [h.nm, h.sc]
  exact c
theorem okPar {is : List Nat} {es : List E} {tg xe : Expr} {pos : Pos} (h : Ok G cal k N rs ws X) (hk : X.env.scope.kind = .function) (c : chkPar N rs is tg xe = true) (A : AllE X G.fa cal n0 (tupsOf xe) es) : PSv X G.fa cal n0 (.Assign [tg] xe pos) (.par is es) := by
  unfold chkPar at c
  split at c
  · simp only [Bool.and_eq_true, decide_eq_true_eq] at c
    obtain ⟨⟨⟨c1, c2⟩, c3⟩, c4⟩ := c
    obtain ⟨a1, a2⟩ := locC_ok h c1
    obtain ⟨b1, b2⟩ := locC_ok h c2
    exact s_par2 h.calm (by rw [h.nm]; exact h.nd) a1 b1 c3 a2 b2 A.pa (sw_ok hk (by rw [h.sc]; exact c4))
  · simp only [Bool.and_eq_true, decide_eq_true_eq] at c
    obtain ⟨⟨⟨⟨⟨⟨c1, c2⟩, c3⟩, c4⟩, c5⟩, c6⟩, c7⟩ := c
    obtain ⟨a1, a2⟩ := locC_ok h c1
    obtain ⟨b1, b2⟩ := locC_ok h c2
    obtain ⟨d1, d2⟩ := locC_ok h c3
    exact s_par3 h.calm (by rw [h.nm]; exact h.nd) a1 b1 d1 c4 c5 c6 a2 b2 d2 A.pa (sw_ok hk (by rw [h.sc]; exact c7))
  · cases c
/-- the parts of a checked list comprehension -/
theorem lc_of {al : Bool} {p : Pt} {ik : Ik} {its : List E} {c' e : E} {vs : List Nat} {elt : Expr} {gens : List Comprehension} {scope : Scope} {pos : Pos} (h : Ok G cal k N rs ws X) (c : chkE G N rs ws (.comp al p ik its c' e vs) (.ListComp elt gens scope pos) = true) :
    ∃ tg iter ifs, gens = [⟨tg, iter, ifs, 0⟩] ∧ LcOk G cal n0 X elt tg iter ifs scope p ik its c' e vs := by
  match gens, c with
  | [⟨tg, iter, ifs, z⟩], c =>
    simp only [chkE, Bool.and_eq_true, decide_eq_true_eq, List.all_eq_true] at c
    obtain ⟨⟨⟨⟨⟨⟨⟨rfl, c2⟩, c3⟩, c4⟩, c5⟩, c6⟩, c7⟩, c8⟩ := c
    refine ⟨tg, iter, ifs, rfl, ?_, ?_, fun s H C cl fp => ?_, fun s H C cl fp => ?_, fun s H C cl fp => ?_, c4, c3⟩
    · split at c6
      · rename_i xs e1
        exact i_of h e1 (okL its _ h c6)
      · cases c6
    · rw [h.nm, h.sc]; exact blkC_ok c2
    · exact (okP (h.blk s H scope C cl fp) p tg c5).1
    · split at c7
      · rw [isYesE_ok c7]; exact pts_yes
      · exact pts_one (okE c' _ (h.blk s H scope C cl fp) c7).2.1
      · cases c7
    · exact (okE e _ (h.blk s H scope C cl fp) c8).1
  | [], c => simp [chkE] at c
  | _ :: _ :: _, c => simp [chkE] at c
theorem lc2_of {al : Bool} {p p1 : Pt} {ik ik1 : Ik} {its its1 cs cs1 : List E} {e : E} {vs vs1 : List Nat} {elt : Expr} {gens : List Comprehension} {scope : Scope} {pos : Pos} (h : Ok G cal k N rs ws X) (c : chkE G N rs ws (.comp2 al p ik its cs p1 ik1 its1 cs1 e vs vs1) (.ListComp elt gens scope pos) = true) :
    ∃ tg iter ifs tg1 iter1 ifs1, gens = [⟨tg, iter, ifs, 0⟩, ⟨tg1, iter1, ifs1, 0⟩] ∧ Lc2Ok G cal n0 X elt tg iter tg1 iter1 ifs ifs1 scope p ik its cs p1 ik1 its1 cs1 e vs vs1 := by
  match gens, c with
  | [⟨tg, iter, ifs, z⟩, ⟨tg1, iter1, ifs1, z1⟩], c =>
    simp only [chkE, Bool.and_eq_true] at c
    obtain ⟨⟨⟨⟨⟨c1, c2⟩, c3⟩, c4⟩, c5⟩, c6⟩ := c
    obtain ⟨rfl, rfl⟩ := lc2C_z c1
    exact ⟨tg, iter, ifs, tg1, iter1, ifs1, rfl, lc2_parts h c1 (okL its _ h c2) (fun s H C cl fp => okL its1 _ (h.blk s H scope C cl fp) c3) (fun s H C cl fp => okL cs _ (h.blk s H scope C cl fp) c4) (fun s H C cl fp => okL cs1 _ (h.blk s H scope C cl fp) c5) fun s H C cl fp => (okE e _ (h.blk s H scope C cl fp) c6).1⟩
  | [], c => simp [chkE] at c
  | [_], c => simp [chkE] at c
  | _ :: _ :: _ :: _, c => simp [chkE] at c
theorem swL_ok {env : PySem.Env} {t : Str} {tp vp : Pos} {l : Nat} {elt : Expr} {gens : List Comprehension} {sc : Scope} (hk : env.scope.kind = .function) : swapsWith (.ListComp elt gens sc vp) (some (.Name t tp)) l env = pure (swL env.scope t tp.line vp.line sc) := by
  have hb : env.blockKind = .function := by unfold PySem.Env.blockKind; rw [hk]; rfl
  unfold swapsWith swL PySem.Env.kindOf
  simp only [hb]
  rfl
theorem okSet {i : Nat} {e : E} {y : Str} {py pos : Pos} {xe : Expr} (h : Ok G cal k N rs ws X) (hk : X.env.scope.kind = .function) (c1 : asgC N rs ws i y = true) (c2 : chkE G N rs ws e xe = true) (c3 : noLc xe = true ∨ ∃ a b c d, xe = .ListComp a b c d) : PSv X G.fa cal n0 (.Assign [.Name y py] xe pos) (.set i e) := by
  obtain ⟨a1, a2, a3⟩ := asgC_ok h c1
  have hN : X.N.Nodup := by rw [h.nm]; exact h.nd
  have B := okE (n0 := n0) e xe h c2
  rcases c3 with c3 | ⟨elt, gens, sc, vp, rfl⟩
  · exact s_set hN a1 a2 a3 B.1 (noLc_sw c3 B.2.2)
  · have hs := swL_ok (env := X.env) (t := y) (tp := py) (vp := vp) (l := pos.line) (elt := elt) (gens := gens) (sc := sc) hk
    cases hb : swL X.env.scope y py.line vp.line sc with
    | false =>
      rw [hb] at hs
      exact s_set hN a1 a2 a3 B.1 hs
    | true =>
      rw [hb] at hs
      have hl : X.env.scope.names.lookup y = some .local := by
        unfold swL at hb
        simp only [Bool.and_eq_true, beq_iff_eq] at hb
        exact hb.1.1
      cases e with
      | comp al p ik its c' e vs =>
        obtain ⟨tg, iter, ifs, rfl, q⟩ := lc_of (n0 := n0) h c2
        have := s_setLc (al := al) (py := py) (spos := pos) (pos := vp) h.calm hN a1 hl hs q.hi q.ok q.hg q.ht q.he q.hk (by rw [ownOf_snd]; exact q.hws)
        rw [ownOf_snd] at this
        exact this
      | comp2 al p ik its cs p1 ik1 its1 cs1 e vs vs1 =>
        obtain ⟨tg, iter, ifs, tg1, iter1, ifs1, rfl, q⟩ := lc2_of (n0 := n0) h c2
        have := s_setLc2 (al := al) (py := py) (spos := pos) (pos := vp) h.calm hN a1 hl hs q.hi q.ok (by rw [ownOf_snd]; exact q.hv) q.hg q.ht q.hi1 q.hg1 q.ht1 q.he q.hk q.hk1 (by rw [ownOf_snd]; exact q.hws) q.hws1
        rw [ownOf_snd] at this
        exact this
      | _ => simp [chkE] at c2
theorem isTup_eq {x : Expr} (h : isTupE x = true) : ∃ k p, x = .Tuple (tupsOf x) k p := by
  cases x <;> first | exact ⟨_, _, rfl⟩ | cases h
mutual
theorem okS (h : Ok G cal k N rs ws X) (hk : X.env.scope.kind = .function) : ∀ (s : S) (x : Stmt), chkS G N rs ws s x = true → PSv X G.fa cal n0 x s
  | .set i e, x, c => by
    simp only [chkS] at c
    split at c
    · rename_i y py xe pos
      simp only [Bool.and_eq_true, Bool.or_eq_true] at c
      refine okSet h hk c.1.1 c.1.2 ?_
      rcases c.2 with c3 | c3
      · exact .inl c3
      · split at c3
        · exact .inr ⟨_, _, _, _, rfl⟩
        · cases c3
    · cases c
  | .par is es, x, c => by
    simp only [chkS] at c
    split at c
    · simp only [Bool.and_eq_true] at c
      exact okPar h hk c.1 (okL es _ h c.2)
    · cases c
  | .asg p e, x, c => by
    simp only [chkS] at c
    split at c
    · rename_i tg xe pos
      simp only [Bool.and_eq_true, Bool.or_eq_true, decide_eq_true_eq] at c
      obtain ⟨⟨⟨c1, c2⟩, c3⟩, c4⟩ := c
      obtain ⟨p1, p2⟩ := okP h p tg c1
      have B := okE (n0 := n0) e xe h c2
      refine s_asg p1 B.1 B.2.2 p2 c3 ?_
      rcases c4 with c4 | ⟨⟨c4, c5⟩, c6⟩
      · exact noSw_ok c4
      · obtain ⟨k1, q1, e1⟩ := isTup_eq c4
        obtain ⟨k2, q2, e2⟩ := isTup_eq c5
        rw [e1, e2]
        exact sw_ok hk (by rw [h.sc]; exact c6)
    · cases c
  | .sub a i e, x, c => by
    simp only [chkS] at c
    split at c
    · simp only [Bool.and_eq_true] at c
      obtain ⟨⟨⟨c1, c2⟩, c3⟩, c4⟩ := c
      have A := okE (n0 := n0) a _ h c1
      have B := okE (n0 := n0) i _ h c2
      have C := okE (n0 := n0) e _ h c3
      exact s_sub h.hu A.1 B.1 C.1 B.2.2 C.2.2 c4
    · cases c
  | .asg2 a i a' i' e, x, c => by
    simp only [chkS] at c
    split at c
    · simp only [Bool.and_eq_true] at c
      obtain ⟨⟨⟨⟨c1, c2⟩, c3⟩, c4⟩, c5⟩ := c
      have B := okE (n0 := n0) i _ h c2
      have D := okE (n0 := n0) i' _ h c4
      exact s_asg2 h.hu (okE a _ h c1).1 B.1 (okE a' _ h c3).1 D.1 (okE e _ h c5).1 B.2.2 D.2.2
    · cases c
  | .sub2 a i a' i' e e', x, c => by
    simp only [chkS] at c
    split at c
    · simp only [Bool.and_eq_true, decide_eq_true_eq] at c
      obtain ⟨⟨⟨⟨⟨c1, c2⟩, c3⟩, c4⟩, c5⟩, c6⟩ := c
      have B := okE (n0 := n0) i _ h c2
      have D := okE (n0 := n0) i' _ h c4
      exact s_sub2 h.calm h.hu (okE a _ h c1).1 B.1 (okE a' _ h c3).1 D.1 (okL [e, e'] _ h c5).pa B.2.2 D.2.2 (sw_ok hk (by rw [h.sc]; exact c6))
    · cases c
  | .ex e, x, c => by
    simp only [chkS] at c
    split at c
    · simp only [Bool.and_eq_true] at c
      have A := okE (n0 := n0) e _ h c.1
      exact s_ex A.1 A.2.2 c.2
    · cases c
  | .ret e, x, c => by
    simp only [chkS] at c
    split at c
    · exact s_ret (okE e _ h c).1
    · rw [isNonE_ok c]; exact s_retN
    · cases c
  | .iff c' t f, x, c => by
    simp only [chkS] at c
    split at c
    · simp only [Bool.and_eq_true] at c
      exact s_if (okE c' _ h c.1.1).2.1 (okB h hk t _ c.1.2) (okB h hk f _ c.2)
    · cases c
  | .for_ p ik its b, x, c => by
    simp only [chkS] at c
    split at c
    · simp only [Bool.and_eq_true] at c
      obtain ⟨⟨⟨c1, c2⟩, c3⟩, c4⟩ := c
      split at c3
      · rename_i xs e1
        exact s_for h.own h.calm (i_of h e1 (okL its _ h c3)) (okP h p _ c1).1 (okB h hk b _ c4) c2
      · cases c3
    · cases c
  | .wh c' b, x, c => by
    simp only [chkS] at c
    split at c
    · simp only [Bool.and_eq_true] at c
      exact s_wh h.own (okE c' _ h c.1).2.1 (okB h hk b _ c.2)
    · cases c
  | .pass, x, c => by
    simp only [chkS] at c
    split at c
    · exact s_pass
    · exact s_doc
    · cases c
  | .brk, x, c => by
    simp only [chkS] at c
    split at c
    · exact s_brk
    · cases c
  | .cont, x, c => by
    simp only [chkS] at c
    split at c
    · exact s_cont
    · cases c
  | .stuck, x, c => s_never
theorem okB (h : Ok G cal k N rs ws X) (hk : X.env.scope.kind = .function) : ∀ (ss : List S) (xs : List Stmt), chkB G N rs ws ss xs = true → PLv X G.fa cal n0 xs ss
  | [], xs, c => by
    cases xs with
    | nil => exact l_nil
    | cons => simp [chkB] at c
  | s :: ss, xs, c => by
    cases xs with
    | nil => simp [chkB] at c
    | cons x xs =>
      simp only [chkB, Bool.and_eq_true] at c
      exact l_cons (okS h hk s x c.1) (okB h hk ss xs c.2)
end
end
end R

set_option Elab.async false
set_option linter.all false
set_option maxRecDepth 100000
set_option maxHeartbeats 4000000
/-! R5: defs keep their promises at every level; what the law's walk asks -/
namespace R
open PySem PySem.Spec PyProof.Rows L2

section
variable {K : PySem.W.Frag} {fa : Nat → Option Addr} {t m m' : List Addr} {n n' : Nat} {H H' : Hp} {bs : List Nat} {μ μ' : Mu}
/-- the bounds of a callee -/
def bsIn (bs : List Nat) (l : Nat) : List Nat := bs ++ List.replicate (l - bs.length) l
theorem bsIn_len {l : Nat} (h : bs.length ≤ l) : (bsIn bs l).length = l := by simp [bsIn]; omega
theorem bsIn_lt {l i : Nat} (h : i < bs.length) : (bsIn bs l)[i]? = bs[i]? := by
  unfold bsIn
  rw [List.getElem?_append_left h]
theorem bsIn_mid {l i : Nat} (h : bs.length ≤ i) (h2 : i < l) : (bsIn bs l)[i]? = some l := by
  unfold bsIn
  rw [List.getElem?_append_right h, List.getElem?_replicate]
  simp
  omega
theorem bsIn_out {l i : Nat} (h : bs.length ≤ l) (h2 : l ≤ i) : (bsIn bs l)[i]? = none := by
  rw [List.getElem?_eq_none_iff, bsIn_len h]
  exact h2
/-- a call begins -/
theorem Me.enter (M : Me K fa bs t m H μ) : Me K fa (bsIn bs m.length) t m H μ := by
  refine ⟨M.len, by rw [bsIn_len M.low]; exact Nat.le_refl _, M.nd, fun i a o h1 h2 => ?_, fun i b hb => ?_, M.tt⟩
  · have q := M.ct i a o h1 h2
    have hi : i < m.length := (List.getElem?_eq_some_iff.mp h1).1
    by_cases h : i < bs.length
    · rw [bsIn_lt h]; exact q
    · rw [bsIn_mid (by omega) hi]
      rw [List.getElem?_eq_none_iff.mpr (by omega)] at q
      exact q
  · rw [bsIn_len M.low]
    by_cases h : i < bs.length
    · rw [bsIn_lt h] at hb
      exact Nat.le_trans (M.bd i b hb) M.low
    · by_cases h2 : i < m.length
      · rw [bsIn_mid (by omega) h2] at hb; cases hb; exact Nat.le_refl _
      · rw [bsIn_out M.low (by omega)] at hb; cases hb
/-- a call ends, all objects kept -/
theorem Me.leave (hl : bs.length ≤ m.length) (hbd : ∀ (i b : Nat), bs[i]? = some b → b ≤ bs.length) (M : Me K fa (bsIn bs m.length) t m' H' μ') : Me K fa bs t m' H' μ' := by
  have hlow := M.low
  rw [bsIn_len hl] at hlow
  refine ⟨M.len, by omega, M.nd, fun i a o h1 h2 => ?_, hbd, M.tt⟩
  have q := M.ct i a o h1 h2
  refine q.ex (Ex.refl _ _) ?_ rfl
  by_cases h : i < bs.length
  · rw [bsIn_lt h]; exact Nat.le_refl _
  · have hn : bs[i]? = none := List.getElem?_eq_none_iff.mpr (by omega)
    rw [hn]
    by_cases h2 : i < m.length
    · rw [bsIn_mid (by omega) h2]; exact hlow
    · rw [bsIn_out hl (by omega)]; exact Nat.le_refl _
mutual
theorem Rp.shrink {r : List Addr} (hn : n ≤ m.length) : ∀ {u : U} {v : V}, Rp K fa t (m ++ r) n H u v → Rp K fa t m n H u v
  | _, _, .non => .non
  | _, _, .bl b => .bl b
  | _, _, .int i => .int i
  | _, _, .str x => .str x
  | _, _, .tup h q => .tup ⟨h.1, fun z => h.2.1 (List.mem_append_left _ z), h.2.2⟩ (RpA.shrink hn q)
  | _, _, .lst h q => .lst ⟨h.1, fun z => h.2.1 (List.mem_append_left _ z), h.2.2⟩ (RpA.shrink hn q)
  | _, _, .dK h a z q => .dK h (fun y => a (List.mem_append_left _ y)) z (RpA.shrink hn q)
  | _, _, .dT h a z q => .dT h (fun y => a (List.mem_append_left _ y)) z (RpA.shrink hn q)
  | _, _, .ob hi h => .ob hi (by rw [List.getElem?_append_left (by omega)] at h; exact h)
  | _, _, .fn h => .fn h
  | _, _, .scr h => .scr (h.elim (fun q => .inl ⟨q.1, fun z => q.2.1 (List.mem_append_left _ z), q.2.2⟩) .inr)
theorem RpA.shrink {r : List Addr} (hn : n ≤ m.length) : ∀ {us : List U} {vs : List V}, RpA K fa t (m ++ r) n H us vs → RpA K fa t m n H us vs
  | _, _, .nil => .nil
  | _, _, .cons h q => .cons (Rp.shrink hn h) (RpA.shrink hn q)
end
theorem Ct.shrink {r : List Addr} (hn : n ≤ m.length) {a : Addr} {o : U} (h : Ct K fa t (m ++ r) n H a o) : Ct K fa t m n H a o := by
  cases h with
  | lst h q => exact .lst h (q.shrink hn)
  | dK h q => exact .dK h (q.shrink hn)
  | dT h q => exact .dT h (q.shrink hn)
/-- a call ends, its own objects dropped -/
theorem Me.drop {r : List Addr} (hl : bs.length ≤ m.length) (hbd : ∀ (i b : Nat), bs[i]? = some b → b ≤ bs.length) (M : Me K fa (bsIn bs m.length) t (m ++ r) H' μ') : Me K fa bs t m H' (μ'.take m.length) := by
  have hlen := M.len
  rw [List.length_append] at hlen
  refine ⟨by simp; omega, hl, ?_, fun i a o h1 h2 => ?_, hbd, fun a ha => ?_⟩
  · have := M.nd
    rw [List.nodup_append] at this
    exact this.1
  · have hi : i < m.length := (List.getElem?_eq_some_iff.mp h1).1
    rw [List.getElem?_take_of_lt hi] at h2
    have q := M.ct i a o (by rw [List.getElem?_append_left hi]; exact h1) h2
    by_cases h : i < bs.length
    · rw [bsIn_lt h] at q
      cases hb : bs[i]? with
      | none => rw [List.getElem?_eq_none_iff] at hb; omega
      | some b =>
        rw [hb] at q
        exact q.shrink (Nat.le_trans (hbd i b hb) hl)
    · rw [bsIn_mid (by omega) hi] at q
      rw [List.getElem?_eq_none_iff.mpr (by omega)]
      exact q.shrink (Nat.le_refl _)
  · obtain ⟨h1, h2⟩ := M.tt a ha
    exact ⟨fun z => h1 (List.mem_append_left _ z), h2⟩
theorem Ex.drop {r : List Addr} (e : Ex m H (m ++ r) H') : Ex m H m H' := ⟨⟨[], by simp⟩, e.keep, fun a h n => absurd h n⟩
/-- frozen -/
theorem frz_ok {r : List Addr} {cs : List Nat} (M : Me K fa cs t (m ++ r) H' μ') : ∀ (k : Nat),
    (∀ (u w : U) (v : V), frz m.length μ' k u = some w → Rp K fa t (m ++ r) (m ++ r).length H' u v → Rp K fa t m m.length H' w v) ∧
    (∀ (us ws : List U) (vs : List V), mapO (frz m.length μ' k) us = some ws → RpA K fa t (m ++ r) (m ++ r).length H' us vs → RpA K fa t m m.length H' ws vs) := by
  intro k
  induction k with
  | zero =>
    have one : ∀ (u w : U) (v : V), frz m.length μ' 0 u = some w → Rp K fa t (m ++ r) (m ++ r).length H' u v → Rp K fa t m m.length H' w v := by
      intro u w v e q
      cases q with
      | non => simp [frz] at e; subst e; exact .non
      | bl b => simp [frz] at e; subst e; exact .bl b
      | int b => simp [frz] at e; subst e; exact .int b
      | str b => simp [frz] at e; subst e; exact .str b
      | fn h => simp [frz] at e; subst e; exact .fn h
      | scr h => simp [frz] at e; subst e; exact .scr (h.elim (fun q => .inl ⟨q.1, fun z => q.2.1 (List.mem_append_left _ z), q.2.2⟩) .inr)
      | tup => simp [frz] at e
      | lst => simp [frz] at e
      | dK => simp [frz] at e
      | dT => simp [frz] at e
      | ob => simp [frz] at e
    refine ⟨one, fun us => ?_⟩
    induction us with
    | nil => intro ws vs e q; cases e; cases q; exact .nil
    | cons u us ih =>
      intro ws vs e q
      obtain ⟨z, zs, e1, e2, rfl⟩ := mapO_cons e
      cases q with
      | cons a b => exact .cons (one _ _ _ e1 a) (ih _ _ e2 b)
  | succ k ih0 =>
    obtain ⟨ih1, ih2⟩ := ih0
    have one : ∀ (u w : U) (v : V), frz m.length μ' (k + 1) u = some w → Rp K fa t (m ++ r) (m ++ r).length H' u v → Rp K fa t m m.length H' w v := by
      intro u w v e q
      cases q with
      | non => simp [frz] at e; subst e; exact .non
      | bl b => simp [frz] at e; subst e; exact .bl b
      | int b => simp [frz] at e; subst e; exact .int b
      | str b => simp [frz] at e; subst e; exact .str b
      | fn h => simp [frz] at e; subst e; exact .fn h
      | scr h => simp [frz] at e; subst e; exact .scr (h.elim (fun q => .inl ⟨q.1, fun z => q.2.1 (List.mem_append_left _ z), q.2.2⟩) .inr)
      | tup f ra =>
        simp only [frz] at e
        split at e
        · rename_i ys e2
          cases e
          exact .tup ⟨f.1, fun z => f.2.1 (List.mem_append_left _ z), f.2.2⟩ (ih2 _ _ _ e2 ra)
        · cases e
      | lst f ra =>
        simp only [frz] at e
        split at e
        · rename_i ys e2
          cases e
          exact .lst ⟨f.1, fun z => f.2.1 (List.mem_append_left _ z), f.2.2⟩ (ih2 _ _ _ e2 ra)
        · cases e
      | dK f g h ra =>
        simp only [frz] at e
        split at e
        · rename_i ys e2
          cases e
          exact .dK f (fun z => g (List.mem_append_left _ z)) h (ih2 _ _ _ e2 ra)
        · cases e
      | dT f g h ra =>
        simp only [frz] at e
        split at e
        · rename_i ys e2
          cases e
          exact .dT f (fun z => g (List.mem_append_left _ z)) h (ih2 _ _ _ e2 ra)
        · cases e
      | @ob i a hi ha =>
        simp only [frz] at e
        split at e
        · rename_i hlt
          cases e
          exact .ob hlt (by rw [List.getElem?_append_left hlt] at ha; exact ha)
        · rename_i hge
          have key : ∀ o, μ'[i]? = some o → a ∉ m ∧ a ∉ t ∧ Ct K fa t (m ++ r) (m ++ r).length H' a o := by
            intro o e2
            obtain ⟨a', ea, hm2, c⟩ := M.objF (.ob hi ha) e2
            cases ea
            refine ⟨fun z => ?_, fun z => (M.tt a z).1 (List.mem_of_getElem? hm2), c⟩
            have nd := M.nd
            rw [List.nodup_append] at nd
            rw [List.getElem?_append_right (by omega)] at ha
            exact nd.2.2 a z a (List.mem_of_getElem? ha) rfl
          split at e
          · rename_i xs e2
            obtain ⟨nm, nt, c⟩ := key _ e2
            split at e
            · rename_i ys e3
              cases e
              cases c with
              | lst hH ra => exact .lst ⟨hH, nm, nt⟩ (ih2 _ _ _ e3 ra)
            · cases e
          · rename_i ks xs e2
            obtain ⟨nm, nt, c⟩ := key _ e2
            split at e
            · rename_i ys e3
              cases e
              cases c with
              | dK hH ra => exact .dK hH nm nt (ih2 _ _ _ e3 ra)
            · cases e
          · rename_i ks xs e2
            obtain ⟨nm, nt, c⟩ := key _ e2
            split at e
            · rename_i ys e3
              cases e
              cases c with
              | dT hH ra => exact .dT hH nm nt (ih2 _ _ _ e3 ra)
            · cases e
          · cases e
    refine ⟨one, fun us => ?_⟩
    induction us with
    | nil => intro ws vs e q; cases e; cases q; exact .nil
    | cons u us ih =>
      intro ws vs e q
      obtain ⟨z, zs, e1, e2, rfl⟩ := mapO_cons e
      cases q with
      | cons a b => exact .cons (one _ _ _ e1 a) (ih _ _ e2 b)

theorem fin_ok {keep : Bool} {w u : U} {μ1 : Mu} {Q : VK} (M : Me K fa bs t m H μ) (kk : Kn K fa bs t m H u μ' Q) (ev : finish keep μ.length w μ1 = some (u, μ')) {m1 : List Addr} {H1 : Hp} {v : V} (x : Ex m H m1 H1) (M1 : Me K fa (bsIn bs m.length) t m1 H1 μ1) (r : Rp K fa t m1 m1.length H1 w v) : Q v H1 := by
  unfold finish at ev
  split at ev
  · cases ev
    exact kk m1 H1 v x (Me.leave M.low M.bd M1) r
  · split at ev
    · rename_i z e
      cases ev
      obtain ⟨rr, rfl⟩ := x.pre
      rw [← M.len] at e
      exact kk m H1 v x.drop (by rw [← M.len]; exact M1.drop M.low M.bd) ((frz_ok M1 D0).1 w _ v e r)
    · cases ev
end

/-! ### the defs -/
/-- a def of the program, its names (the parameters first), its form in our language -/
structure Pd where
  glob : Str
  name : Str
  st : Stmt
  names : List Str
  params : List Str
  df : Df
/-- what is seen of a def's text alone -/
def pdC (G : Gd) (d : Pd) : Bool :=
  C8.scC d.names d.params (defScope d.st) && chkB G d.names (defScope d.st) (defScope d.st) d.df.body (defBody d.st) && decide (d.names.length = d.df.ns) && decide (d.params.length = d.df.ps)
/-- what is seen of the written part -/
structure PdOk (K : PySem.W.Frag) (G : Gd) (i : Nat) (d : Pd) : Prop where
  ex : ∃ f fd, FunD K d.name d.name (defArgs d.st) (defBody d.st) (defScope d.st) [] [] f fd ∧ G.fa i = some f ∧ PySem.W.keepIn K (.ref f) = true ∧ Binds K fd d.params []
structure GdOk (K : PySem.W.Frag) (mg : Str → Option Value) (G : Gd) (pd : List Pd) : Prop where
  defs : ∀ i d, pd[i]? = some d → PdOk K G i d
  fns : ∀ x i, G.fns.lookup x = some i → i < pd.length ∧ ∃ f, mg x = some (.ref f) ∧ G.fa i = some f
  nums : ∀ x i, G.nums.lookup x = some i → ∃ t, mg x = some (.int i t)
  bns : ∀ x, x ∈ G.bns → mg x = none
section
variable {P : Program} {w : World} {K : PySem.W.Frag} {mg : Str → Option Value} {base : Heap} {G : Gd} {pd : List Pd}
theorem start_ok {fa : Nat → Option Addr} {t m : List Addr} {H : Hp} {N : List Str} {us : List U} {vs : List V} {ns ps : Nat} (ra : RpA K fa t m m.length H us vs) (hn : N.length = ns) (hp : us.length = ps) (hle : ps ≤ ns) : EnvR K fa t m H (us.map some ++ List.replicate (ns - ps) none) (L2.start N vs) := by
  have hl := ra.length
  refine ⟨by simp [L2.start]; omega, fun i u h => ?_⟩
  by_cases hi : i < us.length
  · rw [List.getElem?_append_left (by simpa using hi), List.getElem?_map] at h
    cases e : us[i]? with
    | none => rw [e] at h; cases h
    | some u' =>
      rw [e] at h
      cases h
      obtain ⟨v, hv, r⟩ := ra.get e
      refine ⟨v, ?_, r⟩
      unfold L2.start
      rw [List.getElem?_append_left (by rw [List.length_map, ← hl]; exact hi), List.getElem?_map, hv]
      rfl
  · rw [List.getElem?_append_right (by simpa using Nat.le_of_not_lt hi), List.getElem?_replicate] at h
    split at h <;> cases h
theorem lev (GO : GdOk K mg G pd) (hC : ∀ d ∈ pd, pdC G d = true) : ∀ (k i : Nat) (d : Pd), pd[i]? = some d →
    ∃ f fd, G.fa i = some f ∧ PySem.W.keepIn K (.ref f) = true ∧ Binds K fd d.params [] ∧ FnOk P w K mg base C8.CX0 k f fd d.params (spU K G.fa (runF (pd.map (·.df)) k) i) ∧ FunD K d.name d.name (defArgs d.st) (defBody d.st) (defScope d.st) [] [] f fd := by
  intro k
  induction k with
  | zero =>
    intro i d hd
    obtain ⟨f, fd, F, hf, kp, hb⟩ := (GO.defs i d hd).ex
    refine ⟨f, fd, hf, kp, hb, ⟨fun vs H Q E h => ?_, fun A outer s H args us vs Q E hr he hb hv h => ?_⟩, F⟩
    · obtain ⟨t, bs, m, μ, us, u, μ', M, ra, ev, kk⟩ := h
      simp [runF] at ev
    · obtain ⟨t, bs, m, μ, us, u, μ', M, ra, ev, kk⟩ := h
      simp [runF] at ev
  | succ k ih =>
    intro i d hd
    obtain ⟨f, fd, F, hf, kp, hb⟩ := (GO.defs i d hd).ex
    have hc := hC d (List.mem_of_getElem? hd)
    unfold pdC at hc
    simp only [Bool.and_eq_true, decide_eq_true_eq] at hc
    obtain ⟨⟨⟨c1, c2⟩, c3⟩, c4⟩ := hc
    have S := C8.fnScope_by c1
    have hdf : (pd.map (·.df))[i]? = some d.df := by rw [List.getElem?_map, hd]; rfl
    have hle : d.df.ps ≤ d.df.ns := by
      have := congrArg List.length S.pre
      rw [List.length_take] at this
      omega
    have step : ∀ {us : List U} {μ μ' : Mu} {u : U}, runF (pd.map (·.df)) (k + 1) i us μ = some (u, μ') → us.length = d.df.ps ∧ ∃ o, exL (runF (pd.map (·.df)) k) μ.length d.df.body (us.map some ++ List.replicate (d.df.ns - d.df.ps) none) μ = some o ∧
        ((∃ z μ1, o = .rt z μ1 ∧ finish d.df.keep μ.length z μ1 = some (u, μ')) ∨ ∃ σ μ1, o = .nx σ μ1 ∧ finish d.df.keep μ.length .non μ1 = some (u, μ')) := by
      intro us μ μ' u ev
      simp only [runF, hdf] at ev
      split at ev
      · rename_i hl
        refine ⟨hl, ?_⟩
        split at ev
        · rename_i z μ1 e; exact ⟨_, e, .inl ⟨z, μ1, rfl, ev⟩⟩
        · rename_i σ μ1 e; exact ⟨_, e, .inr ⟨σ, μ1, rfl, ev⟩⟩
        · cases ev
      · cases ev
    refine ⟨f, fd, hf, kp, hb, FunD.ok F S (fun vs H Q E h => ?_) (fun cdv A outer s H vs Q E hr h => ?_), F⟩
    · obtain ⟨t, bs, m, μ, us, u, μ', M, ra, ev, kk⟩ := h
      rw [← ra.length, (step ev).1, c4]
    · obtain ⟨t, bs, m, μ, us, u, μ', M, ra, ev, kk⟩ := h
      obtain ⟨hl, o, eo, ho⟩ := step ev
      have ok : Ok G (runF (pd.map (·.df)) k) k d.names (defScope d.st) (defScope d.st) (cxOf C8.CX0 P w K mg base d.names d.name (defScope d.st) f cdv A outer s H E).nox :=
        { calm := rfl, nm := rfl, nd := S.nd, sc := rfl, fn := fun _ _ => rfl, room := hr, own := PassesOwn.never, nums := GO.nums, bns := GO.bns,
          calls := fun x j e => by
            obtain ⟨hj, g, hg, hgf⟩ := GO.fns x j e
            obtain ⟨g', fd', h1, h2, h3, h4, _⟩ := ih j pd[j] (List.getElem?_eq_getElem hj)
            rw [hgf] at h1
            cases h1
            exact ⟨g, fd', _, hg, hgf, h2, h3, h4⟩ }
      refine ⟨_, PSs.nox (okB (n0 := μ.length) ok S.kind d.df.body _ c2), ?_⟩
      refine ⟨t, bsIn bs m.length, m, _, μ, o, by rw [bsIn_len M.low, M.len], start_ok ra c3 hl hle, M.enter, eo, ?_⟩
      rcases ho with ⟨z, μ1, rfl, ef⟩ | ⟨σ, μ1, rfl, ef⟩
      · exact fun m1 H1 v x M1 r => fin_ok M kk ef x M1 r
      · exact fun m1 H1 σV x M1 _ => fin_ok M kk ef x M1 .non

/-! ### the end -/
/-- the arguments of a call are bound in their order -/
def BdOk (d : Pd) : Prop := ∀ (kV doc pm : Value) (an : Option Addr) (cdv ct : Value) (us : List Value), us.length = d.params.length → bindArgs (PySem.W.fnOf d.name d.name (defArgs d.st) (defBody d.st) (defScope d.st) .none kV doc pm an cdv ct) ⟨us, []⟩ = pure (d.params.zip us)
def BdAll : List Pd → Prop
  | [] => True
  | d :: ds => BdOk d ∧ BdAll ds
theorem BdAll.at_ : ∀ {ds : List Pd} {i : Nat} {d : Pd}, BdAll ds → ds[i]? = some d → BdOk d
  | [], _, _, _, h => by simp at h
  | d :: ds, 0, _, h, e => by simp at e; subst e; exact h.1
  | d :: ds, i + 1, _, h, e => h.2.at_ (by simpa using e)
def fnD (pd : List Pd) : List He.DefD := pd.map fun d => ⟨(d.glob, none), d.name, d.name, defArgs d.st, defBody d.st, defScope d.st, [], []⟩
def factsOf (fns : List (Str × Nat)) (nums : List (Str × Int)) (bns : List Str) : List He.Fa := fns.map (fun p => .glo p.1) ++ (nums.map (fun p => .int p.1 p.2) ++ bns.map .free)
def gdOf (K : PySem.W.Frag) (pd : List Pd) (fns : List (Str × Nat)) (nums : List (Str × Int)) (bns : List Str) : Gd := ⟨fun i => (pd[i]?).map fun d => He.ga K d.glob, fns, nums, bns⟩
theorem lookup_mem {α : Type} : ∀ {l : List (Str × α)} {x : Str} {a : α}, l.lookup x = some a → (x, a) ∈ l
  | [], _, _, h => by simp at h
  | (y, b) :: l, x, a, h => by
    rw [List.lookup_cons] at h
    cases e : x == y with
    | true =>
      rw [e] at h
      cases h
      rw [beq_iff_eq.mp e]
      exact List.mem_cons_self
    | false =>
      rw [e] at h
      exact List.mem_cons_of_mem _ (lookup_mem h)
theorem gd_ok {h : Heap} {fns : List (Str × Nat)} {nums : List (Str × Int)} {bns : List Str} (X : K.In h) (Gm : h.Ns mainGlobals mg) (c : He.SaysD (factsOf fns nums bns) (fnD pd) K) (hb : BdAll pd) (hf : fns.all (fun p => decide ((pd[p.2]?).map (·.glob) = some p.1)) = true) :
    GdOk K mg (gdOf K pd fns nums bns) pd := by
  have fact : ∀ f ∈ factsOf fns nums bns, f.ok K = true := fun f hf => by
    obtain ⟨i, hi⟩ := List.mem_iff_getElem?.mp hf
    exact c.fact i hi
  refine ⟨fun i d hd => ?_, fun x i e => ?_, fun x i e => ?_, fun x e => ?_⟩
  · have hi : (fnD pd)[i]? = some ⟨(d.glob, none), d.name, d.name, defArgs d.st, defBody d.st, defScope d.st, [], []⟩ := by
      unfold fnD
      rw [List.getElem?_map, hd]
      rfl
    obtain ⟨fd, F⟩ := c.def_ i hi
    exact ⟨_, fd, F, by show (pd[i]?).map _ = _; rw [hd]; rfl, F.kp, F.bindsN (hb.at_ hd)⟩
  · have hm := lookup_mem e
    have h1 := List.all_eq_true.mp hf (x, i) hm
    have h2 : (pd[i]?).map (·.glob) = some x := of_decide_eq_true h1
    cases hd : pd[i]? with
    | none => rw [hd] at h2; cases h2
    | some d =>
      rw [hd] at h2
      have h3 : d.glob = x := Option.some.inj h2
      refine ⟨(List.getElem?_eq_some_iff.mp hd).1, He.ga K x, He.glo_ok X Gm (fact (.glo x) ?_), ?_⟩
      · unfold factsOf
        exact List.mem_append_left _ (List.mem_map.mpr ⟨(x, i), hm, rfl⟩)
      · show (pd[i]?).map _ = _
        rw [hd, ← h3]
        rfl
  · refine He.int_ok X Gm (fact (.int x i) ?_)
    unfold factsOf
    exact List.mem_append_right _ (List.mem_append_left _ (List.mem_map.mpr ⟨(x, i), lookup_mem e, rfl⟩))
  · refine He.free_ok X Gm (fact (.free x) ?_)
    unfold factsOf
    exact List.mem_append_right _ (List.mem_append_right _ (List.mem_map.mpr ⟨x, e, rfl⟩))
def spLaw (K : PySem.W.Frag) : Sp := fun vs H Q _ => ∃ (a : Addr) (ns : List Int), vs = [.ref a] ∧ SqL K H a (ns.map V.int) ∧ ns.length ≤ 63 ∧ ∀ H', Q (.bl true) H'
/-- the law, from what our evaluator says -/
theorem law_ok {fns : List (Str × Nat)} {nums : List (Str × Int)} {bns : List Str} {L k : Nat} {h : Heap} {f : Addr} (X : K.In h) (Gm : h.Ns mainGlobals mg) (c : He.SaysD (factsOf fns nums bns) (fnD pd) K) (hb : BdAll pd) (hf : fns.all (fun p => decide ((pd[p.2]?).map (·.glob) = some p.1)) = true)
    (hC : ∀ fa : Nat → Option Addr, pd.all (pdC ⟨fa, fns, nums, bns⟩) = true) {d : Pd} (hd : pd[L]? = some d) (hp : d.params = [("script" : Str)]) (hg : d.glob = "law") (hl : fns.lookup ("law" : Str) = some L) (hfa : mg ("law" : Str) = some (.ref f))
    (law : ∀ ns : List Int, ns.length ≤ 63 → ∃ μ, runF (pd.map (·.df)) k L [.scr ns] [] = some (.bl true, μ)) :
    ∃ fd : FuncData, (∀ (s : Shared) (v : Value), BindsTo s fd ⟨[v], []⟩ [("script", v)]) ∧ ∀ base : Heap, K.In base → base.Ns mainGlobals mg → FnOk P w K mg base C8.CX0 k f fd ["script"] (spLaw K) := by
  have GO := gd_ok X Gm c hb hf
  obtain ⟨f0, fd, F, hfa0, kp, hbi⟩ := (GO.defs L d hd).ex
  obtain ⟨_, f1, e1, e2⟩ := GO.fns _ _ hl
  rw [hfa] at e1
  cases e1
  rw [hfa0] at e2
  cases e2
  refine ⟨fd, fun s v => ?_, fun base _ _ => ?_⟩
  · have := FunD.bindsA (ps := d.params) F (hb.at_ hd) s [v] (by rw [hp]; rfl)
    rw [hp] at this
    exact this
  · obtain ⟨f2, fd2, h1, h2, h3, h4, F2⟩ := lev (P := P) (w := w) (base := base) GO (fun d hd => List.all_eq_true.mp (hC _) d hd) k L d hd
    rw [hfa0] at h1
    cases h1
    have efd : fd2 = fd := by
      obtain ⟨oc, od, dV, kV, doc, pm, an, cdv, ct, osl, e1, lk, _⟩ := F.ex
      obtain ⟨oc', od', dV', kV', doc', pm', an', cdv', ct', osl', e1', lk', _⟩ := F2.ex
      rw [lk] at lk'
      cases lk'
      rfl
    subst efd
    rw [hp] at h4
    refine h4.imp fun vs H Q E q => ?_
    obtain ⟨a, ns, rfl, hS, hn, hQ⟩ := q
    obtain ⟨μ', e⟩ := law ns hn
    refine ⟨[], [], [], [], [.scr ns], .bl true, μ', ⟨rfl, Nat.le_refl _, List.nodup_nil, fun i a o h => by simp at h, fun i b h => by simp at h, fun a h => by simp at h⟩, .one (.scr ?_), e, fun m' H' v x M r => ?_⟩
    · rcases hS with hS | hS
      · exact .inl ⟨hS, by simp, by simp⟩
      · exact .inr hS
    · cases r
      exact hQ H'
end
end R

set_option Elab.async false
set_option linter.all false
set_option maxRecDepth 100000
set_option maxHeartbeats 4000000
/-! M0: the evaluator's loops and parts, for the mathematics of the laws -/
namespace R
open PySem L2

abbrev I (n : Nat) : U := .int (n : Int)
/-! ### turns -/
theorem compL_all {α : Type} {step : U → Mu → Option (Option U × Mu)} {enc g : α → U} {μ : Mu} : ∀ {xs : List α} {acc : List U}, (∀ x ∈ xs, step (enc x) μ = some (some (g x), μ)) → acc.length + xs.length ≤ SZ → compL step (xs.map enc) acc μ = some (acc ++ xs.map g, μ)
  | [], acc, _, _ => by simp [compL]
  | x :: xs, acc, h, hl => by
    simp only [List.map_cons, compL]
    rw [h x (by simp)]
    simp only
    rw [if_pos (by simp at hl; omega), compL_all (fun y hy => h y (by simp [hy])) (by simp at hl ⊢; omega)]
    simp
theorem compL_filter {α : Type} {step : U → Mu → Option (Option U × Mu)} {enc g : α → U} {p : α → Bool} {μ : Mu} : ∀ {xs : List α} {acc : List U}, (∀ x ∈ xs, step (enc x) μ = some (if p x then some (g x) else none, μ)) → acc.length + xs.length ≤ SZ → compL step (xs.map enc) acc μ = some (acc ++ (xs.filter p).map g, μ)
  | [], acc, _, _ => by simp [compL]
  | x :: xs, acc, h, hl => by
    simp only [List.map_cons, compL]
    rw [h x (by simp)]
    cases hp : p x with
    | true =>
      simp only [if_true]
      rw [if_pos (by simp at hl; omega), compL_filter (fun y hy => h y (by simp [hy])) (by simp at hl ⊢; omega)]
      simp [hp]
    | false =>
      simp only [Bool.false_eq_true, if_false]
      rw [compL_filter (fun y hy => h y (by simp [hy])) (by simp at hl ⊢; omega)]
      simp [hp]
theorem compL_ex {step : U → Mu → Option (Option U × Mu)} {Inv : Mu → Prop} {P : U → U → Prop} : ∀ {xs : List U} {acc : List U} {μ : Mu}, Inv μ → (∀ x ∈ xs, ∀ μ, Inv μ → ∃ y μ', step x μ = some (some y, μ') ∧ Inv μ' ∧ P x y) → acc.length + xs.length ≤ SZ →
    ∃ ys μ', compL step xs acc μ = some (acc ++ ys, μ') ∧ Inv μ' ∧ ys.length = xs.length ∧ ∀ y ∈ ys, ∃ x ∈ xs, P x y
  | [], acc, μ, h, _, _ => ⟨[], μ, by simp [compL], h, rfl, by simp⟩
  | x :: xs, acc, μ, h, hs, hl => by
    obtain ⟨y, μ1, e, h1, p⟩ := hs x (by simp) μ h
    obtain ⟨ys, μ2, e2, h2, l2, p2⟩ := compL_ex (xs := xs) (acc := acc ++ [y]) h1 (fun z hz => hs z (by simp [hz])) (by simp at hl ⊢; omega)
    refine ⟨y :: ys, μ2, ?_, h2, by simp [l2], fun z hz => ?_⟩
    · simp only [compL]
      rw [e]
      simp only
      rw [if_pos (by simp at hl; omega), e2]
      simp
    · rcases List.mem_cons.mp hz with e | e
      · subst e; exact ⟨x, by simp, p⟩
      · obtain ⟨w, hw, q⟩ := p2 z e
        exact ⟨w, by simp [hw], q⟩
theorem forL_inv {step : U → Env → Mu → Option Out} (P : Nat → Env → Mu → Prop) : ∀ {xs : List U} {k : Nat} {σ : Env} {μ : Mu}, P k σ μ → (∀ i x σ μ, xs[i]? = some x → P (k + i) σ μ → ∃ σ' μ', (step x σ μ = some (.nx σ' μ') ∨ step x σ μ = some (.ct σ' μ')) ∧ P (k + i + 1) σ' μ') →
    ∃ σ' μ', forL step xs σ μ = some (.nx σ' μ') ∧ P (k + xs.length) σ' μ'
  | [], k, σ, μ, h, _ => ⟨σ, μ, by simp [forL], h⟩
  | x :: xs, k, σ, μ, h, hs => by
    obtain ⟨σ1, μ1, e, h1⟩ := hs 0 x σ μ rfl h
    obtain ⟨σ2, μ2, e2, h2⟩ := forL_inv (P := P) (k := k + 1) h1 fun i y σ μ hy hp => by
      have := hs (i + 1) y σ μ (by simpa using hy) (by have e : k + (i + 1) = k + 1 + i := by omega
                                                       rw [e]; exact hp)
      have e : k + (i + 1) + 1 = k + 1 + i + 1 := by omega
      rw [e] at this
      exact this
    refine ⟨σ2, μ2, ?_, ?_⟩
    · simp only [forL]
      rcases e with e | e <;> rw [e] <;> exact e2
    · have e : k + (x :: xs).length = k + 1 + xs.length := by simp; omega
      rw [e]; exact h2
theorem forL_inv0 {step : U → Env → Mu → Option Out} (P : Nat → Env → Mu → Prop) {xs : List U} {σ : Env} {μ : Mu} (h : P 0 σ μ) (hs : ∀ i x σ μ, xs[i]? = some x → P i σ μ → ∃ σ' μ', (step x σ μ = some (.nx σ' μ') ∨ step x σ μ = some (.ct σ' μ')) ∧ P (i + 1) σ' μ') :
    ∃ σ' μ', forL step xs σ μ = some (.nx σ' μ') ∧ P xs.length σ' μ' := by
  have := forL_inv P (xs := xs) (k := 0) (σ := σ) (μ := μ) h fun i x σ μ hx hp => by
    have e : 0 + i = i := Nat.zero_add i
    rw [e] at hp ⊢
    exact hs i x σ μ hx hp
  rw [Nat.zero_add] at this
  exact this
/-- a walk over a mutable list that stays as it is -/
theorem forV_inv {step : U → Env → Mu → Option Out} {i : Nat} {xs : List U} (P : Nat → Env → Mu → Prop) (hP : ∀ k σ μ, P k σ μ → μ[i]? = some (.lst xs)) : ∀ {f k : Nat} {σ : Env} {μ : Mu}, P k σ μ → k ≤ xs.length → xs.length - k < f → (∀ k x σ μ, xs[k]? = some x → P k σ μ → ∃ σ' μ', (step x σ μ = some (.nx σ' μ') ∨ step x σ μ = some (.ct σ' μ')) ∧ P (k + 1) σ' μ') →
    ∃ σ' μ', forV false step i f k σ μ = some (.nx σ' μ') ∧ P xs.length σ' μ'
  | 0, k, σ, μ, h, hk, hf, _ => by omega
  | f + 1, k, σ, μ, h, hk, hf, hs => by
    simp only [forV]
    rw [hP k σ μ h]
    simp only
    by_cases hlt : k < xs.length
    · rw [List.getElem?_eq_getElem hlt]
      simp only
      obtain ⟨σ1, μ1, e, h1⟩ := hs k xs[k] σ μ (List.getElem?_eq_getElem hlt) h
      simp only [elm]
      obtain ⟨σ2, μ2, e2, h2⟩ := forV_inv P hP (f := f) (k := k + 1) h1 hlt (by omega) hs
      refine ⟨σ2, μ2, ?_, h2⟩
      rcases e with e | e <;> rw [e] <;> exact e2
    · have e : k = xs.length := by omega
      subst e
      rw [List.getElem?_eq_none_iff.mpr (Nat.le_refl _)]
      exact ⟨σ, μ, rfl, h⟩
theorem whL_inv {cond : Env → Mu → Option (Bool × Mu)} {body : Env → Mu → Option Out} (P : Nat → Env → Mu → Prop) (D : Env → Mu → Prop)
    (hs : ∀ m σ μ, P m σ μ → (∃ μ', cond σ μ = some (false, μ') ∧ D σ μ') ∨ ∃ μ1 σ' μ', cond σ μ = some (true, μ1) ∧ (body σ μ1 = some (.nx σ' μ') ∨ body σ μ1 = some (.ct σ' μ')) ∧ ∃ m', m' < m ∧ P m' σ' μ') :
    ∀ {f m : Nat} {σ : Env} {μ : Mu}, P m σ μ → m < f → ∃ σ' μ', whL cond body f σ μ = some (.nx σ' μ') ∧ D σ' μ'
  | 0, m, σ, μ, h, hf => by omega
  | f + 1, m, σ, μ, h, hf => by
    simp only [whL]
    rcases hs m σ μ h with ⟨μ', e, d⟩ | ⟨μ1, σ', μ', e, b, m', hm, h'⟩
    · rw [e]
      exact ⟨σ, μ', rfl, d⟩
    · rw [e]
      simp only
      obtain ⟨σ2, μ2, e2, d⟩ := whL_inv P D hs (f := f) h' (by omega)
      refine ⟨σ2, μ2, ?_, d⟩
      rcases b with b | b <;> rw [b] <;> exact e2
/-! ### lists of ints -/
theorem dat_int (μ : Mu) (k : Nat) (i : Int) : dat μ k (.int i) = some (.int i) := by cases k <;> rfl
theorem mapO_map {α β γ : Type} {f : β → Option γ} {g : α → β} {h : α → γ} : ∀ {xs : List α}, (∀ x ∈ xs, f (g x) = some (h x)) → mapO f (xs.map g) = some (xs.map h)
  | [], _ => rfl
  | x :: xs, hh => by
    simp only [List.map_cons, mapO]
    rw [hh x (by simp), mapO_map fun y hy => hh y (by simp [hy])]
theorem mapO_ints (μ : Mu) (k : Nat) (ns : List Int) : mapO (dat μ k) (ns.map U.int) = some (ns.map PyData.int) := mapO_map fun x _ => dat_int μ k x
theorem mapO_asInt (ns : List Int) : mapO asInt (ns.map U.int) = some ns := by
  have := mapO_map (f := asInt) (g := U.int) (h := id) (xs := ns) fun x _ => rfl
  simpa using this
theorem srtd_ints (μ : Mu) (ns : List Int) (h : ns.length ≤ SZ) : srtd μ (ns.map U.int) = some ((ns.mergeSort fun a b => decide (a ≤ b)).map U.int) := by
  unfold srtd
  rw [mapO_ints]
  simp only
  rw [if_pos]
  · congr 1
    have e : (ns.map U.int).zip (ns.map PyData.int) = ns.map fun i => (U.int i, PyData.int i) := List.zip_map'
    rw [e, ← List.map_mergeSort (r := fun a b => decide (a ≤ b)) (s := PySem.W.dataLe false Prod.snd) (f := fun i => (U.int i, PyData.int i))]
    · rw [List.map_map]; rfl
    · intro a _ b _
      show _ = !PySem.W.dataLt (.int b) (.int a)
      rw [PySem.W.dataLt_int]
      by_cases hab : a ≤ b
      · simp [hab]
      · simp [hab]; omega
  · simp only [Bool.and_eq_true, decide_eq_true_eq, Bool.or_eq_true, List.all_eq_true]
    refine ⟨⟨fun d hd e he => ?_, .inr fun d hd => ?_⟩, by simpa using h⟩
    · obtain ⟨i, _, rfl⟩ := List.mem_map.mp hd
      obtain ⟨j, _, rfl⟩ := List.mem_map.mp he
      rfl
    · obtain ⟨i, _, rfl⟩ := List.mem_map.mp hd
      rfl
theorem atI_of {α : Type} {xs : List α} {j : Nat} {v : α} (h : xs[j]? = some v) : atI xs (j : Int) = some v := atI_nat h
theorem nodup_lt {n : Nat} : ∀ {l : List Nat}, l.Nodup → (∀ x ∈ l, x < n) → l.length ≤ n := by
  induction n with
  | zero =>
    intro l _ h
    cases l with
    | nil => simp
    | cons x l => exact absurd (h x (by simp)) (by omega)
  | succ n ih =>
    intro l nd h
    by_cases hm : n ∈ l
    · have h1 := List.length_erase_of_mem hm
      have h2 := ih (nd.erase n) fun x hx => by
        have h3 := h x (List.mem_of_mem_erase hx)
        have h4 : x ≠ n := fun e => by
          subst e
          exact (List.Nodup.not_mem_erase nd) hx
        omega
      have : 0 < l.length := List.length_pos_of_mem hm
      omega
    · have h2 := ih nd fun x hx => by
        have h3 := h x hx
        have h4 : x ≠ n := fun e => hm (e ▸ hx)
        omega
      omega
/-! ### dicts whose keys are numbers -/
abbrev kI (n : Nat) : Key := .inl (n : Int)
theorem lk_map {f : Nat → U} {h : Nat} : ∀ {ks : List Nat}, h ∈ ks → lk (ks.map kI) (ks.map f) (kI h) = some (f h)
  | [], hm => by simp at hm
  | k :: ks, hm => by
    simp only [List.map_cons, lk]
    by_cases e : k = h
    · subst e; simp
    · rw [if_neg (by intro z; injection z with z; exact e (by omega))]
      exact lk_map (by rcases List.mem_cons.mp hm with z | z; exact absurd z.symm e; exact z)
theorem lk_none {f : Nat → U} {h : Nat} : ∀ {ks : List Nat}, h ∉ ks → lk (ks.map kI) (ks.map f) (kI h) = none
  | [], _ => rfl
  | k :: ks, hm => by
    simp only [List.map_cons, lk]
    rw [if_neg (by intro z; injection z with z; exact hm (by simp; left; omega))]
    exact lk_none fun z => hm (by simp [z])
theorem kI_mem {h : Nat} {ks : List Nat} : kI h ∈ ks.map kI ↔ h ∈ ks := by
  constructor
  · intro z
    obtain ⟨x, hx, e⟩ := List.mem_map.mp z
    injection e with e
    have : x = h := by omega
    exact this ▸ hx
  · exact fun z => List.mem_map.mpr ⟨h, z, rfl⟩
/-! ### rules for comprehensions and loops -/
section
variable (cal : Nat → List U → Mu → Option (U × Mu)) (n0 : Nat)
def cstep (p : Pt) (c e : E) (ws : List Nat) (σ : Env) : U → Mu → Option (Option U × Mu) := fun x μ => match bindP μ p x (wipeE σ ws) with
  | some σ' => match evalE cal n0 c σ' μ with
    | some (t, μ) => match truth μ t with
      | some true => match evalE cal n0 e σ' μ with
        | some (y, μ) => some (some y, μ)
        | none => none
      | some false => some (none, μ)
      | none => none
    | none => none
  | none => none
def fstep (p : Pt) (b : List S) : U → Env → Mu → Option Out := fun x σ μ => match bindP μ p x σ with
  | some σ => exL cal n0 b σ μ
  | none => none
def wcond (c : E) : Env → Mu → Option (Bool × Mu) := fun σ μ => match evalE cal n0 c σ μ with
  | some (u, μ) => match truth μ u with
    | some t => some (t, μ)
    | none => none
  | none => none
variable {cal n0}
theorem ev_comp {al : Bool} {p : Pt} {ik : Ik} {its : List E} {c e : E} {ws : List Nat} {σ : Env} {μ μ1 μ2 : Mu} {us xs ys : List U} (h1 : evalL cal n0 its σ μ = some (us, μ1)) (h2 : walk μ1 ik us = some (.inl xs)) (h3 : compL (cstep cal n0 p c e ws σ) xs [] μ1 = some (ys, μ2)) :
    evalE cal n0 (.comp al p ik its c e ws) σ μ = some (fresh al (.lst ys) μ2) := by
  simp only [evalE, h1, h2]
  have e0 : (match compL (cstep cal n0 p c e ws σ) xs [] μ1 with
    | some (ys, μ) => some (fresh al (.lst ys) μ)
    | none => none) = some (fresh al (.lst ys) μ2) := by rw [h3]
  exact e0
theorem ex_for {p : Pt} {ik : Ik} {its : List E} {b : List S} {σ : Env} {μ μ1 : Mu} {us xs : List U} (h1 : evalL cal n0 its σ μ = some (us, μ1)) (h2 : walk μ1 ik us = some (.inl xs)) :
    exS cal n0 (.for_ p ik its b) σ μ = forL (fstep cal n0 p b) xs σ μ1 := by
  simp only [exS, h1, h2]
  rfl
theorem ex_forV {p : Pt} {ik : Ik} {its : List E} {b : List S} {σ : Env} {μ μ1 : Mu} {us : List U} {i : Nat} (h1 : evalL cal n0 its σ μ = some (us, μ1)) (h2 : walk μ1 ik us = some (.inr (false, i))) :
    exS cal n0 (.for_ p ik its b) σ μ = forV false (fstep cal n0 p b) i FU 0 σ μ1 := by
  simp only [exS, h1, h2]
  rfl
theorem ex_wh {c : E} {b : List S} {σ : Env} {μ : Mu} : exS cal n0 (.wh c b) σ μ = whL (wcond cal n0 c) (fun σ μ => exL cal n0 b σ μ) FU σ μ := by
  simp only [exS]
  rfl
end
theorem cutU_nil (lo : Option Int) (hi : Option Int) : cutU [] lo hi = [] := by simp [cutU]
theorem cutU_from (xs : List U) (a : Nat) : cutU xs (some a) none = xs.drop a := by
  unfold cutU
  rw [show HT.sIx xs.length 0 (some (a : Int)) = min a xs.length from HT.sIx_nat xs.length 0 a, HT.sIx_none]
  by_cases h : a ≤ xs.length
  · rw [Nat.min_eq_left h, List.take_of_length_le (by simp)]
  · rw [Nat.min_eq_right (show xs.length ≤ a by omega)]
    simp
    omega
theorem cutU_to (xs : List U) (b : Nat) : cutU xs none (some b) = xs.take b := by
  unfold cutU
  rw [show HT.sIx xs.length xs.length (some (b : Int)) = min b xs.length from HT.sIx_nat xs.length xs.length b, HT.sIx_none]
  simp
theorem cutU_fromto (xs : List U) (a b : Nat) : cutU xs (some a) (some b) = (xs.take b).drop a := by
  unfold cutU
  rw [show HT.sIx xs.length xs.length (some (b : Int)) = min b xs.length from HT.sIx_nat xs.length xs.length b, show HT.sIx xs.length 0 (some (a : Int)) = min a xs.length from HT.sIx_nat xs.length 0 a]
  rw [List.drop_take]
  by_cases h : a ≤ xs.length
  · rw [Nat.min_eq_left h]
    by_cases h2 : b ≤ xs.length
    · rw [Nat.min_eq_left h2]
    · rw [Nat.min_eq_right (show xs.length ≤ b by omega), List.take_of_length_le (by simp), List.take_of_length_le (by simp; omega)]
  · rw [Nat.min_eq_right (show xs.length ≤ a by omega)]
    have : xs.drop a = [] := List.drop_eq_nil_of_le (by omega)
    simp [this]
theorem all_bl (n : Nat) : mapO asBl (List.replicate n (U.bl true)) = some (List.replicate n true) := by
  induction n with
  | zero => rfl
  | succ n ih => simp [List.replicate_succ, mapO, ih, asBl]
theorem all_bls {α : Type} (l : List α) : mapO asBl (l.map fun _ => U.bl true) = some (l.map fun _ => true) := mapO_map fun _ _ => rfl
theorem rgn_nat (n : Nat) : rgn 0 (n : Int) = (List.range n).map I := by
  unfold rgn
  simp
theorem rgn_nats (a n : Nat) : rgn (a : Int) (n : Int) = (List.range (n - a)).map fun i => I (a + i) := by
  unfold rgn
  have : ((n : Int) - a).toNat = n - a := by omega
  rw [this]
  simp
theorem zip_enc {α β : Type} (f : α → U) (g : β → U) (xs : List α) (ys : List β) : zips (xs.map f) (ys.map g) = (xs.zip ys).map fun q => .tup [f q.1, g q.2] := by
  unfold zips
  rw [List.zip_map, List.map_map]
  rfl
/-! ### rules for stores -/
section
variable {cal : Nat → List U → Mu → Option (U × Mu)} {n0 : Nat} {σ : Env} {μ : Mu}
theorem ex_append {al : Bool} {a e : E} {i : Nat} {u : U} {xs : List U} (ha : evalE cal n0 a σ μ = some (.ob i, μ)) (he : evalE cal n0 e σ μ = some (u, μ)) (h : μ[i]? = some (.lst xs)) (hl : xs.length < SZ) (ho : n0 ≤ i) :
    exS cal n0 (.ex (.me al .append a [e])) σ μ = some (.nx σ (μ.set i (.lst (xs ++ [u])))) := by
  have o : okw n0 i u = true := by simp [okw, ho]
  simp only [exS, evalE, evalL, ha, he, okm, asL, h, Option.isSome, evMe]
  rw [if_pos ⟨hl, o⟩]
theorem ex_subK {a e j : E} {i : Nat} {u : U} {ks : List Key} {vs : List U} {v : U} {q : Key} (he : evalE cal n0 e σ μ = some (u, μ)) (ha : evalE cal n0 a σ μ = some (.ob i, μ)) (hj : evalE cal n0 j σ μ = some (v, μ)) (hq : sky v = some q) (h : μ[i]? = some (.dk ks vs)) (hl : ks.length < SZ) (ho : n0 ≤ i) :
    exS cal n0 (.sub a j e) σ μ = some (.nx σ (μ.set i (.dk (ptk ks q) (pt ks vs q u)))) := by
  have o : okw n0 i u = true := by simp [okw, ho]
  simp only [exS, ha, he, hj, storeSub, h, dput, hq]
  rw [if_pos hl]
  simp only
  rw [if_pos o]
theorem ex_subT {a e j : E} {i : Nat} {u : U} {ks : List (List Key)} {vs : List U} {v : U} {q : List Key} (he : evalE cal n0 e σ μ = some (u, μ)) (ha : evalE cal n0 a σ μ = some (.ob i, μ)) (hj : evalE cal n0 j σ μ = some (v, μ)) (hq : tky v = some q) (h : μ[i]? = some (.dt ks vs)) (hl : ks.length < SZ) (ho : n0 ≤ i) :
    exS cal n0 (.sub a j e) σ μ = some (.nx σ (μ.set i (.dt (ptk ks q) (pt ks vs q u)))) := by
  have o : okw n0 i u = true := by simp [okw, ho]
  simp only [exS, ha, he, hj, storeSub, h, dput, hq]
  rw [if_pos hl]
  simp only
  rw [if_pos o]
theorem ex_seq {s : S} {ss : List S} {σ' : Env} {μ' : Mu} (h : exS cal n0 s σ μ = some (.nx σ' μ')) : exL cal n0 (s :: ss) σ μ = exL cal n0 ss σ' μ' := by simp only [exL, h]
theorem ex_nil : exL cal n0 [] σ μ = some (.nx σ μ) := by simp only [exL]
theorem ev_var {i : Nat} {u : U} (h : σ[i]? = some (some u)) : evalE cal n0 (.var i) σ μ = some (u, μ) := by simp only [evalE, h]
theorem ev_idxL {a i : E} {u w : U} {j : Int} {xs : List U} (ha : evalE cal n0 a σ μ = some (u, μ)) (hi : evalE cal n0 i σ μ = some (.int j, μ)) (hc : cont μ u = some (.lst xs)) (h : atI xs j = some w) : evalE cal n0 (.idx a i) σ μ = some (w, μ) := by
  simp only [evalE, ha, hi, evIdx, hc, h]
theorem ev_idxT {a i : E} {w : U} {j : Int} {xs : List U} (ha : evalE cal n0 a σ μ = some (.tup xs, μ)) (hi : evalE cal n0 i σ μ = some (.int j, μ)) (h : atI xs j = some w) : evalE cal n0 (.idx a i) σ μ = some (w, μ) := by
  simp only [evalE, ha, hi, evIdx, cont, h]
theorem ev_idxK {a i : E} {u v w : U} {ks : List Key} {vs : List U} {q : Key} (ha : evalE cal n0 a σ μ = some (u, μ)) (hi : evalE cal n0 i σ μ = some (v, μ)) (hc : cont μ u = some (.dk ks vs)) (hq : sky v = some q) (h : lk ks vs q = some w) : evalE cal n0 (.idx a i) σ μ = some (w, μ) := by
  simp only [evalE, ha, hi, evIdx, hc, dget, hq, h]
  rfl
variable {μ' μ1 μ2 : Mu} {e a b c : E} {u v w : U} {us : List U} {es : List E}
theorem ex_set {i : Nat} (h : evalE cal n0 e σ μ = some (u, μ')) : exS cal n0 (.set i e) σ μ = some (.nx (σ.set i (some u)) μ') := by simp only [exS, h]
theorem ex_ret {ss : List S} (h : evalE cal n0 e σ μ = some (u, μ')) : exL cal n0 (.ret e :: ss) σ μ = some (.rt u μ') := by simp only [exL, exS, h]
theorem ex_par {is : List Nat} {σ' : Env} (h : evalL cal n0 es σ μ = some (us, μ')) (hb : bindI is us σ = some σ') : exS cal n0 (.par is es) σ μ = some (.nx σ' μ') := by simp only [exS, h, hb]
theorem ex_asg {p : Pt} {σ' : Env} (h : evalE cal n0 e σ μ = some (u, μ')) (hb : bindP μ' p u σ = some σ') : exS cal n0 (.asg p e) σ μ = some (.nx σ' μ') := by simp only [exS, h, hb]
theorem ex_ifT {t f : List S} (hc : evalE cal n0 c σ μ = some (u, μ1)) (ht : truth μ1 u = some true) : exS cal n0 (.iff c t f) σ μ = exL cal n0 t σ μ1 := by simp only [exS, hc, ht]
theorem ex_ifF {t f : List S} (hc : evalE cal n0 c σ μ = some (u, μ1)) (ht : truth μ1 u = some false) : exS cal n0 (.iff c t f) σ μ = exL cal n0 f σ μ1 := by simp only [exS, hc, ht]
theorem ex_ex (h : evalE cal n0 e σ μ = some (u, μ')) : exS cal n0 (.ex e) σ μ = some (.nx σ μ') := by simp only [exS, h]
theorem ev_lnil : evalL cal n0 [] σ μ = some ([], μ) := by simp only [evalL]
theorem ev_lcons (h : evalE cal n0 e σ μ = some (u, μ1)) (hs : evalL cal n0 es σ μ1 = some (us, μ2)) : evalL cal n0 (e :: es) σ μ = some (u :: us, μ2) := by simp only [evalL, h, hs]
theorem ev_l1 (h : evalE cal n0 e σ μ = some (u, μ1)) : evalL cal n0 [e] σ μ = some ([u], μ1) := ev_lcons h ev_lnil
theorem ev_l2 (h : evalE cal n0 a σ μ = some (u, μ1)) (h2 : evalE cal n0 b σ μ1 = some (v, μ2)) : evalL cal n0 [a, b] σ μ = some ([u, v], μ2) := ev_lcons h (ev_l1 h2)
theorem ev_call {f : Nat} {r : U × Mu} (h : evalL cal n0 es σ μ = some (us, μ1)) (hc : cal f us μ1 = some r) : evalE cal n0 (.call f es) σ μ = some r := by simp only [evalE, h, hc]
theorem ev_bin {al : Bool} {op : Bo} {r : U × Mu} (ha : evalE cal n0 a σ μ = some (u, μ1)) (hb : evalE cal n0 b σ μ1 = some (v, μ2)) (h : evBin al μ2 op u v = some r) : evalE cal n0 (.bin al op a b) σ μ = some r := by simp only [evalE, ha, hb, h]
theorem ev_cmp {op : Co} {d : Bool} (ha : evalE cal n0 a σ μ = some (u, μ1)) (hb : evalE cal n0 b σ μ1 = some (v, μ2)) (h : evCmp μ2 op u v = some d) : evalE cal n0 (.cmp op a b) σ μ = some (.bl d, μ2) := by simp only [evalE, ha, hb, h]
theorem ev_col {al : Bool} {cl : Cl} {ik : Ik} {xs : List U} {r : U × Mu} (h : evalL cal n0 es σ μ = some (us, μ1)) (hi : items μ1 cl ik us = some xs) (he : evCol al μ1 cl xs = some r) : evalE cal n0 (.col al cl ik es) σ μ = some r := by simp only [evalE, h, hi, he]
theorem ev_bi {bb : Bi} (h : evalL cal n0 es σ μ = some (us, μ1)) (hb : evBi μ1 bb us = some u) : evalE cal n0 (.bi bb es) σ μ = some (u, μ1) := by simp only [evalE, h, hb]
theorem ev_not {d : Bool} (ha : evalE cal n0 a σ μ = some (u, μ1)) (ht : truth μ1 u = some d) : evalE cal n0 (.not a) σ μ = some (.bl !d, μ1) := by simp only [evalE, ha, ht]
theorem ev_tup (h : evalL cal n0 es σ μ = some (us, μ1)) (hl : us.length ≤ SZ) : evalE cal n0 (.tup es) σ μ = some (.tup us, μ1) := by
  simp only [evalE, h]
  rw [if_pos hl]
theorem fin_cut {n : Nat} (hf : frz n μ1 D0 u = some v) (ht : μ1.take n = μ) : R.finish false n u μ1 = some (v, μ) := by simp [R.finish, hf, ht]
/-- a comprehension's turn -/
theorem cs_yes {p : Pt} {ws : List Nat} {x : U} {σ' : Env} (hb : bindP μ p x (wipeE σ ws) = some σ') (h : evalE cal n0 e σ' μ = some (u, μ1)) : cstep cal n0 p (.bl true) e ws σ x μ = some (some u, μ1) := by simp only [cstep, hb, evalE, truth, h]
theorem cs_if {p : Pt} {ws : List Nat} {x : U} {σ' : Env} (hb : bindP μ p x (wipeE σ ws) = some σ') (hc : evalE cal n0 c σ' μ = some (v, μ1)) (ht : truth μ1 v = some true) (h : evalE cal n0 e σ' μ1 = some (u, μ2)) : cstep cal n0 p c e ws σ x μ = some (some u, μ2) := by simp only [cstep, hb, hc, ht, h]
theorem cs_no {p : Pt} {ws : List Nat} {x : U} {σ' : Env} (hb : bindP μ p x (wipeE σ ws) = some σ') (hc : evalE cal n0 c σ' μ = some (v, μ1)) (ht : truth μ1 v = some false) : cstep cal n0 p c e ws σ x μ = some (none, μ1) := by simp only [cstep, hb, hc, ht]
end
def endO (keep : Bool) (n : Nat) : Option Out → Option (U × Mu)
  | some (.rt u μ1) => R.finish keep n u μ1
  | some (.nx _ μ1) => R.finish keep n .non μ1
  | _ => none
theorem run_rt {o : Option Out} {u : U} {μ1 : Mu} {r : U × Mu} {keep : Bool} {n : Nat} (h : o = some (.rt u μ1)) (hf : R.finish keep n u μ1 = some r) : endO keep n o = some r := by subst h; exact hf
theorem run_nx {o : Option Out} {σ : Env} {μ1 : Mu} {r : U × Mu} {keep : Bool} {n : Nat} (h : o = some (.nx σ μ1)) (hf : R.finish keep n .non μ1 = some r) : endO keep n o = some r := by subst h; exact hf
end R

set_option Elab.async false
set_option linter.all false
set_option maxRecDepth 100000
set_option maxHeartbeats 4000000
/-! M1: more rules; plain values; numbers, pairs and lists of them in order -/
namespace R
open PySem L2
section
variable {cal : Nat → List U → Mu → Option (U × Mu)} {n0 : Nat} {σ : R.Env} {μ μ1 μ2 μ3 : Mu} {a b c d e lo hi : E} {xs ys : List U} {l h u v w : U} {l' h' : Option Int} {es : List E} {us : List U}
theorem ev_int {i : Int} : evalE cal n0 (.int i) σ μ = some (.int i, μ) := by simp only [evalE]
theorem ev_gint {i : Int} : evalE cal n0 (.gint i) σ μ = some (.int i, μ) := by simp only [evalE]
theorem ev_bl {b : Bool} : evalE cal n0 (.bl b) σ μ = some (.bl b, μ) := by simp only [evalE]
theorem ev_non : evalE cal n0 .non σ μ = some (.non, μ) := by simp only [evalE]
theorem ev_str {x : Str} : evalE cal n0 (.str x) σ μ = some (.str x, μ) := by simp only [evalE]
theorem ev_neg {i : Int} (h : evalE cal n0 a σ μ = some (.int i, μ1)) : evalE cal n0 (.neg a) σ μ = some (.int (-i), μ1) := by simp only [evalE, h]
theorem ev_slc {r : U × Mu} (ha : evalE cal n0 a σ μ = some (u, μ1)) (hl : evalE cal n0 lo σ μ1 = some (l, μ2)) (hh : evalE cal n0 hi σ μ2 = some (h, μ3)) (hs : evSlc al μ3 u l h = some r) : evalE cal n0 (.slc al a lo hi) σ μ = some r := by
  simp only [evalE, ha, hl, hh, hs]
theorem ev_rev {r : U × Mu} (ha : evalE cal n0 a σ μ = some (u, μ1)) (hs : evRev al μ1 u = some r) : evalE cal n0 (.rev al a) σ μ = some r := by simp only [evalE, ha, hs]
theorem ev_revT (ha : evalE cal n0 a σ μ = some (.tup xs, μ1)) : evalE cal n0 (.rev false a) σ μ = some (.tup xs.reverse, μ1) := ev_rev ha rfl
theorem ev_slcT (ha : evalE cal n0 a σ μ = some (.tup xs, μ1)) (hl : evalE cal n0 lo σ μ1 = some (l, μ1)) (hh : evalE cal n0 hi σ μ1 = some (h, μ1)) (bl : bnd l = some l') (bh : bnd h = some h') : evalE cal n0 (.slc false a lo hi) σ μ = some (.tup (cutU xs l' h'), μ1) := by
  simp only [evalE, ha, hl, hh, evSlc, bl, bh]
theorem ev_addT (ha : evalE cal n0 a σ μ = some (.tup xs, μ1)) (hb : evalE cal n0 b σ μ1 = some (.tup ys, μ2)) (hz : xs.length + ys.length ≤ SZ) : evalE cal n0 (.bin false .add a b) σ μ = some (.tup (xs ++ ys), μ2) := by
  refine ev_bin ha hb ?_
  simp only [evBin]
  rw [if_pos hz]
theorem ev_addL (ha : evalE cal n0 a σ μ = some (.lst xs, μ1)) (hb : evalE cal n0 b σ μ1 = some (.lst ys, μ2)) (hz : xs.length + ys.length ≤ SZ) : evalE cal n0 (.bin false .add a b) σ μ = some (.lst (xs ++ ys), μ2) := by
  refine ev_bin ha hb ?_
  simp only [evBin, asL]
  rw [if_pos hz]
  rfl
theorem ev_lst (h : evalL cal n0 es σ μ = some (us, μ1)) (hl : us.length ≤ SZ) : evalE cal n0 (.lst false es) σ μ = some (.lst us, μ1) := by
  simp only [evalE, h]
  rw [if_pos hl]
  rfl
theorem ev_lstA (h : evalL cal n0 es σ μ = some (us, μ1)) (hl : us.length ≤ SZ) : evalE cal n0 (.lst true es) σ μ = some (.ob μ1.length, μ1 ++ [.lst us]) := by
  simp only [evalE, h]
  rw [if_pos hl]
  rfl
theorem ev_idx (ha : evalE cal n0 a σ μ = some (u, μ1)) (hi : evalE cal n0 b σ μ1 = some (v, μ2)) (h : evIdx μ2 u v = some w) : evalE cal n0 (.idx a b) σ μ = some (w, μ2) := by
  simp only [evalE, ha, hi, h]
theorem ev_idxT1 {j : Int} (ha : evalE cal n0 a σ μ = some (.tup xs, μ1)) (hi : evalE cal n0 b σ μ1 = some (.int j, μ2)) (h : atI xs j = some w) : evalE cal n0 (.idx a b) σ μ = some (w, μ2) := ev_idx ha hi (by simp only [evIdx, cont, h])
theorem ev_idxL1 {j : Int} (ha : evalE cal n0 a σ μ = some (u, μ1)) (hi : evalE cal n0 b σ μ1 = some (.int j, μ2)) (hc : cont μ2 u = some (.lst xs)) (h : atI xs j = some w) : evalE cal n0 (.idx a b) σ μ = some (w, μ2) := by
  simp only [evalE, ha, hi, evIdx, hc, h]
theorem ev_isi {t : Ty} {r : Bool} (ha : evalE cal n0 a σ μ = some (u, μ1)) (h : evIsi μ1 u t = some r) : evalE cal n0 (.isi a t) σ μ = some (.bl r, μ1) := by simp only [evalE, ha, h]
theorem ev_iteT {r : Option (U × Mu)} (hc : evalE cal n0 c σ μ = some (u, μ1)) (ht : truth μ1 u = some true) (h : evalE cal n0 a σ μ1 = r) : evalE cal n0 (.ite c a b) σ μ = r := by simp only [evalE, hc, ht, h]
theorem ev_iteF {r : Option (U × Mu)} (hc : evalE cal n0 c σ μ = some (u, μ1)) (ht : truth μ1 u = some false) (h : evalE cal n0 b σ μ1 = r) : evalE cal n0 (.ite c a b) σ μ = r := by simp only [evalE, hc, ht, h]
theorem ev_andF (ha : evalE cal n0 a σ μ = some (.bl false, μ1)) : evalE cal n0 (.bool true (a :: b :: es)) σ μ = some (.bl false, μ1) := by
  simp only [evalE, evalB, ha, truth]
  rfl
theorem ev_andT {r : Option (U × Mu)} (ha : evalE cal n0 a σ μ = some (.bl true, μ1)) (hb : evalE cal n0 (.bool true (b :: es)) σ μ1 = r) : evalE cal n0 (.bool true (a :: b :: es)) σ μ = r := by
  simp only [evalE] at hb
  simp only [evalE, evalB, ha, truth]
  exact hb
theorem ev_orT (ha : evalE cal n0 a σ μ = some (.bl true, μ1)) : evalE cal n0 (.bool false (a :: b :: es)) σ μ = some (.bl true, μ1) := by
  simp only [evalE, evalB, ha, truth]
  rfl
theorem ev_orF {r : Option (U × Mu)} (ha : evalE cal n0 a σ μ = some (.bl false, μ1)) (hb : evalE cal n0 (.bool false (b :: es)) σ μ1 = r) : evalE cal n0 (.bool false (a :: b :: es)) σ μ = r := by
  simp only [evalE] at hb
  simp only [evalE, evalB, ha, truth]
  exact hb
theorem ev_b1 {t : Bool} {r : Option (U × Mu)} (ha : evalE cal n0 a σ μ = r) : evalE cal n0 (.bool t [a]) σ μ = r := by
  simp only [evalE, evalB]
  exact ha
/-- and, or of two known truths -/
theorem ev_and2 {p q : Bool} (ha : evalE cal n0 a σ μ = some (.bl p, μ)) (hb : evalE cal n0 b σ μ = some (.bl q, μ)) : evalE cal n0 (.bool true [a, b]) σ μ = some (.bl (p && q), μ) := by
  cases p
  · exact ev_andF ha
  · exact ev_andT ha (ev_b1 hb)
theorem ev_or2 {p q : Bool} (ha : evalE cal n0 a σ μ = some (.bl p, μ)) (hb : evalE cal n0 b σ μ = some (.bl q, μ)) : evalE cal n0 (.bool false [a, b]) σ μ = some (.bl (p || q), μ) := by
  cases p
  · exact ev_orF ha (ev_b1 hb)
  · exact ev_orT ha
theorem ev_itms (ha : evalE cal n0 a σ μ = some (u, μ1)) (h : itmU μ1 u = some xs) : evalE cal n0 (.itms a) σ μ = some (.lst xs, μ1) := by simp only [evalE, ha, h]
theorem ev_vals (ha : evalE cal n0 a σ μ = some (u, μ1)) (h : valU μ1 u = some xs) : evalE cal n0 (.vals a) σ μ = some (.lst xs, μ1) := by simp only [evalE, ha, h]
theorem ex_subL {j : E} {i : Nat} {jj : Int} {q : Nat} (he : evalE cal n0 e σ μ = some (u, μ1)) (ha : evalE cal n0 a σ μ1 = some (.ob i, μ1)) (hj : evalE cal n0 j σ μ1 = some (.int jj, μ1)) (h : μ1[i]? = some (.lst xs)) (hq : ixN xs.length jj = some q) (ho : okw n0 i u = true) :
    exS cal n0 (.sub a j e) σ μ = some (.nx σ (μ1.set i (.lst (xs.set q u)))) := by
  simp only [exS, he, ha, hj, storeSub, h, hq, ho]
  rfl
theorem ex_subT1 {j : E} {i : Nat} {ks : List (List Key)} {vs : List U} {q : List Key} (he : evalE cal n0 e σ μ = some (u, μ)) (ha : evalE cal n0 a σ μ = some (.ob i, μ)) (hj : evalE cal n0 j σ μ = some (v, μ1)) (hq : tky v = some q) (h : μ1[i]? = some (.dt ks vs)) (hl : ks.length < SZ) (ho : n0 ≤ i) :
    exS cal n0 (.sub a j e) σ μ = some (.nx σ (μ1.set i (.dt (ptk ks q) (pt ks vs q u)))) := by
  have o : okw n0 i u = true := by simp [okw, ho]
  simp only [exS, ha, he, hj, storeSub, h, dput, hq]
  rw [if_pos hl]
  simp only
  rw [if_pos o]
theorem sto {j : E} {i : Nat} {jj : Int} {q : Nat} (ha : evalE cal n0 a σ μ = some (.ob i, μ)) (hj : evalE cal n0 j σ μ = some (.int jj, μ)) (h : μ[i]? = some (.lst xs)) (hq : ixN xs.length jj = some q) (ho : okw n0 i u = true) :
    storeTo cal n0 a j u σ μ = some (μ.set i (.lst (xs.set q u))) := by
  simp only [storeTo, ha, hj, storeSub, h, hq, ho]
  rfl
theorem ex_asg2 {j a' j' : E} (he : evalE cal n0 e σ μ = some (u, μ1)) (h1 : storeTo cal n0 a j u σ μ1 = some μ2) (h2 : storeTo cal n0 a' j' u σ μ2 = some μ3) : exS cal n0 (.asg2 a j a' j' e) σ μ = some (.nx σ μ3) := by
  simp only [exS, he, h1, h2]
theorem ex_sub2 {j a' j' e' : E} {μ4 : Mu} (he : evalE cal n0 e σ μ = some (u, μ1)) (he' : evalE cal n0 e' σ μ1 = some (v, μ2)) (h1 : storeTo cal n0 a j u σ μ2 = some μ3) (h2 : storeTo cal n0 a' j' v σ μ3 = some μ4) : exS cal n0 (.sub2 a j a' j' e e') σ μ = some (.nx σ μ4) := by
  simp only [exS, he, he', h1, h2]
theorem ex_appendA {al : Bool} {i : Nat} (ha : evalE cal n0 a σ μ = some (.ob i, μ)) (hs : (asL μ (.ob i)).isSome = true) (he : evalE cal n0 e σ μ = some (u, μ1)) (h : μ1[i]? = some (.lst xs)) (hl : xs.length < SZ) (ho : okw n0 i u = true) :
    exS cal n0 (.ex (.me al .append a [e])) σ μ = some (.nx σ (μ1.set i (.lst (xs ++ [u])))) := by
  simp only [exS, evalE, evalL, ha, he, okm, hs, evMe, h]
  rw [if_pos ⟨hl, ho⟩]
end
theorem ixN_nat {n j : Nat} (h : j < n) : ixN n (j : Int) = some j := by
  unfold ixN
  rw [if_pos (by omega)]
  simp [h]
theorem walk_rng {μ : Mu} {n : Nat} (h : n < 2 ^ 60) : walk μ .rng [I n] = some (.inl ((List.range n).map I)) := by
  simp only [walk]
  rw [if_pos (by omega), rgn_nat]
theorem walk_1 {μ : Mu} {n : Nat} (hn : n < 2 ^ 60) : walk μ .rng [.int 1, I n] = some (.inl ((List.range (n - 1)).map fun i => I (1 + i))) := by
  simp only [walk]
  rw [if_pos (by omega), show (1 : Int) = ((1 : Nat) : Int) from rfl, rgn_nats]
theorem map_at {α : Type} {f : α → U} {l : List α} {i : Nat} {x : U} (hx : (l.map f)[i]? = some x) : ∃ a, l[i]? = some a ∧ a ∈ l ∧ x = f a := by
  rw [List.getElem?_map] at hx
  cases h : l[i]? with
  | none => rw [h] at hx; cases hx
  | some a => rw [h] at hx; exact ⟨a, rfl, List.mem_of_getElem? h, (Option.some.inj hx).symm⟩
theorem rng_at {n i : Nat} {x : U} (hx : ((List.range n).map I)[i]? = some x) : i < n ∧ x = I i := by
  obtain ⟨a, h1, _, h2⟩ := map_at hx
  have := List.getElem?_eq_some_iff.mp h1
  obtain ⟨h3, h4⟩ := this
  simp at h3 h4
  subst h4
  exact ⟨h3, h2⟩
theorem eq_int (μ : Mu) (i j : Int) : evEq μ (.int i) (.int j) = some (decide (i = j)) := by
  simp only [evEq, dat_int, PyData.eqv]
  congr 1
theorem eq_yes {μ : Mu} {a b : Nat} (h : a = b) : evCmp μ .eq (I a) (I b) = some true := by
  subst h
  simp only [evCmp, eq_int, decide_true]
theorem eq_no {μ : Mu} {a b : Nat} (h : a ≠ b) : evCmp μ .eq (I a) (I b) = some false := by
  simp only [evCmp, eq_int]
  rw [decide_eq_false (by omega)]
theorem eq_I {μ : Mu} {a b : Nat} : evCmp μ .eq (I a) (I b) = some (decide (a = b)) := by
  by_cases h : a = b
  · rw [eq_yes h, decide_eq_true h]
  · rw [eq_no h, decide_eq_false h]
theorem ne_no {μ : Mu} {a b : Nat} (h : a = b) : evCmp μ .ne (I a) (I b) = some false := by
  simp only [evCmp]
  subst h
  simp only [eq_int, decide_true]
  rfl
theorem ne_I {μ : Mu} {a b : Nat} : evCmp μ .ne (I a) (I b) = some (decide (a ≠ b)) := by
  simp only [evCmp, eq_int, neg?]
  congr 1
  by_cases h : a = b
  · subst h; simp
  · rw [decide_eq_true h, decide_eq_false (by omega)]; rfl
theorem lt_I {μ : Mu} {a b : Nat} : evCmp μ .lt (I a) (I b) = some (decide (a < b)) := by
  simp only [evCmp, evLt]
  congr 1
  exact decide_eq_decide.mpr (by omega)
theorem gt_I {μ : Mu} {a b : Nat} : evCmp μ .gt (I a) (I b) = some (decide (b < a)) := by
  simp only [evCmp, evLt]
  congr 1
  exact decide_eq_decide.mpr (by omega)
theorem sub_len {α : Type} [DecidableEq α] : ∀ {l q : List α}, l.Nodup → (∀ x ∈ l, x ∈ q) → l.length ≤ q.length
  | [], q, _, _ => by simp
  | a :: l, q, nd, h => by
    have ha := h a (by simp)
    have h1 := List.length_erase_of_mem ha
    have h2 := sub_len (l := l) (q := q.erase a) (List.nodup_cons.mp nd).2 fun x hx => by
      have hne : x ≠ a := fun z => (List.nodup_cons.mp nd).1 (z ▸ hx)
      exact (List.mem_erase_of_ne hne).mpr (h x (by simp [hx]))
    have : 0 < q.length := List.length_pos_of_mem ha
    simp
    omega
/-! ### plain values -/
inductive Pl (B : Nat) : Nat → U → Prop
  | non (d : Nat) : Pl B d .non
  | bl (d : Nat) (b : Bool) : Pl B d (.bl b)
  | int (d : Nat) (i : Int) : Pl B d (.int i)
  | str (d : Nat) (x : Str) : Pl B d (.str x)
  | tup {d : Nat} {xs : List U} (hz : xs.length ≤ B) (h : ∀ u ∈ xs, Pl B d u) : Pl B (d + 1) (.tup xs)
  | lst {d : Nat} {xs : List U} (hz : xs.length ≤ B) (h : ∀ u ∈ xs, Pl B d u) : Pl B (d + 1) (.lst xs)
theorem Pl.up {B B' d d' : Nat} (hB : B ≤ B') (hd : d ≤ d') {u : U} (h : Pl B d u) : Pl B' d' u := by
  induction h generalizing d' with
  | non => exact .non _
  | bl => exact .bl _ _
  | int => exact .int _ _
  | str => exact .str _ _
  | tup hz h ih =>
    obtain ⟨e, rfl⟩ : ∃ e, d' = e + 1 := ⟨d' - 1, by omega⟩
    exact .tup (by omega) fun u hu => ih u hu (by omega)
  | lst hz h ih =>
    obtain ⟨e, rfl⟩ : ∃ e, d' = e + 1 := ⟨d' - 1, by omega⟩
    exact .lst (by omega) fun u hu => ih u hu (by omega)
mutual
def tp : U → PyData
  | .non => .none
  | .bl b => .bool b
  | .int i => .int i
  | .str x => .str x
  | .tup xs => .tuple (tps xs)
  | .lst xs => .list (tps xs)
  | _ => .none
def tps : List U → List PyData
  | [] => []
  | x :: xs => tp x :: tps xs
end
theorem tps_map : ∀ xs : List U, tps xs = xs.map tp
  | [] => rfl
  | x :: xs => by simp [tps, tps_map xs]
theorem dat_tp (μ : Mu) {B d : Nat} {u : U} (h : Pl B d u) : ∀ {k : Nat}, d ≤ k → dat μ k u = some (tp u) := by
  induction h with
  | non => intro k _; cases k <;> rfl
  | bl => intro k _; cases k <;> rfl
  | int => intro k _; cases k <;> rfl
  | str => intro k _; cases k <;> rfl
  | @tup d xs hz h ih =>
    intro k hk
    obtain ⟨e, rfl⟩ : ∃ e, k = e + 1 := ⟨k - 1, by omega⟩
    have m := mapO_map (f := dat μ e) (g := id) (h := tp) (xs := xs) fun x hx => ih x hx (by omega)
    rw [List.map_id] at m
    simp only [dat, m, tp, tps_map]
  | @lst d xs hz h ih =>
    intro k hk
    obtain ⟨e, rfl⟩ : ∃ e, k = e + 1 := ⟨k - 1, by omega⟩
    have m := mapO_map (f := dat μ e) (g := id) (h := tp) (xs := xs) fun x hx => ih x hx (by omega)
    rw [List.map_id] at m
    simp only [dat, m, tp, tps_map]
theorem eqvAll_refl : ∀ {xs : List PyData}, (∀ x ∈ xs, PyData.eqv x x = true) → PyData.eqvAll xs xs = true
  | [], _ => by simp [PyData.eqvAll]
  | x :: xs, h => by
    simp only [PyData.eqvAll, Bool.and_eq_true]
    exact ⟨h x (by simp), eqvAll_refl fun y hy => h y (by simp [hy])⟩
theorem eqv_refl {B d : Nat} {u : U} (h : Pl B d u) : PyData.eqv (tp u) (tp u) = true := by
  induction h with
  | non => rfl
  | bl d b => cases b <;> rfl
  | int d i => simp [tp, PyData.eqv]
  | str d x => simp [tp, PyData.eqv]
  | tup hz h ih =>
    simp only [tp, PyData.eqv, tps_map]
    exact eqvAll_refl fun x hx => by
      obtain ⟨u, hu, rfl⟩ := List.mem_map.mp hx
      exact ih u hu
  | lst hz h ih =>
    simp only [tp, PyData.eqv, tps_map]
    exact eqvAll_refl fun x hx => by
      obtain ⟨u, hu, rfl⟩ := List.mem_map.mp hx
      exact ih u hu
theorem eq_self (μ : Mu) {B d : Nat} {u : U} (h : Pl B d u) (hd : d ≤ D0) : evEq μ u u = some true := by
  simp only [evEq, dat_tp μ h hd, eqv_refl h]
/-- numbers, nested -/
inductive Ni : Nat → U → Prop
  | int (d : Nat) (i : Int) : Ni d (.int i)
  | tup {d : Nat} {xs : List U} (h : ∀ u ∈ xs, Ni d u) : Ni (d + 1) (.tup xs)
  | lst {d : Nat} {xs : List U} (h : ∀ u ∈ xs, Ni d u) : Ni (d + 1) (.lst xs)
theorem dat_ni (μ : Mu) {d : Nat} {u : U} (h : Ni d u) : ∀ {k : Nat}, d ≤ k → dat μ k u = some (tp u) := by
  induction h with
  | int => intro k _; cases k <;> rfl
  | @tup d xs h ih =>
    intro k hk
    obtain ⟨e, rfl⟩ : ∃ e, k = e + 1 := ⟨k - 1, by omega⟩
    have m := mapO_map (f := dat μ e) (g := id) (h := tp) (xs := xs) fun x hx => ih x hx (by omega)
    rw [List.map_id] at m
    simp only [dat, m, tp, tps_map]
  | @lst d xs h ih =>
    intro k hk
    obtain ⟨e, rfl⟩ : ∃ e, k = e + 1 := ⟨k - 1, by omega⟩
    have m := mapO_map (f := dat μ e) (g := id) (h := tp) (xs := xs) fun x hx => ih x hx (by omega)
    rw [List.map_id] at m
    simp only [dat, m, tp, tps_map]
theorem eqvAll_ni : ∀ {xs ys : List U}, (∀ x ∈ xs, ∀ y ∈ ys, (PyData.eqv (tp x) (tp y) = true ↔ x = y)) → (PyData.eqvAll (xs.map tp) (ys.map tp) = true ↔ xs = ys)
  | [], [], _ => by simp [PyData.eqvAll]
  | [], y :: ys, _ => by simp [PyData.eqvAll]
  | x :: xs, [], _ => by simp [PyData.eqvAll]
  | x :: xs, y :: ys, h => by
    simp only [List.map_cons, PyData.eqvAll, Bool.and_eq_true]
    rw [h x (by simp) y (by simp), eqvAll_ni fun a ha b hb => h a (by simp [ha]) b (by simp [hb]), List.cons.injEq]
theorem eqv_ni {d : Nat} {u : U} (h : Ni d u) : ∀ {d' : Nat} {v : U}, Ni d' v → (PyData.eqv (tp u) (tp v) = true ↔ u = v) := by
  induction h with
  | int d i =>
    intro d' v hv
    cases hv with
    | int d' j => simp [tp, PyData.eqv]
    | tup _ => simp [tp, PyData.eqv]
    | lst _ => simp [tp, PyData.eqv]
  | @tup d xs h ih =>
    intro d' v hv
    cases hv with
    | int d' j => simp [tp, PyData.eqv]
    | tup h' =>
      simp only [tp, PyData.eqv, tps_map, U.tup.injEq]
      exact eqvAll_ni fun x hx y hy => ih x hx (h' y hy)
    | lst _ => simp [tp, PyData.eqv]
  | @lst d xs h ih =>
    intro d' v hv
    cases hv with
    | int d' j => simp [tp, PyData.eqv]
    | tup _ => simp [tp, PyData.eqv]
    | lst h' =>
      simp only [tp, PyData.eqv, tps_map, U.lst.injEq]
      exact eqvAll_ni fun x hx y hy => ih x hx (h' y hy)
/-- == of nested numbers -/
theorem eq_ni (μ : Mu) {d d' : Nat} {u v : U} (h : Ni d u) (h' : Ni d' v) (hd : d ≤ D0) (hd' : d' ≤ D0) : ∃ b, evEq μ u v = some b ∧ (b = true ↔ u = v) :=
  ⟨_, by simp only [evEq, dat_ni μ h hd, dat_ni μ h' hd'], eqv_ni h h'⟩
/-! ### pairs -/
abbrev pU (p : Nat × Nat) : U := .tup [I p.1, I p.2]
abbrev tU (n : Nat) (es : List (Nat × Nat)) : U := .tup [I n, .tup (es.map pU)]
def lex (p q : Nat × Nat) : Prop := p.1 < q.1 ∨ p.1 = q.1 ∧ p.2 < q.2
instance (p q : Nat × Nat) : Decidable (lex p q) := inferInstanceAs (Decidable (_ ∨ _))
theorem pU_inj {p q : Nat × Nat} (h : pU p = pU q) : p = q := by
  simp only [pU, I, U.tup.injEq, List.cons.injEq, U.int.injEq, and_true] at h
  exact Prod.ext (by omega) (by omega)
theorem chain_zip {α : Type} {R : α → α → Prop} : ∀ {l : List α}, l.Pairwise R → ∀ q ∈ l.zip (l.drop 1), R q.1 q.2
  | [], _, q, h => by simp at h
  | [a], _, q, h => by simp at h
  | a :: b :: l, hp, q, h => by
    simp only [List.drop_succ_cons, List.drop_zero, List.zip_cons_cons, List.mem_cons] at h
    rcases h with h | h
    · subst h
      exact (List.pairwise_cons.mp hp).1 b (by simp)
    · exact chain_zip (l := b :: l) (List.pairwise_cons.mp hp).2 q (by simpa using h)
theorem lex_lt {p q : Nat × Nat} (h : lex p q) (μ : Mu) : evLt μ (pU p) (pU q) = some true := by
  have e : PySem.W.dataLt (.tuple [.int p.1, .int p.2]) (.tuple [.int q.1, .int q.2]) = true := by
    rw [PySem.W.dataLt_ii]
    unfold lex at h
    simp
    omega
  simp [evLt, dat, mapO, D0, e, PySem.W.alike, PySem.W.alikeAll]
def lexLe (p q : Nat × Nat) : Bool := !decide (q.1 < p.1 ∨ q.1 = p.1 ∧ q.2 < p.2)
def srtP (K : List (Nat × Nat)) : List (Nat × Nat) := K.mergeSort lexLe
theorem srtP_mem (K : List (Nat × Nat)) (p : Nat × Nat) : p ∈ srtP K ↔ p ∈ K := (List.mergeSort_perm _ _).mem_iff
theorem srtP_len (K : List (Nat × Nat)) : (srtP K).length = K.length := List.length_mergeSort K
theorem lexLe_tr (a b c : Nat × Nat) (h1 : lexLe a b = true) (h2 : lexLe b c = true) : lexLe a c = true := by
  simp only [lexLe, Bool.not_eq_true', decide_eq_false_iff_not] at *
  omega
theorem lexLe_tot (a b : Nat × Nat) : (lexLe a b || lexLe b a) = true := by
  simp only [lexLe, Bool.or_eq_true, Bool.not_eq_true', decide_eq_false_iff_not]
  omega
theorem lexLe_as (a b : Nat × Nat) (h1 : lexLe a b = true) (h2 : lexLe b a = true) : a = b := by
  simp only [lexLe, Bool.not_eq_true', decide_eq_false_iff_not] at *
  exact Prod.ext (by omega) (by omega)
theorem srtP_le (K : List (Nat × Nat)) : (srtP K).Pairwise fun a b => lexLe a b = true := List.pairwise_mergeSort lexLe_tr lexLe_tot K
theorem srtP_asc {K : List (Nat × Nat)} (nd : K.Nodup) : (srtP K).Pairwise lex := by
  have h2 : (srtP K).Nodup := (List.mergeSort_perm K lexLe).nodup_iff.mpr nd
  refine (List.Pairwise.and (srtP_le K) h2).imp fun {a b} h => ?_
  obtain ⟨h, ne⟩ := h
  simp only [lexLe, Bool.not_eq_true', decide_eq_false_iff_not] at h
  unfold lex
  by_cases e : a.1 = b.1
  · by_cases e2 : a.2 = b.2
    · exact absurd (Prod.ext e e2) ne
    · omega
  · omega
/-- two orders of the same -/
theorem srtP_eq {K L : List (Nat × Nat)} (h : K.Perm L) : srtP K = srtP L := by
  have p : (srtP K).Perm (srtP L) := (List.mergeSort_perm K lexLe).trans (h.trans (List.mergeSort_perm L lexLe).symm)
  exact p.eq_of_pairwise (fun a b _ _ h1 h2 => lexLe_as a b h1 h2) (srtP_le K) (srtP_le L)
theorem srtP_self {K : List (Nat × Nat)} (h : K.Pairwise lex) : srtP K = K := by
  refine (List.mergeSort_perm K lexLe).eq_of_pairwise (fun a b _ _ h1 h2 => lexLe_as a b h1 h2) (srtP_le K) (h.imp fun {a b} z => ?_)
  simp only [lexLe, Bool.not_eq_true', decide_eq_false_iff_not]
  unfold lex at z
  omega
theorem srtd_pU (μ : Mu) (K : List (Nat × Nat)) (hl : K.length ≤ SZ) : srtd μ (K.map pU) = some ((srtP K).map pU) := by
  unfold srtd
  rw [mapO_map (f := dat μ D0) (h := fun p : Nat × Nat => PyData.tuple [.int p.1, .int p.2]) fun x _ => by simp [D0, dat, mapO]]
  simp only
  rw [if_pos]
  · congr 1
    have e : (K.map pU).zip (K.map fun p : Nat × Nat => PyData.tuple [.int p.1, .int p.2]) = K.map fun p => (pU p, PyData.tuple [.int p.1, .int p.2]) := List.zip_map'
    rw [e, ← List.map_mergeSort (r := lexLe) (s := PySem.W.dataLe false Prod.snd) (f := fun p : Nat × Nat => (pU p, PyData.tuple [.int p.1, .int p.2]))]
    · rw [List.map_map]; rfl
    · intro a _ b _
      show _ = !PySem.W.dataLt (.tuple [.int b.1, .int b.2]) (.tuple [.int a.1, .int a.2])
      rw [PySem.W.dataLt_ii]
      unfold lexLe
      congr 1
      rw [Bool.eq_iff_iff]
      simp
      omega
  · simp only [Bool.and_eq_true, decide_eq_true_eq, Bool.or_eq_true, List.all_eq_true]
    refine ⟨⟨fun d hd e he => ?_, .inl fun d hd => ?_⟩, by simpa using hl⟩
    · obtain ⟨i, _, rfl⟩ := List.mem_map.mp hd
      obtain ⟨j, _, rfl⟩ := List.mem_map.mp he
      simp [PySem.W.alike, PySem.W.alikeAll]
    · obtain ⟨i, _, rfl⟩ := List.mem_map.mp hd
      rfl
/-! ### numbers in order -/
def srt (r : List Nat) : List Nat := r.mergeSort fun a b => decide (a ≤ b)
theorem srt_mem (r : List Nat) (h : Nat) : h ∈ srt r ↔ h ∈ r := (List.mergeSort_perm _ _).mem_iff
theorem srt_U (r : List Nat) : ((r.map fun (x : Nat) => (x : Int)).mergeSort fun a b => decide (a ≤ b)).map U.int = (srt r).map I := by
  unfold srt
  rw [← List.map_mergeSort (r := fun a b => decide (a ≤ b)) (s := fun a b => decide (a ≤ b)) (f := fun (x : Nat) => (x : Int))]
  · rw [List.map_map]; rfl
  · intro a _ b _; simp
theorem srtd_I (μ : Mu) (r : List Nat) (h : r.length ≤ SZ) : srtd μ (r.map I) = some ((srt r).map I) := by
  have := srtd_ints μ (r.map fun (x : Nat) => (x : Int)) (by simpa using h)
  rw [srt_U, List.map_map] at this
  exact this
theorem srt_le (r : List Nat) : (srt r).Pairwise fun a b => a ≤ b := by
  have := List.pairwise_mergeSort (le := fun a b : Nat => decide (a ≤ b)) (fun a b c h1 h2 => by simp at *; omega) (fun a b => by simp; omega) r
  exact this.imp fun h => by simpa using h
/-- the ascending list of a set of numbers below n -/
theorem srt_filter {n : Nat} {r : List Nat} {p : Nat → Bool} (nd : r.Nodup) (h : ∀ x, x ∈ r ↔ x < n ∧ p x = true) : srt r = (List.range n).filter p := by
  have pm : r.Perm ((List.range n).filter p) := (List.perm_ext_iff_of_nodup nd (List.nodup_range.filter _)).mpr fun x => by simp [h]
  refine ((List.mergeSort_perm r _).trans pm).eq_of_pairwise (fun a b _ _ h1 h2 => Nat.le_antisymm h1 h2) (srt_le r) ?_
  exact (List.Pairwise.filter _ (List.pairwise_lt_range (n := n))).imp fun h => Nat.le_of_lt h
/-! ### dicts of numbers -/
theorem dkI_lk (ks : List Nat) : True := trivial
abbrev kP (p : Nat × Nat) : List Key := [kI p.1, kI p.2]
abbrev dtK (K : List (Nat × Nat)) : U := .dt (K.map kP) (K.map fun _ => .bl true)
def ins (K : List (Nat × Nat)) (q : Nat × Nat) : List (Nat × Nat) := if q ∈ K then K else K ++ [q]
theorem kP_inj {p q : Nat × Nat} (h : kP p = kP q) : p = q := by
  simp only [kP, kI, List.cons.injEq, Sum.inl.injEq, and_true] at h
  exact Prod.ext (by omega) (by omega)
theorem kP_mem {K : List (Nat × Nat)} {q : Nat × Nat} : kP q ∈ K.map kP ↔ q ∈ K := by
  constructor
  · intro h
    obtain ⟨p, hp, e⟩ := List.mem_map.mp h
    exact kP_inj e ▸ hp
  · exact fun h => List.mem_map.mpr ⟨q, h, rfl⟩
theorem rpl_true {κ : Type} [DecidableEq κ] {α : Type} (f : α → κ) (q : κ) : ∀ K : List α, rpl (K.map f) (K.map fun _ => U.bl true) q (.bl true) = K.map fun _ => U.bl true
  | [] => rfl
  | p :: K => by
    simp only [List.map_cons, rpl, rpl_true f q K, ite_self]
theorem dtK_put (K : List (Nat × Nat)) (q : Nat × Nat) : U.dt (ptk (K.map kP) (kP q)) (pt (K.map kP) (K.map fun _ => U.bl true) (kP q) (.bl true)) = dtK (ins K q) := by
  unfold ptk pt ins
  by_cases h : q ∈ K
  · rw [if_pos (kP_mem.mpr h), if_pos (kP_mem.mpr h), if_pos h, rpl_true]
  · rw [if_neg (fun z => h (kP_mem.mp z)), if_neg (fun z => h (kP_mem.mp z)), if_neg h]
    simp
theorem ins_mem {K : List (Nat × Nat)} {p q : Nat × Nat} : p ∈ ins K q ↔ p ∈ K ∨ p = q := by
  unfold ins
  by_cases h : q ∈ K
  · rw [if_pos h]
    constructor
    · exact .inl
    · rintro (z | z)
      · exact z
      · exact z ▸ h
  · rw [if_neg h]; simp
theorem ins_nd {K : List (Nat × Nat)} {q : Nat × Nat} (nd : K.Nodup) : (ins K q).Nodup := by
  unfold ins
  by_cases h : q ∈ K
  · rw [if_pos h]; exact nd
  · rw [if_neg h, List.nodup_append]
    exact ⟨nd, by simp, fun a ha b hb z => by simp at hb; subst hb; exact h (z ▸ ha)⟩
theorem ins_len {K : List (Nat × Nat)} {q : Nat × Nat} : (ins K q).length ≤ K.length + 1 := by
  unfold ins
  by_cases h : q ∈ K
  · rw [if_pos h]; omega
  · rw [if_neg h]; simp
/-- a set of numbers as a dict -/
abbrev dkI (K : List Nat) : U := .dk (K.map kI) (K.map fun _ => .bl true)
def insN (K : List Nat) (q : Nat) : List Nat := if q ∈ K then K else K ++ [q]
theorem dkI_put (K : List Nat) (q : Nat) : U.dk (ptk (K.map kI) (kI q)) (pt (K.map kI) (K.map fun _ => U.bl true) (kI q) (.bl true)) = dkI (insN K q) := by
  unfold ptk pt insN
  by_cases h : q ∈ K
  · rw [if_pos (kI_mem.mpr h), if_pos (kI_mem.mpr h), if_pos h, rpl_true]
  · rw [if_neg (fun z => h (kI_mem.mp z)), if_neg (fun z => h (kI_mem.mp z)), if_neg h]
    simp
theorem insN_mem {K : List Nat} {p q : Nat} : p ∈ insN K q ↔ p ∈ K ∨ p = q := by
  unfold insN
  by_cases h : q ∈ K
  · rw [if_pos h]
    constructor
    · exact .inl
    · rintro (z | z)
      · exact z
      · exact z ▸ h
  · rw [if_neg h]; simp
theorem insN_nd {K : List Nat} {q : Nat} (nd : K.Nodup) : (insN K q).Nodup := by
  unfold insN
  by_cases h : q ∈ K
  · rw [if_pos h]; exact nd
  · rw [if_neg h, List.nodup_append]
    exact ⟨nd, by simp, fun a ha b hb z => by simp at hb; subst hb; exact h (z ▸ ha)⟩
/-- dict(pairs), all true -/
abbrev kvU (h : Nat) : U := .tup [I h, .bl true]
theorem merge_dkI : ∀ (l K : List Nat), K.length + l.length ≤ SZ → mergeU false (l.map fun h => (I h, U.bl true)) (dkI K) = some (dkI (l.foldl insN K))
  | [], K, _ => rfl
  | h :: l, K, hz => by
    simp only [List.map_cons, mergeU, dput, sky]
    rw [if_pos (by simp at hz ⊢; omega)]
    simp only
    rw [show (Sum.inl ((h : Nat) : Int) : Key) = kI h from rfl, dkI_put]
    refine merge_dkI l (insN K h) ?_
    have : (insN K h).length ≤ K.length + 1 := by unfold insN; split <;> simp
    simp at hz
    omega
theorem col_dkI (μ : Mu) (l : List Nat) (hz : l.length ≤ SZ) : evCol false μ (.dict false) (l.map kvU) = some (dkI (l.foldl insN []), μ) := by
  simp only [evCol]
  rw [mapO_map (f := pairKV) (h := fun h => (I h, U.bl true)) fun x _ => rfl]
  simp only
  have := merge_dkI l [] (by simpa using hz)
  simp only [dkI, List.map_nil] at this
  rw [this]
  rfl
theorem merge_dtK : ∀ (l K : List (Nat × Nat)), K.length + l.length ≤ SZ → mergeU true (l.map fun p => (pU p, U.bl true)) (dtK K) = some (dtK (l.foldl ins K))
  | [], K, _ => rfl
  | p :: l, K, hz => by
    simp only [List.map_cons, mergeU, dput]
    rw [show tky (pU p) = some (kP p) from rfl]
    simp only
    rw [if_pos (by simp at hz ⊢; omega)]
    simp only
    rw [dtK_put]
    refine merge_dtK l (ins K p) ?_
    have := @ins_len K p
    simp at hz
    omega
theorem foldl_insN_mem (l : List Nat) : ∀ (K : List Nat) (x : Nat), x ∈ l.foldl insN K ↔ x ∈ K ∨ x ∈ l := by
  induction l with
  | nil => intro K x; simp
  | cons h l ih => intro K x; rw [List.foldl_cons, ih, insN_mem, List.mem_cons, or_assoc]
theorem foldl_insN_nd (l : List Nat) : ∀ (K : List Nat), K.Nodup → (l.foldl insN K).Nodup := by
  induction l with
  | nil => intro K h; exact h
  | cons h l ih => intro K nd; exact ih _ (insN_nd nd)
theorem foldl_ins_nd (l : List (Nat × Nat)) : ∀ (K : List (Nat × Nat)), K.Nodup → (l.foldl ins K).Nodup := by
  induction l with
  | nil => intro K h; exact h
  | cons h l ih => intro K nd; exact ih _ (ins_nd nd)
theorem foldl_ins_mem (l : List (Nat × Nat)) : ∀ (K : List (Nat × Nat)) (x : Nat × Nat), x ∈ l.foldl ins K ↔ x ∈ K ∨ x ∈ l := by
  induction l with
  | nil => intro K x; simp
  | cons h l ih => intro K x; rw [List.foldl_cons, ih, ins_mem, List.mem_cons, or_assoc]
end R

set_option Elab.async false
set_option linter.all false
set_option maxRecDepth 100000
set_option maxHeartbeats 4000000
/-! M2: flat tuples and lists of plain values whose parts need not be told -/
namespace R
open PySem L2
theorem cutU_mem {xs : List U} {l h : Option Int} {u : U} (z : u ∈ cutU xs l h) : u ∈ xs := List.mem_of_mem_drop (List.mem_of_mem_take z)
theorem cutU_len (xs : List U) (l h : Option Int) : (cutU xs l h).length ≤ xs.length := by
  unfold cutU
  rw [List.length_take, List.length_drop]
  omega
theorem insI_len (x : Int) : ∀ l : List Int, (insI x l).length ≤ l.length + 1
  | [] => by simp [insI]
  | y :: l => by
    have := insI_len x l
    simp only [insI]
    split
    · simp
    · split
      · simp
      · simp; omega
theorem ssrt_len : ∀ l : List Int, (ssrt l).length ≤ l.length
  | [] => by simp [ssrt]
  | x :: l => by
    have := ssrt_len l
    have := insI_len x (ssrt l)
    simp only [ssrt, List.length_cons]
    omega
section
variable {cal : Nat → List U → Mu → Option (U × Mu)} {n0 : Nat} {σ : R.Env} {μ μ1 : Mu} {a b e lo hi x : E} {l h u : U} {l' h' : Option Int} {N M B d : Nat} {es : List E}
theorem ev_sset {ns : List Int} (ha : evalE cal n0 a σ μ = some (.lst (ns.map U.int), μ1)) (hl : ns.length < 64) : evalE cal n0 (.sset false a) σ μ = some (.lst ((ssrt ns).map U.int), μ1) := by
  have mi : mapO asInt (ns.map U.int) = some ns := by
    have := mapO_map (f := asInt) (g := U.int) (h := id) (xs := ns) fun x _ => rfl
    rw [List.map_id] at this
    exact this
  simp only [evalE, ha, intT, asS, asL, mi]
  rw [if_pos (by omega)]
  rfl
/-- a flat tuple -/
def FlT (cal : Nat → List U → Mu → Option (U × Mu)) (n0 : Nat) (σ : R.Env) (μ : Mu) (N : Nat) (e : E) : Prop := ∃ xs, evalE cal n0 e σ μ = some (.tup xs, μ) ∧ xs.length ≤ N ∧ ∀ u ∈ xs, Pl 0 0 u
theorem FlT.up (h : FlT cal n0 σ μ N e) (hN : N ≤ M) : FlT cal n0 σ μ M e := by
  obtain ⟨xs, h1, h2, h3⟩ := h
  exact ⟨xs, h1, by omega, h3⟩
theorem ft_var {i : Nat} {xs : List U} (h : σ[i]? = some (some (.tup xs))) (hl : xs.length ≤ N) (hp : ∀ u ∈ xs, Pl 0 0 u) : FlT cal n0 σ μ N (.var i) := ⟨xs, ev_var h, hl, hp⟩
theorem FlT.rev (h : FlT cal n0 σ μ N e) : FlT cal n0 σ μ N (.rev false e) := by
  obtain ⟨xs, h1, h2, h3⟩ := h
  exact ⟨xs.reverse, ev_revT h1, by simpa using h2, fun u hu => h3 u (by simpa using hu)⟩
theorem FlT.slc (h : FlT cal n0 σ μ N e) {v w : U} (hl : evalE cal n0 lo σ μ = some (v, μ)) (hh : evalE cal n0 hi σ μ = some (w, μ)) (bl : bnd v = some l') (bh : bnd w = some h') : FlT cal n0 σ μ N (.slc false e lo hi) := by
  obtain ⟨xs, h1, h2, h3⟩ := h
  exact ⟨cutU xs l' h', ev_slcT h1 hl hh bl bh, by have := cutU_len xs l' h'; omega, fun u hu => h3 u (cutU_mem hu)⟩
theorem FlT.add (h1 : FlT cal n0 σ μ N a) (h2 : FlT cal n0 σ μ M b) (hz : N + M ≤ SZ) : FlT cal n0 σ μ (N + M) (.bin false .add a b) := by
  obtain ⟨xs, x1, x2, x3⟩ := h1
  obtain ⟨ys, y1, y2, y3⟩ := h2
  refine ⟨xs ++ ys, ev_addT x1 y1 (by omega), by simp; omega, fun u hu => ?_⟩
  rcases List.mem_append.mp hu with z | z
  · exact x3 u z
  · exact y3 u z
theorem ft_one (hx : evalE cal n0 x σ μ = some (u, μ)) (hp : Pl 0 0 u) : FlT cal n0 σ μ 1 (.tup [x]) :=
  ⟨[u], ev_tup (ev_l1 hx) (show 1 ≤ SZ by decide), by simp, fun v hv => by rw [List.mem_singleton] at hv; exact hv ▸ hp⟩
theorem ft_nil : FlT cal n0 σ μ 0 (.tup []) := ⟨[], ev_tup ev_lnil (show 0 ≤ SZ by decide), by simp, by simp⟩
theorem FlT.mul {j : Nat} (h : FlT cal n0 σ μ N a) (he : evalE cal n0 e σ μ = some (I j, μ)) (hj : j < 2 ^ 60) (hz : N * j ≤ SZ) : FlT cal n0 σ μ (N * j) (.bin false .mul a e) := by
  obtain ⟨xs, x1, x2, x3⟩ := h
  have hx : xs.length * j ≤ N * j := Nat.mul_le_mul_right _ x2
  refine ⟨(List.replicate j xs).flatten, ev_bin x1 he ?_, by simp; rw [Nat.mul_comm]; exact hx, fun u hu => ?_⟩
  · simp only [evBin]
    rw [if_pos ⟨by omega, by omega, by rw [Int.toNat_natCast]; omega⟩, Int.toNat_natCast]
  · obtain ⟨l, hl, hu⟩ := List.mem_flatten.mp hu
    rw [List.eq_of_mem_replicate hl] at hu
    exact x3 u hu
/-- a plain value -/
def PlE (cal : Nat → List U → Mu → Option (U × Mu)) (n0 : Nat) (σ : R.Env) (μ : Mu) (B d : Nat) (e : E) : Prop := ∃ u, evalE cal n0 e σ μ = some (u, μ) ∧ Pl B d u
theorem FlT.pl (h : FlT cal n0 σ μ N e) (hN : N ≤ B) : PlE cal n0 σ μ B (d + 1) e := by
  obtain ⟨xs, h1, h2, h3⟩ := h
  exact ⟨_, h1, .tup (by omega) fun u hu => (h3 u hu).up (Nat.zero_le _) (Nat.zero_le _)⟩
theorem FlT.col (h : FlT cal n0 σ μ N e) (hN : N ≤ B) : PlE cal n0 σ μ B (d + 1) (.col false .list .ex [e]) := by
  obtain ⟨xs, h1, h2, h3⟩ := h
  exact ⟨.lst xs, ev_col (us := [.tup xs]) (xs := xs) (ev_l1 h1) rfl rfl, .lst (by omega) fun u hu => (h3 u hu).up (Nat.zero_le _) (Nat.zero_le _)⟩
theorem ple (h : evalE cal n0 e σ μ = some (u, μ)) (hp : Pl B d u) : PlE cal n0 σ μ B d e := ⟨u, h, hp⟩
def PlL (cal : Nat → List U → Mu → Option (U × Mu)) (n0 : Nat) (σ : R.Env) (μ : Mu) (B d : Nat) (es : List E) : Prop := ∃ us, evalL cal n0 es σ μ = some (us, μ) ∧ us.length = es.length ∧ ∀ u ∈ us, Pl B d u
theorem pll_nil : PlL cal n0 σ μ B d [] := ⟨[], ev_lnil, rfl, by simp⟩
theorem pll (h : PlE cal n0 σ μ B d e) (hs : PlL cal n0 σ μ B d es) : PlL cal n0 σ μ B d (e :: es) := by
  obtain ⟨u, h1, h2⟩ := h
  obtain ⟨us, s1, s2, s3⟩ := hs
  refine ⟨u :: us, ev_lcons h1 s1, by simp [s2], fun v hv => ?_⟩
  rcases List.mem_cons.mp hv with rfl | hv
  · exact h2
  · exact s3 v hv
theorem PlL.lst (h : PlL cal n0 σ μ B d es) (hl : es.length ≤ 1000) : ∃ us, evalE cal n0 (.lst false es) σ μ = some (.lst us, μ) ∧ us.length = es.length ∧ ∀ u ∈ us, Pl B d u := by
  obtain ⟨us, s1, s2, s3⟩ := h
  exact ⟨us, ev_lst s1 (by unfold SZ; omega), s2, s3⟩
end
end R
namespace R
open PySem L2
/-! ### comprehensions with two for -/
section
variable (cal : Nat → List U → Mu → Option (U × Mu)) (n0 : Nat)
def cstepC (p : Pt) (cs : List E) (e : E) (ws : List Nat) (σ : R.Env) : U → Mu → Option (Option U × Mu) := fun y μ => match bindP μ p y (wipeE σ ws) with
  | some σ'' => match evalC cal n0 cs σ'' μ with
    | some (t, μ) => match truth μ t with
      | some true => match evalE cal n0 e σ'' μ with
        | some (y, μ) => some (some y, μ)
        | none => none
      | some false => some (none, μ)
      | none => none
    | none => none
  | none => none
def cstep2 (p : Pt) (cs : List E) (p1 : Pt) (ik1 : Ik) (its1 cs1 : List E) (e : E) (ws ws1 : List Nat) (σ : R.Env) : U → Mu → Option (Option (List U × (U → Mu → Option (Option U × Mu))) × Mu) := fun x μ => match bindP μ p x (wipeE σ ws) with
  | some σ' => match evalC cal n0 cs σ' μ with
    | some (t, μ) => match truth μ t with
      | some true => match evalL cal n0 its1 σ' μ with
        | some (us1, μ) => match walk μ ik1 us1 with
          | some (.inl ys) => some (some (ys, cstepC cal n0 p1 cs1 e ws1 σ'), μ)
          | _ => none
        | none => none
      | some false => some (none, μ)
      | none => none
    | none => none
  | none => none
variable {cal n0}
variable {p p1 : Pt} {ik ik1 : Ik} {its its1 cs cs1 : List E} {c e : E} {ws ws1 : List Nat} {σ σ' : R.Env} {μ μ1 μ2 μ3 : Mu} {us us1 xs ys : List U} {x u t : U}
theorem ev_comp2 {al : Bool} (h1 : evalL cal n0 its σ μ = some (us, μ1)) (h2 : walk μ1 ik us = some (.inl xs)) (h3 : comp2L (cstep2 cal n0 p cs p1 ik1 its1 cs1 e ws ws1 σ) xs [] μ1 = some (ys, μ2)) :
    evalE cal n0 (.comp2 al p ik its cs p1 ik1 its1 cs1 e ws ws1) σ μ = some (fresh al (.lst ys) μ2) := by
  simp only [evalE, h1, h2]
  have e0 : (match comp2L (cstep2 cal n0 p cs p1 ik1 its1 cs1 e ws ws1 σ) xs [] μ1 with
    | some (ys, μ) => some (fresh al (.lst ys) μ)
    | none => none) = some (fresh al (.lst ys) μ2) := by rw [h3]
  exact e0
theorem cC_yes (hb : bindP μ p x (wipeE σ ws) = some σ') (h : evalE cal n0 e σ' μ = some (u, μ1)) : cstepC cal n0 p [] e ws σ x μ = some (some u, μ1) := by simp only [cstepC, hb, evalC, truth, h]
theorem cC_if (hb : bindP μ p x (wipeE σ ws) = some σ') (hc : evalE cal n0 c σ' μ = some (t, μ1)) (ht : truth μ1 t = some true) (h : evalE cal n0 e σ' μ1 = some (u, μ2)) : cstepC cal n0 p [c] e ws σ x μ = some (some u, μ2) := by simp only [cstepC, hb, evalC, hc, ht, h]
theorem cC_no (hb : bindP μ p x (wipeE σ ws) = some σ') (hc : evalE cal n0 c σ' μ = some (t, μ1)) (ht : truth μ1 t = some false) : cstepC cal n0 p [c] e ws σ x μ = some (none, μ1) := by simp only [cstepC, hb, evalC, hc, ht]
theorem c2_yes (hb : bindP μ p x (wipeE σ ws) = some σ') (h : evalL cal n0 its1 σ' μ = some (us1, μ1)) (hw : walk μ1 ik1 us1 = some (.inl ys)) : cstep2 cal n0 p [] p1 ik1 its1 cs1 e ws ws1 σ x μ = some (some (ys, cstepC cal n0 p1 cs1 e ws1 σ'), μ1) := by simp only [cstep2, hb, evalC, truth, h, hw]
theorem c2_if (hb : bindP μ p x (wipeE σ ws) = some σ') (hc : evalE cal n0 c σ' μ = some (t, μ1)) (ht : truth μ1 t = some true) (h : evalL cal n0 its1 σ' μ1 = some (us1, μ2)) (hw : walk μ2 ik1 us1 = some (.inl ys)) : cstep2 cal n0 p [c] p1 ik1 its1 cs1 e ws ws1 σ x μ = some (some (ys, cstepC cal n0 p1 cs1 e ws1 σ'), μ2) := by simp only [cstep2, hb, evalC, hc, ht, h, hw]
theorem c2_no (hb : bindP μ p x (wipeE σ ws) = some σ') (hc : evalE cal n0 c σ' μ = some (t, μ1)) (ht : truth μ1 t = some false) : cstep2 cal n0 p [c] p1 ik1 its1 cs1 e ws ws1 σ x μ = some (none, μ1) := by simp only [cstep2, hb, evalC, hc, ht]
end
/-- pure turns: what is collected -/
theorem comp2L_all {α : Type} {step : U → Mu → Option (Option (List U × (U → Mu → Option (Option U × Mu))) × Mu)} {enc : α → U} {f : α → List U} {μ : Mu} : ∀ {xs : List α} {acc : List U}, (∀ x ∈ xs, ∃ ys st, step (enc x) μ = some (some (ys, st), μ) ∧ ∀ acc : List U, acc.length + (f x).length ≤ SZ → compL st ys acc μ = some (acc ++ f x, μ)) → acc.length + (xs.map f).flatten.length ≤ SZ → comp2L step (xs.map enc) acc μ = some (acc ++ (xs.map f).flatten, μ)
  | [], acc, _, _ => by simp [comp2L]
  | x :: xs, acc, h, hl => by
    obtain ⟨ys, st, e1, e2⟩ := h x (by simp)
    simp only [List.map_cons, List.flatten_cons, List.length_append] at hl
    simp only [List.map_cons, comp2L, e1]
    rw [e2 acc (by omega)]
    simp only
    rw [comp2L_all (fun y hy => h y (by simp [hy])) (by rw [List.length_append]; omega)]
    rw [List.flatten_cons, List.append_assoc]
/-! tuples of plain values -/
section
variable {cal : Nat → List U → Mu → Option (U × Mu)} {n0 : Nat} {σ : R.Env} {μ μ1 : Mu} {a b e lo hi x : E} {l h u : U} {l' h' : Option Int} {N M B d : Nat} {es : List E}
def TpE (cal : Nat → List U → Mu → Option (U × Mu)) (n0 : Nat) (σ : R.Env) (μ : Mu) (B d N : Nat) (e : E) : Prop := ∃ xs, evalE cal n0 e σ μ = some (.tup xs, μ) ∧ xs.length ≤ N ∧ ∀ u ∈ xs, Pl B d u
theorem TpE.up (h : TpE cal n0 σ μ B d N e) (hN : N ≤ M) : TpE cal n0 σ μ B d M e := by
  obtain ⟨xs, h1, h2, h3⟩ := h
  exact ⟨xs, h1, by omega, h3⟩
theorem tp_var {i : Nat} {xs : List U} (h : σ[i]? = some (some (.tup xs))) (hl : xs.length ≤ N) (hp : ∀ u ∈ xs, Pl B d u) : TpE cal n0 σ μ B d N (.var i) := ⟨xs, ev_var h, hl, hp⟩
theorem TpE.rev (h : TpE cal n0 σ μ B d N e) : TpE cal n0 σ μ B d N (.rev false e) := by
  obtain ⟨xs, h1, h2, h3⟩ := h
  exact ⟨xs.reverse, ev_revT h1, by simpa using h2, fun u hu => h3 u (by simpa using hu)⟩
theorem TpE.slc (h : TpE cal n0 σ μ B d N e) {v w : U} (hl : evalE cal n0 lo σ μ = some (v, μ)) (hh : evalE cal n0 hi σ μ = some (w, μ)) (bl : bnd v = some l') (bh : bnd w = some h') : TpE cal n0 σ μ B d N (.slc false e lo hi) := by
  obtain ⟨xs, h1, h2, h3⟩ := h
  exact ⟨cutU xs l' h', ev_slcT h1 hl hh bl bh, by have := cutU_len xs l' h'; omega, fun u hu => h3 u (cutU_mem hu)⟩
theorem TpE.add (h1 : TpE cal n0 σ μ B d N a) (h2 : TpE cal n0 σ μ B d M b) (hz : N + M ≤ SZ) : TpE cal n0 σ μ B d (N + M) (.bin false .add a b) := by
  obtain ⟨xs, x1, x2, x3⟩ := h1
  obtain ⟨ys, y1, y2, y3⟩ := h2
  refine ⟨xs ++ ys, ev_addT x1 y1 (by omega), by simp; omega, fun u hu => ?_⟩
  rcases List.mem_append.mp hu with z | z
  · exact x3 u z
  · exact y3 u z
theorem tp_nil : TpE cal n0 σ μ B d 0 (.tup []) := ⟨[], ev_tup ev_lnil (show 0 ≤ SZ by decide), by simp, by simp⟩
theorem PlL.tp (h : PlL cal n0 σ μ B d es) (hl : es.length ≤ 1000) : TpE cal n0 σ μ B d es.length (.tup es) := by
  obtain ⟨us, s1, s2, s3⟩ := h
  exact ⟨us, ev_tup s1 (by unfold SZ; omega), by omega, s3⟩
theorem TpE.mul {j : Nat} (h : TpE cal n0 σ μ B d N a) (he : evalE cal n0 e σ μ = some (I j, μ)) (hj : j < 2 ^ 60) (hz : N * j ≤ SZ) : TpE cal n0 σ μ B d (N * j) (.bin false .mul a e) := by
  obtain ⟨xs, x1, x2, x3⟩ := h
  have hx : xs.length * j ≤ N * j := Nat.mul_le_mul_right _ x2
  refine ⟨(List.replicate j xs).flatten, ev_bin x1 he ?_, by simp; rw [Nat.mul_comm]; exact hx, fun u hu => ?_⟩
  · simp only [evBin]
    rw [if_pos ⟨by omega, by omega, by rw [Int.toNat_natCast]; omega⟩, Int.toNat_natCast]
  · obtain ⟨l, hl, hu⟩ := List.mem_flatten.mp hu
    rw [List.eq_of_mem_replicate hl] at hu
    exact x3 u hu
theorem TpE.pl (h : TpE cal n0 σ μ B d N e) (hN : N ≤ B) : PlE cal n0 σ μ B (d + 1) e := by
  obtain ⟨xs, h1, h2, h3⟩ := h
  exact ⟨_, h1, .tup (by omega) h3⟩
theorem TpE.col (h : TpE cal n0 σ μ B d N e) (hN : N ≤ B) : PlE cal n0 σ μ B (d + 1) (.col false .list .ex [e]) := by
  obtain ⟨xs, h1, h2, h3⟩ := h
  exact ⟨.lst xs, ev_col (us := [.tup xs]) (xs := xs) (ev_l1 h1) rfl rfl, .lst (by omega) h3⟩
theorem PlL.plT (h : PlL cal n0 σ μ B d es) (hl : es.length ≤ B) (hB : B ≤ 1000) : PlE cal n0 σ μ B (d + 1) (.tup es) := (h.tp (by omega)).pl hl
theorem PlL.plL (h : PlL cal n0 σ μ B d es) (hl : es.length ≤ B) (hB : B ≤ 1000) : PlE cal n0 σ μ B (d + 1) (.lst false es) := by
  obtain ⟨us, s1, s2, s3⟩ := h.lst (by omega)
  exact ⟨_, s1, .lst (by omega) s3⟩
theorem PlE.up {B' d' : Nat} (h : PlE cal n0 σ μ B d e) (hB : B ≤ B') (hd : d ≤ d') : PlE cal n0 σ μ B' d' e := by
  obtain ⟨u, h1, h2⟩ := h
  exact ⟨u, h1, h2.up hB hd⟩
end
/-- how many unlike numbers there are -/
theorem insI_len_eq {x : Int} : ∀ {l : List Int}, l.Pairwise (· < ·) → (insI x l).length = if x ∈ l then l.length else l.length + 1
  | [], _ => by simp [insI]
  | y :: l, h => by
    obtain ⟨h1, h2⟩ := List.pairwise_cons.mp h
    have ih := insI_len_eq (x := x) h2
    simp only [insI]
    by_cases c1 : x < y
    · rw [if_pos c1]
      have : x ∉ y :: l := fun z => by
        rcases List.mem_cons.mp z with rfl | z
        · omega
        · have := h1 x z; omega
      rw [if_neg this]
      rfl
    · rw [if_neg c1]
      by_cases c2 : x = y
      · rw [if_pos c2, if_pos (by simp [c2])]
      · rw [if_neg c2, List.length_cons, ih]
        have : x ∈ y :: l ↔ x ∈ l := by simp [c2]
        by_cases c3 : x ∈ l
        · rw [if_pos c3, if_pos (this.mpr c3)]; rfl
        · rw [if_neg c3, if_neg (fun z => c3 (this.mp z))]; rfl
theorem ssrt_nodup : ∀ {l : List Int}, (ssrt l).length = l.length ↔ l.Nodup
  | [] => by simp [ssrt]
  | x :: l => by
    have ih := @ssrt_nodup l
    have h1 := ssrt_len l
    simp only [ssrt, List.nodup_cons, List.length_cons]
    rw [insI_len_eq (ssrt_lt l), ← ih]
    by_cases c : x ∈ ssrt l
    · rw [if_pos c]
      have : x ∈ l := (ssrt_mem x l).mp c
      constructor
      · intro z; omega
      · rintro ⟨z, _⟩; exact absurd this z
    · rw [if_neg c]
      have : x ∉ l := fun z => c ((ssrt_mem x l).mpr z)
      constructor
      · intro z; exact ⟨this, by omega⟩
      · rintro ⟨_, z⟩; omega
theorem ev_lset {cal : Nat → List U → Mu → Option (U × Mu)} {n0 : Nat} {σ : R.Env} {μ μ1 : Mu} {a : E} {ns : List Int} (ha : evalE cal n0 a σ μ = some (.lst (ns.map U.int), μ1)) (hl : ns.length < 1000) : evalE cal n0 (.lset a) σ μ = some (.int (ssrt ns).length, μ1) := by
  have mi : mapO asInt (ns.map U.int) = some ns := by
    have := mapO_map (f := asInt) (g := U.int) (h := id) (xs := ns) fun x _ => rfl
    rw [List.map_id] at this
    exact this
  simp only [evalE, ha, intT, asS, asL, mi]
  rw [if_pos hl]
end R

set_option Elab.async false
set_option linter.all false
set_option maxRecDepth 1000000
set_option maxHeartbeats 4000000
/-! the defs of the law, printed by gen.py -/
namespace K30
open PySem PySem.Spec PyProof.Rows L2 R
def b_is_whole : List S := [.ret (.bool true [(.isi (.var 0) .int), (.not (.isi (.var 0) .bool)), (.chain .le .le (.var 1) (.var 0) (.var 2))])]
def d_is_whole : Df := ⟨3, 3, b_is_whole, false⟩
def b_is_tuple_of : List S := [.ret (.bool true [(.isi (.var 0) .tuple), (.chain .le .le (.var 1) (.bi .len [(.var 0)]) (.var 2))])]
def d_is_tuple_of : Df := ⟨3, 3, b_is_tuple_of, false⟩
def c_are_wholes_0 : E := .comp false (.slot 4) .ex [(.var 0)] (.bl true) (.call 0 [(.var 4), (.var 2), (.var 3)]) [4]
def b_are_wholes : List S := [.ret (.bool true [(.call 1 [(.var 0), (.var 1), (.var 1)]), (.bi .all [c_are_wholes_0])])]
def d_are_wholes : Df := ⟨4, 5, b_are_wholes, false⟩
def b_is_door : List S := [.iff (.bool false [(.not (.call 1 [(.var 1), (.int 2), (.int 2)])), (.not (.call 0 [(.idx (.var 1) (.int 0)), (.int 0), (.bin false .sub (.bi .len [(.var 0)]) (.int 1))]))]) [.ret (.bl false)] [], .ret (.call 0 [(.idx (.var 1) (.int 1)), (.int 0), (.bin false .sub (.bi .len [(.idx (.var 0) (.idx (.var 1) (.int 0)))]) (.int 1))])]
def d_is_door : Df := ⟨2, 2, b_is_door, false⟩
def lb_reached_in_0 : List S := [.iff (.cmp .notin (.var 3) (.var 1)) [.ex (.me false .append (.var 1) [(.var 3)])] []]
def l_reached_in_0 : S := .for_ (.tup [(.slot 3), (.slot 4)]) .ex [(.idx (.var 0) (.idx (.var 1) (.var 2)))] lb_reached_in_0
def lb_reached_in_2 : List S := [l_reached_in_0, .set 2 (.bin false .add (.var 2) (.int 1))]
def l_reached_in_2 : S := .wh (.cmp .lt (.var 2) (.bi .len [(.var 1)])) lb_reached_in_2
def b_reached_in : List S := [.par [1, 2] [(.lst true [(.int 0)]), (.int 0)], l_reached_in_2, .ret (.var 1)]
def d_reached_in : Df := ⟨1, 5, b_reached_in, false⟩
def c_fits_net_0 : E := .comp false (.slot 3) .ex [(.var 0)] (.bl true) (.call 1 [(.var 3), (.int 0), (.gint 6)]) [3]
def c_fits_net_1 : E := .comp false (.slot 4) .ex [(.var 3)] (.bl true) (.call 3 [(.var 0), (.var 4)]) [4]
def c_fits_net_2 : E := .comp false (.tup [(.slot 5), (.slot 4)]) .enm [(.var 3)] (.bl true) (.cmp .eq (.idx (.idx (.var 0) (.idx (.var 4) (.int 0))) (.idx (.var 4) (.int 1))) (.tup [(.var 2), (.var 5)])) [5, 4]
def lb_fits_net_3 : List S := [.iff (.not (.bi .all [c_fits_net_1])) [.ret (.bl false)] [], .iff (.not (.bi .all [c_fits_net_2])) [.ret (.bl false)] []]
def l_fits_net_3 : S := .for_ (.tup [(.slot 2), (.slot 3)]) .enm [(.var 0)] lb_fits_net_3
def b_fits_net : List S := [.iff (.bool false [(.not (.call 1 [(.var 0), (.int 1), (.var 1)])), (.not (.bi .all [c_fits_net_0]))]) [.ret (.bl false)] [], l_fits_net_3, .ret (.cmp .eq (.bi .len [(.call 4 [(.var 0)])]) (.bi .len [(.var 0)]))]
def d_fits_net : Df := ⟨2, 6, b_fits_net, false⟩
def b_need_net : List S := [.iff (.not (.call 5 [(.var 0), (.gint 10)])) [.stuck] []]
def d_need_net : Df := ⟨1, 1, b_need_net, false⟩
def b_fits_marks : List S := [.ret (.call 2 [(.var 1), (.bi .len [(.var 0)]), (.int 0), (.gint 9)])]
def d_fits_marks : Df := ⟨2, 2, b_fits_marks, false⟩
def b_need_both : List S := [.ex (.call 6 [(.var 0)]), .iff (.not (.call 7 [(.var 0), (.var 1)])) [.stuck] []]
def d_need_both : Df := ⟨2, 2, b_need_both, false⟩
def b_need_house : List S := [.iff (.not (.call 0 [(.var 1), (.int 0), (.bin false .sub (.bi .len [(.var 0)]) (.int 1))])) [.stuck] []]
def d_need_house : Df := ⟨2, 2, b_need_house, false⟩
def c_fits_row_0 : E := .comp false (.slot 1) .ex [(.var 0)] (.bl true) (.call 0 [(.var 1), (.int 0), (.bin false .sub (.gint 6) (.int 1))]) [1]
def b_fits_row : List S := [.ret (.bool true [(.call 1 [(.var 0), (.int 0), (.gint 100)]), (.bi .all [c_fits_row_0])])]
def d_fits_row : Df := ⟨1, 2, b_fits_row, false⟩
def b_need_row : List S := [.iff (.not (.call 10 [(.var 0)])) [.stuck] []]
def d_need_row : Df := ⟨1, 1, b_need_row, false⟩
def lb_story_in_0 : List S := [.iff (.cmp .ge (.var 5) (.bi .len [(.idx (.var 0) (.var 2))])) [.ret (.col false .tuple .ex [(.bin false .add (.var 4) (.lst false [.non]))])] [], .asg (.tup [(.slot 2), (.slot 6)]) (.idx (.idx (.var 0) (.var 2)) (.var 5)), .ex (.me false .append (.var 4) [(.tup [(.var 6), (.idx (.var 1) (.var 2)), (.bi .len [(.idx (.var 0) (.var 2))])])])]
def l_story_in_0 : S := .for_ (.slot 5) .ex [(.var 3)] lb_story_in_0
def b_story_in : List S := [.set 4 (.lst true [(.tup [(.idx (.var 1) (.var 2)), (.bi .len [(.idx (.var 0) (.var 2))])])]), l_story_in_0, .ret (.col false .tuple .ex [(.var 4)])]
def d_story_in : Df := ⟨4, 7, b_story_in, false⟩
def lb_told_in_0 : List S := [.iff (.cmp .notin (.var 7) (.var 5)) [.ex (.me false .append (.var 5) [(.var 7)])] []]
def l_told_in_0 : S := .for_ (.tup [(.slot 7), (.slot 8)]) .ex [(.idx (.var 0) (.idx (.var 5) (.var 6)))] lb_told_in_0
def lb_told_in_2 : List S := [l_told_in_0, .set 6 (.bin false .add (.var 6) (.int 1))]
def l_told_in_2 : S := .wh (.cmp .lt (.var 6) (.bi .len [(.var 5)])) lb_told_in_2
def c_told_in_4 : E := .comp false (.tup [(.slot 10), (.slot 9)]) .enm [(.var 5)] (.bl true) (.tup [(.var 9), (.var 10)]) [10, 9]
def c_told_in_5 : E := .comp false (.tup [(.slot 7), (.slot 8)]) .ex [(.idx (.var 0) (.var 9))] (.bl true) (.tup [(.idx (.var 3) (.var 7)), (.var 8)]) [7, 8]
def c_told_in_6 : E := .comp false (.slot 9) .ex [(.var 5)] (.bl true) (.col false .tuple .ex [c_told_in_5]) [9]
def c_told_in_7 : E := .comp false (.slot 9) .ex [(.var 5)] (.bl true) (.idx (.var 1) (.var 9)) [9]
def b_told_in : List S := [.par [5, 6] [(.lst true [(.var 2)]), (.int 0)], l_told_in_2, .set 3 (.col false (.dict false) .ex [c_told_in_4]), .set 4 (.col false .tuple .ex [c_told_in_6]), .ret (.tup [(.var 4), (.col false .tuple .ex [c_told_in_7])])]
def d_told_in : Df := ⟨3, 11, b_told_in, false⟩
def b_is_net : List S := [.ret (.call 5 [(.var 0), (.gint 10)])]
def d_is_net : Df := ⟨1, 1, b_is_net, false⟩
def b_are_marks : List S := [.ex (.call 6 [(.var 0)]), .ret (.call 7 [(.var 0), (.var 1)])]
def d_are_marks : Df := ⟨2, 2, b_are_marks, false⟩
def lb_walk_0 : List S := [.iff (.cmp .ge (.var 4) (.bi .len [(.idx (.var 0) (.var 1))])) [.ret .non] [], .set 1 (.idx (.idx (.idx (.var 0) (.var 1)) (.var 4)) (.int 0)), .ex (.me false .append (.var 3) [(.var 1)])]
def l_walk_0 : S := .for_ (.slot 4) .ex [(.var 2)] lb_walk_0
def b_walk : List S := [.ex (.call 6 [(.var 0)]), .ex (.call 9 [(.var 0), (.var 1)]), .ex (.call 11 [(.var 2)]), .set 3 (.lst true []), l_walk_0, .ret (.col false .tuple .ex [(.var 3)])]
def d_walk : Df := ⟨3, 5, b_walk, false⟩
def b_story : List S := [.ex (.call 8 [(.var 0), (.var 1)]), .ex (.call 9 [(.var 0), (.var 2)]), .ex (.call 11 [(.var 3)]), .ret (.call 12 [(.var 0), (.var 1), (.var 2), (.var 3)])]
def d_story : Df := ⟨4, 4, b_story, false⟩
def b_tells_apart : List S := [.ex (.call 8 [(.var 0), (.var 1)]), .ex (.call 9 [(.var 0), (.var 2)]), .ex (.call 9 [(.var 0), (.var 3)]), .ret (.bool true [(.call 10 [(.var 4)]), (.cmp .ne (.call 12 [(.var 0), (.var 1), (.var 2), (.var 4)]) (.call 12 [(.var 0), (.var 1), (.var 3), (.var 4)]))])]
def d_tells_apart : Df := ⟨5, 5, b_tells_apart, false⟩
def b_told_from : List S := [.ex (.call 8 [(.var 0), (.var 1)]), .ex (.call 9 [(.var 0), (.var 2)]), .ret (.call 13 [(.var 0), (.var 1), (.var 2)])]
def d_told_from : Df := ⟨3, 3, b_told_from, false⟩
def b__law_cup : List S := [.set 1 (.bi .abs [(.idx (.bin false .add (.col false .list .ex [(.var 0)]) (.lst false [(.int 0)])) (.int 0))]), .ret (.lst true [(.ite (.cmp .ge (.var 1) (.bin false .pow (.int 10) (.int 18))) (.bin false .fdiv (.var 1) (.int 131)) (.int 0)), (.bin false .add (.bin false .mod (.bi .int [(.bin false .add (.bin false .mul (.var 1) (.int 379)) (.int 5503))]) (.int 1964129453)) (.int 233))])]
def d__law_cup : Df := ⟨1, 2, b__law_cup, true⟩
def b__law_roll : List S := [.iff (.cmp .gt (.idx (.var 0) (.int 0)) (.int 0)) [.set 3 (.bin false .mod (.bi .int [(.idx (.var 0) (.int 0))]) (.var 1)), .sub (.var 0) (.int 0) (.bin false .fdiv (.idx (.var 0) (.int 0)) (.var 1)), .ret (.var 3)] [], .sub (.var 0) (.int 1) (.bin false .mod (.bi .int [(.bin false .add (.bin false .mul (.idx (.var 0) (.int 1)) (.int 29819)) (.int 9203))]) (.int 2147483543)), .set 2 (.bin false .mod (.bi .int [(.bin false .mul (.idx (.var 0) (.int 1)) (.bin false .add (.idx (.var 0) (.int 1)) (.int 311)))]) (.int 2147483587)), .ret (.bin false .mod (.bi .int [(.bin false .fdiv (.var 2) (.int 907))]) (.var 1))]
def d__law_roll : Df := ⟨2, 4, b__law_roll, false⟩
def b__law_some : List S := [.ret (.idx (.var 1) (.call 21 [(.var 0), (.bi .len [(.var 1)])]))]
def d__law_some : Df := ⟨2, 2, b__law_some, false⟩
def b__law_sort : List S := [.iff (.bool false [(.cmp .is_ (.var 0) .non), (.isi (.var 0) .bool)]) [.ret (.ite (.cmp .is_ (.var 0) .non) (.int 0) (.int 1))] [], .iff (.bool false [(.isi (.var 0) .int), (.isi (.var 0) .str)]) [.ret (.ite (.isi (.var 0) .int) (.int 2) (.int 3))] [], .ret (.ite (.isi (.var 0) .tuple) (.int 4) (.ite (.isi (.var 0) .list) (.int 5) (.int 6)))]
def d__law_sort : Df := ⟨1, 1, b__law_sort, false⟩
def c__law_like_0 : E := .comp false (.tup [(.slot 3), (.slot 4)]) .zip [(.var 0), (.var 1)] (.not (.call 24 [(.var 3), (.var 4)])) (.int 1) [3, 4]
def b__law_like : List S := [.set 2 (.call 23 [(.var 1)]), .iff (.bool false [(.cmp .ne (.call 23 [(.var 0)]) (.var 2)), (.cmp .eq (.var 2) (.int 6))]) [.ret (.bl false)] [], .iff (.cmp .isin (.var 2) (.tup [(.int 4), (.int 5)])) [.ret (.bool true [(.cmp .eq (.bi .len [(.var 0)]) (.bi .len [(.var 1)])), (.cmp .eq c__law_like_0 (.lst false []))])] [], .ret (.cmp .eq (.var 0) (.var 1))]
def d__law_like : Df := ⟨2, 5, b__law_like, false⟩
def b__law_is_number : List S := [.ret (.bool true [(.cmp .eq (.call 23 [(.var 0)]) (.int 2)), (.chain .le .le (.var 1) (.var 0) (.var 2))])]
def d__law_is_number : Df := ⟨3, 3, b__law_is_number, false⟩
def c__law_joined_0 : E := .comp true (.slot 5) .rng [(.var 1)] (.bl true) (.lst false []) [5]
def lb__law_joined_1 : List S := [.iff (.cmp .eq (.var 3) (.var 4)) [.sub (.var 2) (.var 3) (.bin false .add (.idx (.var 2) (.var 3)) (.lst false [(.tup [(.var 3), (.bin false .add (.bi .len [(.idx (.var 2) (.var 3))]) (.int 1))]), (.tup [(.var 3), (.bi .len [(.idx (.var 2) (.var 3))])])]))] [.par [6, 7] [(.tup [(.var 4), (.bi .len [(.idx (.var 2) (.var 4))])]), (.tup [(.var 3), (.bi .len [(.idx (.var 2) (.var 3))])])], .sub (.var 2) (.var 3) (.bin false .add (.idx (.var 2) (.var 3)) (.lst false [(.var 6)])), .sub (.var 2) (.var 4) (.bin false .add (.idx (.var 2) (.var 4)) (.lst false [(.var 7)]))]]
def l__law_joined_1 : S := .for_ (.tup [(.slot 3), (.slot 4)]) .ex [(.var 0)] lb__law_joined_1
def c__law_joined_3 : E := .comp false (.slot 8) .ex [(.var 2)] (.bl true) (.col false .tuple .ex [(.var 8)]) [8]
def b__law_joined : List S := [.set 2 c__law_joined_0, l__law_joined_1, .ret (.col false .tuple .ex [c__law_joined_3])]
def d__law_joined : Df := ⟨2, 9, b__law_joined, false⟩
def c__law_lines_0 : E := .comp false (.slot 9) .rng [(.var 3)] (.cmp .lt (.idx (.var 7) (.var 9)) (.int 4)) (.var 9) [9]
def lb__law_lines_1 : List S := [.set 8 c__law_lines_0, .set 9 (.call 22 [(.var 0), (.var 8)]), .ex (.me false .append (.var 6) [(.tup [(.var 9), (.var 3)])]), .sub2 (.var 7) (.var 9) (.var 7) (.var 3) (.bin false .add (.idx (.var 7) (.var 9)) (.int 1)) (.bin false .add (.idx (.var 7) (.var 3)) (.int 1))]
def l__law_lines_1 : S := .for_ (.slot 3) .rng [(.int 1), (.var 1)] lb__law_lines_1
def lb__law_lines_3 : List S := [.par [10, 11] [(.call 21 [(.var 0), (.var 1)]), (.call 21 [(.var 0), (.var 1)])], .iff (.bool true [(.cmp .lt (.idx (.var 7) (.var 10)) (.int 5)), (.cmp .lt (.idx (.var 7) (.var 11)) (.int 5)), (.bool false [(.cmp .ne (.var 10) (.var 11)), (.cmp .lt (.idx (.var 7) (.var 10)) (.int 4))])]) [.ex (.me false .append (.var 6) [(.tup [(.bi .min2 [(.var 10), (.var 11)]), (.bi .max2 [(.var 10), (.var 11)])])]), .sub (.var 7) (.var 10) (.bin false .add (.idx (.var 7) (.var 10)) (.int 1)), .sub (.var 7) (.var 11) (.bin false .add (.idx (.var 7) (.var 11)) (.int 1))] []]
def l__law_lines_3 : S := .for_ (.slot 4) .rng [(.var 2)] lb__law_lines_3
def lb__law_lines_5 : List S := [.ex (.me false .append (.var 5) [(.me false .pop1 (.var 6) [(.call 21 [(.var 0), (.bi .len [(.var 6)])])])])]
def l__law_lines_5 : S := .for_ (.slot 4) .rng [(.bi .len [(.var 6)])] lb__law_lines_5
def b__law_lines : List S := [.asg (.tup [(.slot 6), (.slot 7)]) (.tup [(.lst true []), (.bin true .mul (.lst false [(.int 0)]) (.var 1))]), l__law_lines_1, l__law_lines_3, .set 5 (.lst true []), l__law_lines_5, .ret (.var 5)]
def d__law_lines : Df := ⟨3, 12, b__law_lines, false⟩
def b__law_net : List S := [.ret (.call 26 [(.call 27 [(.var 0), (.var 1), (.call 21 [(.var 0), (.int 4)])]), (.var 1)])]
def d__law_net : Df := ⟨2, 2, b__law_net, false⟩
def c__law_ring_0 : E := .comp false (.slot 1) .rng [(.var 0)] (.bl true) (.tup [(.tup [(.bin false .mod (.bi .int [(.bin false .add (.var 1) (.int 1))]) (.var 0)), (.int 1)]), (.tup [(.bin false .mod (.bi .int [(.bin false .sub (.var 1) (.int 1))]) (.var 0)), (.int 0)])]) [1]
def b__law_ring : List S := [.ret (.col false .tuple .ex [c__law_ring_0])]
def d__law_ring : Df := ⟨1, 2, b__law_ring, false⟩
def lb__law_is_whole_0 : List S := [.set 1 (.bin false .add (.var 1) (.ite (.cmp .notin (.var 3) (.var 1)) (.lst false [(.var 3)]) (.lst false [])))]
def l__law_is_whole_0 : S := .for_ (.tup [(.slot 3), (.slot 4)]) .ex [(.idx (.var 0) (.idx (.var 1) (.var 2)))] lb__law_is_whole_0
def lb__law_is_whole_2 : List S := [.iff (.cmp .lt (.var 2) (.bi .len [(.var 1)])) [l__law_is_whole_0] []]
def l__law_is_whole_2 : S := .for_ (.slot 2) .rng [(.bi .len [(.var 0)])] lb__law_is_whole_2
def b__law_is_whole : List S := [.set 1 (.lst false [(.int 0)]), l__law_is_whole_2, .ret (.cmp .eq (.bi .len [(.var 1)]) (.bi .len [(.var 0)]))]
def d__law_is_whole : Df := ⟨1, 5, b__law_is_whole, false⟩
def c__law_is_net_0 : E := .comp false (.slot 3) .ex [(.var 0)] (.bool false [(.not (.isi (.var 3) .tuple)), (.cmp .gt (.bi .len [(.var 3)]) (.int 6))]) (.var 3) [3]
def c__law_is_net_1 : E := .comp false (.slot 7) .ex [(.var 6)] (.cmp .ne (.call 23 [(.var 7)]) (.int 2)) (.var 7) [7]
def lb__law_is_net_2 : List S := [.iff (.bool false [(.not (.isi (.var 5) .tuple)), (.cmp .ne (.bi .len [(.var 5)]) (.int 2)), (.not (.call 25 [(.idx (.var 5) (.int 0)), (.int 0), (.bin false .sub (.bi .len [(.var 0)]) (.int 1))]))]) [.ret (.bl false)] [], .iff (.not (.call 25 [(.idx (.var 5) (.int 1)), (.int 0), (.bin false .sub (.bi .len [(.idx (.var 0) (.idx (.var 5) (.int 0)))]) (.int 1))])) [.ret (.bl false)] [], .set 6 (.idx (.idx (.var 0) (.idx (.var 5) (.int 0))) (.idx (.var 5) (.int 1))), .iff (.bool false [(.not (.isi (.var 6) .tuple)), (.cmp .ne (.var 6) (.tup [(.var 2), (.var 4)])), (.cmp .ne c__law_is_net_1 (.lst false []))]) [.ret (.bl false)] []]
def l__law_is_net_2 : S := .for_ (.tup [(.slot 4), (.slot 5)]) .enm [(.var 3)] lb__law_is_net_2
def lb__law_is_net_4 : List S := [l__law_is_net_2]
def l__law_is_net_4 : S := .for_ (.tup [(.slot 2), (.slot 3)]) .enm [(.var 0)] lb__law_is_net_4
def b__law_is_net : List S := [.iff (.bool false [(.not (.isi (.var 0) .tuple)), (.not (.chain .le .le (.int 1) (.bi .len [(.var 0)]) (.var 1))), (.cmp .ne c__law_is_net_0 (.lst false []))]) [.ret (.bl false)] [], l__law_is_net_4, .ret (.call 30 [(.var 0)])]
def d__law_is_net : Df := ⟨2, 8, b__law_is_net, false⟩
def c__law_are_marks_0 : E := .comp false (.slot 2) .ex [(.var 1)] (.not (.call 25 [(.var 2), (.int 0), (.int 9)])) (.var 2) [2]
def b__law_are_marks : List S := [.ret (.bool true [(.isi (.var 1) .tuple), (.cmp .eq (.bi .len [(.var 1)]) (.bi .len [(.var 0)])), (.cmp .eq c__law_are_marks_0 (.lst false []))])]
def d__law_are_marks : Df := ⟨2, 3, b__law_are_marks, false⟩
def c__law_marks_0 : E := .comp false (.slot 3) .rng [(.var 1)] (.bl true) (.call 21 [(.var 0), (.var 2)]) [3]
def b__law_marks : List S := [.ret (.col false .tuple .ex [c__law_marks_0])]
def d__law_marks : Df := ⟨3, 4, b__law_marks, false⟩
def c__law_is_row_0 : E := .comp false (.slot 1) .ex [(.var 0)] (.not (.call 25 [(.var 1), (.int 0), (.int 5)])) (.var 1) [1]
def b__law_is_row : List S := [.ret (.bool true [(.isi (.var 0) .tuple), (.cmp .le (.bi .len [(.var 0)]) (.int 100)), (.cmp .eq c__law_is_row_0 (.lst false []))])]
def d__law_is_row : Df := ⟨1, 2, b__law_is_row, false⟩
def lb__law_story_0 : List S := [.iff (.bool true [(.cmp .isnot (.idx (.var 4) (.neg (.int 1))) .non), (.cmp .lt (.var 5) (.bi .len [(.idx (.var 0) (.var 2))]))]) [.asg (.tup [(.slot 2), (.slot 6)]) (.idx (.idx (.var 0) (.var 2)) (.var 5)), .ex (.me false .append (.var 4) [(.tup [(.var 6), (.idx (.var 1) (.var 2)), (.bi .len [(.idx (.var 0) (.var 2))])])])] [.iff (.cmp .isnot (.idx (.var 4) (.neg (.int 1))) .non) [.ex (.me false .append (.var 4) [.non])] []]]
def l__law_story_0 : S := .for_ (.slot 5) .ex [(.var 3)] lb__law_story_0
def b__law_story : List S := [.set 4 (.lst true [(.tup [(.idx (.var 1) (.var 2)), (.bi .len [(.idx (.var 0) (.var 2))])])]), l__law_story_0, .ret (.col false .tuple .ex [(.var 4)])]
def d__law_story : Df := ⟨4, 7, b__law_story, false⟩
def b__law_bent : List S := [.iff (.bool false [(.not (.isi (.var 1) .tuple)), (.cmp .eq (.var 1) (.tup [])), (.cmp .eq (.call 21 [(.var 0), (.int 7)]) (.int 0))]) [.set 2 (.lst false [.non, (.bl true), (.bl false), (.int 0), (.int 1), (.int 2), (.int 3), (.neg (.int 1)), (.int 9), (.int 10), (.str ""), (.tup []), (.lst false []), (.tup [(.int 0)]), (.tup [(.int 0), (.int 0)]), (.tup [(.int 1), (.int 0)]), (.tup [(.tup [(.int 0), (.int 0)])])]), .ret (.call 22 [(.var 0), (.bin false .add (.var 2) (.ite (.cmp .eq (.call 23 [(.var 1)]) (.int 2)) (.bin false .mul (.lst false [(.bin false .add (.var 1) (.int 1)), (.bin false .sub (.var 1) (.int 1))]) (.int 5)) (.lst false [])))])] [], .par [3, 4] [(.call 21 [(.var 0), (.bi .len [(.var 1)])]), (.call 21 [(.var 0), (.int 12)])], .iff (.cmp .eq (.var 4) (.int 0)) [.ret (.bin false .add (.slc false (.var 1) .non (.var 3)) (.slc false (.var 1) (.bin false .add (.var 3) (.int 1)) .non))] [], .iff (.cmp .eq (.var 4) (.int 1)) [.ret (.bin false .add (.slc false (.var 1) .non (.bin false .add (.var 3) (.int 1))) (.slc false (.var 1) (.var 3) .non))] [], .iff (.cmp .eq (.var 4) (.int 2)) [.ret (.col false .list .ex [(.var 1)])] [], .iff (.cmp .eq (.var 4) (.int 3)) [.ret (.rev false (.var 1))] [], .ret (.bin false .add (.bin false .add (.slc false (.var 1) .non (.var 3)) (.tup [(.call 36 [(.var 0), (.idx (.var 1) (.var 3))])])) (.slc false (.var 1) (.bin false .add (.var 3) (.int 1)) .non))]
def d__law_bent : Df := ⟨2, 5, b__law_bent, false⟩
def c__law_changed_0 : E := .comp false (.slot 5) .ex [(.tup [(.int 0), (.int 1), (.var 2), (.neg (.int 1)), (.bl true), (.bl false), .non, (.str "0"), (.tup [(.int 0)])])] (.bl true) (.bin false .add (.bin false .add (.slc false (.var 1) .non (.var 3)) (.tup [(.var 5)])) (.slc false (.var 1) (.bin false .add (.var 3) (.int 1)) .non)) [5]
def b__law_changed : List S := [.set 3 (.call 21 [(.var 0), (.bin false .add (.bi .len [(.var 1)]) (.int 1))]), .set 4 (.lst false [(.var 1), (.rev false (.var 1)), (.col false .list .ex [(.var 1)]), (.slc false (.var 1) .non (.neg (.int 1))), (.slc false (.var 1) (.int 1) .non), (.bin false .add (.var 1) (.slc false (.var 1) (.neg (.int 1)) .non)), (.tup []), .non, (.bin false .add (.slc false (.var 1) .non (.var 3)) (.slc false (.var 1) (.bin false .add (.var 3) (.int 1)) .non)), (.bin false .add (.bin false .add (.slc false (.var 1) .non (.var 3)) (.slc false (.var 1) (.var 3) (.bin false .add (.var 3) (.int 1)))) (.slc false (.var 1) (.var 3) .non))]), .ret (.bin false .add (.var 4) c__law_changed_0)]
def d__law_changed : Df := ⟨3, 6, b__law_changed, false⟩
def lb__law_row_0 : List S := [.iff (.cmp .ne (.idx (.var 1) (.var 2)) (.tup [])) [.set 4 (.bin false .add (.var 4) (.tup [(.call 21 [(.var 0), (.bi .len [(.idx (.var 1) (.var 2))])])])), .set 2 (.idx (.idx (.idx (.var 1) (.var 2)) (.idx (.var 4) (.neg (.int 1)))) (.int 0))] []]
def l__law_row_0 : S := .for_ (.slot 5) .rng [(.var 3)] lb__law_row_0
def b__law_row : List S := [.set 4 (.tup []), l__law_row_0, .ret (.bin false .add (.var 4) (.call 22 [(.var 0), (.lst false [(.tup []), (.tup []), (.tup [(.int 5)]), (.tup [(.int 0), (.int 1)])])]))]
def d__law_row : Df := ⟨4, 6, b__law_row, false⟩
def lb__law_walk_0 : List S := [.iff (.bool true [(.cmp .isnot (.var 3) .non), (.cmp .lt (.var 4) (.bi .len [(.idx (.var 0) (.var 1))]))]) [.set 1 (.idx (.idx (.idx (.var 0) (.var 1)) (.var 4)) (.int 0)), .set 3 (.bin false .add (.var 3) (.tup [(.var 1)]))] [.set 3 .non]]
def l__law_walk_0 : S := .for_ (.slot 4) .ex [(.var 2)] lb__law_walk_0
def b__law_walk : List S := [.set 3 (.tup []), l__law_walk_0, .ret (.var 3)]
def d__law_walk : Df := ⟨3, 5, b__law_walk, false⟩
def lb__law_is_told_0 : List S := [.iff (.cmp .notin (.var 9) (.var 7)) [.iff (.cmp .ne (.var 9) (.bi .len [(.var 8)])) [.ret (.bl false)] [], .sub (.var 7) (.var 9) (.var 11), .ex (.me false .append (.var 8) [(.var 9)])] [], .iff (.bool false [(.cmp .ne (.idx (.var 7) (.var 9)) (.var 11)), (.cmp .ne (.var 10) (.var 12))]) [.ret (.bl false)] []]
def l__law_is_told_0 : S := .for_ (.tup [(.tup [(.slot 9), (.slot 10)]), (.tup [(.slot 11), (.slot 12)])]) .zip [(.idx (.var 5) (.var 4)), (.idx (.var 0) (.idx (.var 7) (.var 4)))] lb__law_is_told_0
def lb__law_is_told_2 : List S := [.iff (.bool false [(.cmp .ge (.var 4) (.bi .len [(.var 8)])), (.cmp .ne (.bi .len [(.idx (.var 5) (.var 4))]) (.bi .len [(.idx (.var 0) (.idx (.var 7) (.var 4)))])), (.cmp .ne (.idx (.var 6) (.var 4)) (.idx (.var 1) (.idx (.var 7) (.var 4))))]) [.ret (.bl false)] [], l__law_is_told_0]
def l__law_is_told_2 : S := .for_ (.slot 4) .rng [(.bi .len [(.var 0)])] lb__law_is_told_2
def b__law_is_told : List S := [.asg (.tup [(.slot 5), (.slot 6)]) (.var 3), .par [7, 8] [(.dct true false [(.int 0), (.var 2)]), (.lst true [(.int 0)])], l__law_is_told_2, .ret (.cmp .eq (.lset (.vals (.var 7))) (.bi .len [(.var 0)]))]
def d__law_is_told : Df := ⟨4, 13, b__law_is_told, false⟩
def lb__law_right_0 : List S := [.set 9 (.bool true [(.call 34 [(.var 5)]), (.cmp .ne (.call 35 [(.var 1), (.var 2), (.var 7), (.var 5)]) (.call 35 [(.var 1), (.var 2), (.var 8), (.var 5)]))]), .iff (.not (.call 24 [(.call 18 [(.var 1), (.var 2), (.var 7), (.var 8), (.var 5)]), (.var 9)])) [.ret (.bl false)] []]
def l__law_right_0 : S := .for_ (.slot 5) .ex [(.bin false .add (.call 37 [(.var 0), (.var 3), (.int 6)]) (.lst false [(.bin false .mul (.var 3) (.int 12)), (.bin false .mul (.tup [(.int 0)]) (.int 100)), (.bin false .mul (.tup [(.int 0)]) (.int 101)), (.tup [(.int 5)]), (.tup [])]))] lb__law_right_0
def lb__law_right_2 : List S := [.par [5, 10] [(.call 36 [(.var 0), (.var 1)]), (.call 36 [(.var 0), (.var 2)])], .iff (.not (.call 24 [(.lst false [(.call 14 [(.var 5)]), (.call 15 [(.var 1), (.var 10)])]), (.lst false [(.call 31 [(.var 5), (.int 10)]), (.call 32 [(.var 1), (.var 10)])])])) [.ret (.bl false)] []]
def l__law_right_2 : S := .for_ (.slot 6) .rng [(.int 4)] lb__law_right_2
def b__law_right : List S := [.par [7, 8] [(.call 21 [(.var 0), (.bi .len [(.var 1)])]), (.call 21 [(.var 0), (.bi .len [(.var 1)])])], .set 3 (.call 38 [(.var 0), (.var 1), (.var 7), (.call 22 [(.var 0), (.lst false [(.int 0), (.int 1), (.int 3), (.int 9), (.int 60)])])]), .set 4 (.call 19 [(.var 1), (.var 2), (.var 7)]), .iff (.not (.call 24 [(.lst false [(.call 14 [(.var 1)]), (.call 15 [(.var 1), (.var 2)]), (.call 16 [(.var 1), (.var 7), (.var 3)]), (.call 17 [(.var 1), (.var 2), (.var 7), (.var 3)])]), (.lst false [(.bl true), (.bl true), (.call 39 [(.var 1), (.var 7), (.var 3)]), (.call 35 [(.var 1), (.var 2), (.var 7), (.var 3)])])])) [.ret (.bl false)] [], .iff (.bool false [(.not (.call 31 [(.idx (.var 4) (.int 0)), (.int 10)])), (.not (.call 32 [(.var 1), (.idx (.var 4) (.int 1))])), (.not (.call 40 [(.var 1), (.var 2), (.var 7), (.var 4)]))]) [.ret (.bl false)] [], .iff (.bool false [(.cmp .ne (.call 35 [(.idx (.var 4) (.int 0)), (.idx (.var 4) (.int 1)), (.int 0), (.var 3)]) (.call 35 [(.var 1), (.var 2), (.var 7), (.var 3)])), (.not (.call 24 [(.call 19 [(.idx (.var 4) (.int 0)), (.idx (.var 4) (.int 1)), (.int 0)]), (.var 4)]))]) [.ret (.bl false)] [], l__law_right_0, l__law_right_2, .ret (.bl true)]
def d__law_right : Df := ⟨3, 11, b__law_right, false⟩
def c__law_great_right_0 : E := .comp false (.slot 11) .rng [(.var 1)] (.bl true) (.bi .int [(.cmp .eq (.var 11) (.int 0))]) [11]
def c__law_great_right_1 : E := .comp false (.slot 12) .rng [(.int 100)] (.bl true) (.call 21 [(.var 0), (.int 2)]) [12]
def lb__law_great_right_2 : List S := [.set 9 (.bin false .mod (.bi .int [(.bin false .sub (.bin false .add (.var 9) (.int 1)) (.bin false .mul (.int 2) (.var 4)))]) (.var 1)), .set 10 (.bin false .add (.var 10) (.tup [(.var 9)]))]
def l__law_great_right_2 : S := .for_ (.slot 4) .ex [(.var 3)] lb__law_great_right_2
def c__law_great_right_4 : E := .comp false (.slot 11) .rng [(.int 100)] (.bl true) (.tup [(.int 1), (.bi .int [(.cmp .eq (.bin false .mod (.bi .int [(.bin false .add (.bin false .add (.var 8) (.var 11)) (.int 1))]) (.var 1)) (.int 0))]), (.int 2)]) [11]
def b__law_great_right : List S := [.set 1 (.bin false .add (.int 2) (.call 21 [(.var 0), (.int 9)])), .asg (.tup [(.slot 7), (.slot 8)]) (.tup [(.call 29 [(.var 1)]), (.call 21 [(.var 0), (.var 1)])]), .set 2 (.col false .tuple .ex [c__law_great_right_0]), .set 3 (.col false .tuple .ex [c__law_great_right_1]), .par [9, 10] [(.var 8), (.tup [])], l__law_great_right_2, .set 5 (.lst false [(.call 14 [(.var 7)]), (.call 16 [(.var 7), (.var 8), (.var 3)]), (.idx (.call 16 [(.var 7), (.var 8), (.bin false .mul (.tup [(.int 0)]) (.var 1))]) (.neg (.int 1))), (.idx (.call 16 [(.var 7), (.var 8), (.bin false .mul (.tup [(.int 0), (.int 1)]) (.int 50))]) (.neg (.int 1))), (.call 15 [(.var 7), (.var 2)]), (.ite (.cmp .eq (.var 1) (.int 10)) (.call 14 [(.call 29 [(.int 11)])]) (.bl false))]), .iff (.not (.call 24 [(.var 5), (.lst false [(.bl true), (.var 10), (.var 8), (.var 8), (.bl true), (.bl false)])])) [.ret (.bl false)] [], .set 6 (.call 17 [(.var 7), (.var 2), (.var 8), (.bin false .mul (.tup [(.int 0)]) (.int 100))]), .ret (.call 24 [(.var 6), (.bin false .add (.tup [(.tup [(.idx (.var 2) (.var 8)), (.int 2)])]) (.col false .tuple .ex [c__law_great_right_4]))])]
def d__law_great_right : Df := ⟨1, 13, b__law_great_right, false⟩
def c__law_written_right_0 : E := .comp false (.slot 7) .ex [(.bin false .add (.var 3) (.var 2))] (.bl true) (.call 14 [(.var 7)]) [7]
def b__law_written_right : List S := [.par [4, 5, 6] [(.call 29 [(.int 4)]), (.tup [(.tup [(.tup [(.int 1), (.int 0)])]), (.tup [(.tup [(.int 0), (.int 0)]), (.tup [(.int 2), (.int 0)])]), (.tup [(.tup [(.int 1), (.int 1)])])]), (.tup [(.tup [(.tup [(.int 1), (.int 0)])]), (.tup [(.tup [(.int 0), (.int 0)])])])], .set 0 (.lst false [(.call 14 [(.var 4)]), (.call 14 [(.tup [(.tup [(.tup [(.int 1), (.int 0)])]), (.tup [(.tup [(.int 0), (.int 1)])])])]), (.call 16 [(.var 4), (.int 0), (.tup [(.int 0), (.int 0), (.int 1)])]), (.call 16 [(.var 5), (.int 0), (.tup [(.int 0), (.int 0), (.int 1)])]), (.call 16 [(.var 5), (.int 0), (.tup [(.int 1)])]), (.call 17 [(.var 5), (.tup [(.int 0), (.int 0), (.int 0)]), (.int 0), (.tup [(.int 0), (.int 1)])]), (.call 18 [(.var 5), (.tup [(.int 0), (.int 0), (.int 0)]), (.int 0), (.int 2), (.tup [(.int 0)])]), (.call 19 [(.var 5), (.tup [(.int 0), (.int 0), (.int 0)]), (.int 2)])]), .set 0 (.bin false .add (.var 0) (.lst false [(.call 16 [(.var 5), (.int 1), (.tup [])]), (.call 17 [(.var 5), (.tup [(.int 1), (.int 2), (.int 3)]), (.int 1), (.tup [(.int 0), (.int 0), (.int 1), (.int 5)])]), (.call 18 [(.var 5), (.tup [(.int 0), (.int 0), (.int 0)]), (.int 0), (.int 2), (.tup [])]), (.call 18 [(.var 5), (.tup [(.int 0), (.int 0), (.int 0)]), (.int 1), (.int 1), (.tup [(.int 0)])]), (.call 19 [(.var 6), (.tup [(.int 7), (.int 8)]), (.int 1)]), (.call 19 [(.tup [(.tup [])]), (.tup [(.int 9)]), (.int 0)]), (.call 16 [(.tup [(.tup [(.tup [(.int 0), (.int 0)])])]), (.int 0), (.bin false .mul (.tup [(.int 0)]) (.int 5))]), (.call 18 [(.var 5), (.tup [(.int 0), (.int 0), (.int 0)]), (.int 0), (.int 1), (.tup [(.int 1)])])])), .set 1 (.lst false [(.bl true), (.bl false), (.tup [(.int 1), (.int 2), (.int 1)]), .non, .non, (.tup [(.tup [(.int 0), (.int 1)]), (.tup [(.int 0), (.int 0), (.int 2)]), (.tup [(.int 0), (.int 0), (.int 1)])]), (.bl true), (.tup [(.tup [(.tup [(.tup [(.int 1), (.int 1)])]), (.tup [(.tup [(.int 2), (.int 0)]), (.tup [(.int 0), (.int 0)])]), (.tup [(.tup [(.int 1), (.int 0)])])]), (.tup [(.int 0), (.int 0), (.int 0)])])]), .set 1 (.bin false .add (.var 1) (.lst false [(.tup []), (.tup [(.tup [(.int 2), (.int 2)]), (.tup [(.int 0), (.int 1), (.int 1)]), (.tup [(.int 0), (.int 2), (.int 2)]), (.tup [(.int 0), (.int 3), (.int 1)]), .non]), (.bl false), (.bl false), (.tup [(.tup [(.tup [(.tup [(.int 1), (.int 0)])]), (.tup [(.tup [(.int 0), (.int 0)])])]), (.tup [(.int 8), (.int 7)])]), (.tup [(.tup [(.tup [])]), (.tup [(.int 9)])]), (.bin false .mul (.tup [(.int 0)]) (.int 5)), (.bl true)])), .iff (.not (.call 24 [(.var 0), (.var 1)])) [.ret (.bl false)] [], .set 2 (.lst false [.non, (.tup []), (.lst false [(.tup [])]), (.tup [(.lst false [])]), (.tup [(.tup []), (.tup [])]), (.tup [(.tup [(.tup [(.int 0), (.int 1)])])]), (.tup [(.tup [(.tup [(.int 0), (.int 0)])]), (.tup [(.tup [(.int 1), (.int 0)])])]), (.tup [(.tup [(.tup [(.int 0), (.int 0)]), (.tup [(.int 0), (.int 0)])])]), (.tup [(.tup [(.tup [(.int 1), (.int 0)])]), (.tup [(.tup [(.int 0), (.int 0)]), (.tup [(.int 1), (.int 2)])])]), (.tup [(.tup [(.tup [(.bl true), (.int 0)])])]), (.tup [(.tup [(.tup [(.int 0), (.bl false)])])]), (.tup [(.tup [(.tup [(.int 0), (.int 0), (.int 0)])])]), (.tup [(.tup [(.int 0)])]), (.tup [(.bin false .mul (.tup [(.tup [(.int 0), (.int 0)])]) (.int 7))]), (.bin false .mul (.tup [(.tup [])]) (.int 11)), (.tup [(.tup [(.tup [(.int 1), (.int 0)])]), (.tup [(.tup [(.int 0), (.int 0)])]), (.tup [])])]), .set 3 (.lst false [(.tup [(.tup [])]), (.var 6), (.tup [(.tup [(.tup [(.int 0), (.int 1)]), (.tup [(.int 0), (.int 0)])])]), (.tup [(.tup [(.tup [(.int 0), (.int 0)]), (.tup [(.int 0), (.int 1)]), (.tup [(.int 0), (.int 2)]), (.tup [(.int 0), (.int 3)]), (.tup [(.int 0), (.int 4)]), (.tup [(.int 0), (.int 5)])])])]), .ret (.call 24 [c__law_written_right_0, (.bin false .add (.bin false .mul (.lst false [(.bl true)]) (.bi .len [(.var 3)])) (.bin false .mul (.lst false [(.bl false)]) (.bi .len [(.var 2)])))])]
def d__law_written_right : Df := ⟨0, 8, b__law_written_right, false⟩
def lb_law_0 : List S := [.set 3 (.call 28 [(.var 1), (.bin false .add (.int 1) (.call 21 [(.var 1), (.int 7)]))]), .iff (.not (.call 41 [(.var 1), (.var 3), (.call 33 [(.var 1), (.bi .len [(.var 3)]), (.call 22 [(.var 1), (.lst false [(.int 1), (.int 2), (.int 10)])])])])) [.ret (.bl false)] []]
def l_law_0 : S := .for_ (.slot 2) .rng [(.int 5)] lb_law_0
def b_law : List S := [.set 1 (.call 20 [(.var 0)]), l_law_0, .ret (.bool true [(.call 42 [(.var 1)]), (.call 43 [])])]
def d_law : Df := ⟨1, 4, b_law, false⟩
def defs : List Df := d_is_whole :: d_is_tuple_of :: d_are_wholes :: d_is_door :: d_reached_in :: d_fits_net :: d_need_net :: d_fits_marks :: d_need_both :: d_need_house :: d_fits_row :: d_need_row :: d_story_in :: d_told_in :: d_is_net :: d_are_marks :: d_walk :: d_story :: d_tells_apart :: d_told_from :: d__law_cup :: d__law_roll :: d__law_some :: d__law_sort :: d__law_like :: d__law_is_number :: d__law_joined :: d__law_lines :: d__law_net :: d__law_ring :: d__law_is_whole :: d__law_is_net :: d__law_are_marks :: d__law_marks :: d__law_is_row :: d__law_story :: d__law_bent :: d__law_changed :: d__law_row :: d__law_walk :: d__law_is_told :: d__law_right :: d__law_great_right :: d__law_written_right :: d_law :: []
theorem run_is_whole (k : Nat) (us : List U) (μ : Mu) : runF defs (k + 1) 0 us μ = (if us.length = 3 then endO false μ.length (exL (runF defs k) μ.length b_is_whole (us.map some ++ List.replicate 0 none) μ) else none) := rfl
theorem run_is_tuple_of (k : Nat) (us : List U) (μ : Mu) : runF defs (k + 1) 1 us μ = (if us.length = 3 then endO false μ.length (exL (runF defs k) μ.length b_is_tuple_of (us.map some ++ List.replicate 0 none) μ) else none) := rfl
theorem run_are_wholes (k : Nat) (us : List U) (μ : Mu) : runF defs (k + 1) 2 us μ = (if us.length = 4 then endO false μ.length (exL (runF defs k) μ.length b_are_wholes (us.map some ++ List.replicate 1 none) μ) else none) := rfl
theorem run_is_door (k : Nat) (us : List U) (μ : Mu) : runF defs (k + 1) 3 us μ = (if us.length = 2 then endO false μ.length (exL (runF defs k) μ.length b_is_door (us.map some ++ List.replicate 0 none) μ) else none) := rfl
theorem run_reached_in (k : Nat) (us : List U) (μ : Mu) : runF defs (k + 1) 4 us μ = (if us.length = 1 then endO false μ.length (exL (runF defs k) μ.length b_reached_in (us.map some ++ List.replicate 4 none) μ) else none) := rfl
theorem run_fits_net (k : Nat) (us : List U) (μ : Mu) : runF defs (k + 1) 5 us μ = (if us.length = 2 then endO false μ.length (exL (runF defs k) μ.length b_fits_net (us.map some ++ List.replicate 4 none) μ) else none) := rfl
theorem run_need_net (k : Nat) (us : List U) (μ : Mu) : runF defs (k + 1) 6 us μ = (if us.length = 1 then endO false μ.length (exL (runF defs k) μ.length b_need_net (us.map some ++ List.replicate 0 none) μ) else none) := rfl
theorem run_fits_marks (k : Nat) (us : List U) (μ : Mu) : runF defs (k + 1) 7 us μ = (if us.length = 2 then endO false μ.length (exL (runF defs k) μ.length b_fits_marks (us.map some ++ List.replicate 0 none) μ) else none) := rfl
theorem run_need_both (k : Nat) (us : List U) (μ : Mu) : runF defs (k + 1) 8 us μ = (if us.length = 2 then endO false μ.length (exL (runF defs k) μ.length b_need_both (us.map some ++ List.replicate 0 none) μ) else none) := rfl
theorem run_need_house (k : Nat) (us : List U) (μ : Mu) : runF defs (k + 1) 9 us μ = (if us.length = 2 then endO false μ.length (exL (runF defs k) μ.length b_need_house (us.map some ++ List.replicate 0 none) μ) else none) := rfl
theorem run_fits_row (k : Nat) (us : List U) (μ : Mu) : runF defs (k + 1) 10 us μ = (if us.length = 1 then endO false μ.length (exL (runF defs k) μ.length b_fits_row (us.map some ++ List.replicate 1 none) μ) else none) := rfl
theorem run_need_row (k : Nat) (us : List U) (μ : Mu) : runF defs (k + 1) 11 us μ = (if us.length = 1 then endO false μ.length (exL (runF defs k) μ.length b_need_row (us.map some ++ List.replicate 0 none) μ) else none) := rfl
theorem run_story_in (k : Nat) (us : List U) (μ : Mu) : runF defs (k + 1) 12 us μ = (if us.length = 4 then endO false μ.length (exL (runF defs k) μ.length b_story_in (us.map some ++ List.replicate 3 none) μ) else none) := rfl
theorem run_told_in (k : Nat) (us : List U) (μ : Mu) : runF defs (k + 1) 13 us μ = (if us.length = 3 then endO false μ.length (exL (runF defs k) μ.length b_told_in (us.map some ++ List.replicate 8 none) μ) else none) := rfl
theorem run_is_net (k : Nat) (us : List U) (μ : Mu) : runF defs (k + 1) 14 us μ = (if us.length = 1 then endO false μ.length (exL (runF defs k) μ.length b_is_net (us.map some ++ List.replicate 0 none) μ) else none) := rfl
theorem run_are_marks (k : Nat) (us : List U) (μ : Mu) : runF defs (k + 1) 15 us μ = (if us.length = 2 then endO false μ.length (exL (runF defs k) μ.length b_are_marks (us.map some ++ List.replicate 0 none) μ) else none) := rfl
theorem run_walk (k : Nat) (us : List U) (μ : Mu) : runF defs (k + 1) 16 us μ = (if us.length = 3 then endO false μ.length (exL (runF defs k) μ.length b_walk (us.map some ++ List.replicate 2 none) μ) else none) := rfl
theorem run_story (k : Nat) (us : List U) (μ : Mu) : runF defs (k + 1) 17 us μ = (if us.length = 4 then endO false μ.length (exL (runF defs k) μ.length b_story (us.map some ++ List.replicate 0 none) μ) else none) := rfl
theorem run_tells_apart (k : Nat) (us : List U) (μ : Mu) : runF defs (k + 1) 18 us μ = (if us.length = 5 then endO false μ.length (exL (runF defs k) μ.length b_tells_apart (us.map some ++ List.replicate 0 none) μ) else none) := rfl
theorem run_told_from (k : Nat) (us : List U) (μ : Mu) : runF defs (k + 1) 19 us μ = (if us.length = 3 then endO false μ.length (exL (runF defs k) μ.length b_told_from (us.map some ++ List.replicate 0 none) μ) else none) := rfl
theorem run__law_cup (k : Nat) (us : List U) (μ : Mu) : runF defs (k + 1) 20 us μ = (if us.length = 1 then endO true μ.length (exL (runF defs k) μ.length b__law_cup (us.map some ++ List.replicate 1 none) μ) else none) := rfl
theorem run__law_roll (k : Nat) (us : List U) (μ : Mu) : runF defs (k + 1) 21 us μ = (if us.length = 2 then endO false μ.length (exL (runF defs k) μ.length b__law_roll (us.map some ++ List.replicate 2 none) μ) else none) := rfl
theorem run__law_some (k : Nat) (us : List U) (μ : Mu) : runF defs (k + 1) 22 us μ = (if us.length = 2 then endO false μ.length (exL (runF defs k) μ.length b__law_some (us.map some ++ List.replicate 0 none) μ) else none) := rfl
theorem run__law_sort (k : Nat) (us : List U) (μ : Mu) : runF defs (k + 1) 23 us μ = (if us.length = 1 then endO false μ.length (exL (runF defs k) μ.length b__law_sort (us.map some ++ List.replicate 0 none) μ) else none) := rfl
theorem run__law_like (k : Nat) (us : List U) (μ : Mu) : runF defs (k + 1) 24 us μ = (if us.length = 2 then endO false μ.length (exL (runF defs k) μ.length b__law_like (us.map some ++ List.replicate 3 none) μ) else none) := rfl
theorem run__law_is_number (k : Nat) (us : List U) (μ : Mu) : runF defs (k + 1) 25 us μ = (if us.length = 3 then endO false μ.length (exL (runF defs k) μ.length b__law_is_number (us.map some ++ List.replicate 0 none) μ) else none) := rfl
theorem run__law_joined (k : Nat) (us : List U) (μ : Mu) : runF defs (k + 1) 26 us μ = (if us.length = 2 then endO false μ.length (exL (runF defs k) μ.length b__law_joined (us.map some ++ List.replicate 7 none) μ) else none) := rfl
theorem run__law_lines (k : Nat) (us : List U) (μ : Mu) : runF defs (k + 1) 27 us μ = (if us.length = 3 then endO false μ.length (exL (runF defs k) μ.length b__law_lines (us.map some ++ List.replicate 9 none) μ) else none) := rfl
theorem run__law_net (k : Nat) (us : List U) (μ : Mu) : runF defs (k + 1) 28 us μ = (if us.length = 2 then endO false μ.length (exL (runF defs k) μ.length b__law_net (us.map some ++ List.replicate 0 none) μ) else none) := rfl
theorem run__law_ring (k : Nat) (us : List U) (μ : Mu) : runF defs (k + 1) 29 us μ = (if us.length = 1 then endO false μ.length (exL (runF defs k) μ.length b__law_ring (us.map some ++ List.replicate 1 none) μ) else none) := rfl
theorem run__law_is_whole (k : Nat) (us : List U) (μ : Mu) : runF defs (k + 1) 30 us μ = (if us.length = 1 then endO false μ.length (exL (runF defs k) μ.length b__law_is_whole (us.map some ++ List.replicate 4 none) μ) else none) := rfl
theorem run__law_is_net (k : Nat) (us : List U) (μ : Mu) : runF defs (k + 1) 31 us μ = (if us.length = 2 then endO false μ.length (exL (runF defs k) μ.length b__law_is_net (us.map some ++ List.replicate 6 none) μ) else none) := rfl
theorem run__law_are_marks (k : Nat) (us : List U) (μ : Mu) : runF defs (k + 1) 32 us μ = (if us.length = 2 then endO false μ.length (exL (runF defs k) μ.length b__law_are_marks (us.map some ++ List.replicate 1 none) μ) else none) := rfl
theorem run__law_marks (k : Nat) (us : List U) (μ : Mu) : runF defs (k + 1) 33 us μ = (if us.length = 3 then endO false μ.length (exL (runF defs k) μ.length b__law_marks (us.map some ++ List.replicate 1 none) μ) else none) := rfl
theorem run__law_is_row (k : Nat) (us : List U) (μ : Mu) : runF defs (k + 1) 34 us μ = (if us.length = 1 then endO false μ.length (exL (runF defs k) μ.length b__law_is_row (us.map some ++ List.replicate 1 none) μ) else none) := rfl
theorem run__law_story (k : Nat) (us : List U) (μ : Mu) : runF defs (k + 1) 35 us μ = (if us.length = 4 then endO false μ.length (exL (runF defs k) μ.length b__law_story (us.map some ++ List.replicate 3 none) μ) else none) := rfl
theorem run__law_bent (k : Nat) (us : List U) (μ : Mu) : runF defs (k + 1) 36 us μ = (if us.length = 2 then endO false μ.length (exL (runF defs k) μ.length b__law_bent (us.map some ++ List.replicate 3 none) μ) else none) := rfl
theorem run__law_changed (k : Nat) (us : List U) (μ : Mu) : runF defs (k + 1) 37 us μ = (if us.length = 3 then endO false μ.length (exL (runF defs k) μ.length b__law_changed (us.map some ++ List.replicate 3 none) μ) else none) := rfl
theorem run__law_row (k : Nat) (us : List U) (μ : Mu) : runF defs (k + 1) 38 us μ = (if us.length = 4 then endO false μ.length (exL (runF defs k) μ.length b__law_row (us.map some ++ List.replicate 2 none) μ) else none) := rfl
theorem run__law_walk (k : Nat) (us : List U) (μ : Mu) : runF defs (k + 1) 39 us μ = (if us.length = 3 then endO false μ.length (exL (runF defs k) μ.length b__law_walk (us.map some ++ List.replicate 2 none) μ) else none) := rfl
theorem run__law_is_told (k : Nat) (us : List U) (μ : Mu) : runF defs (k + 1) 40 us μ = (if us.length = 4 then endO false μ.length (exL (runF defs k) μ.length b__law_is_told (us.map some ++ List.replicate 9 none) μ) else none) := rfl
theorem run__law_right (k : Nat) (us : List U) (μ : Mu) : runF defs (k + 1) 41 us μ = (if us.length = 3 then endO false μ.length (exL (runF defs k) μ.length b__law_right (us.map some ++ List.replicate 8 none) μ) else none) := rfl
theorem run__law_great_right (k : Nat) (us : List U) (μ : Mu) : runF defs (k + 1) 42 us μ = (if us.length = 1 then endO false μ.length (exL (runF defs k) μ.length b__law_great_right (us.map some ++ List.replicate 12 none) μ) else none) := rfl
theorem run__law_written_right (k : Nat) (us : List U) (μ : Mu) : runF defs (k + 1) 43 us μ = (if us.length = 0 then endO false μ.length (exL (runF defs k) μ.length b__law_written_right (us.map some ++ List.replicate 8 none) μ) else none) := rfl
theorem run_law (k : Nat) (us : List U) (μ : Mu) : runF defs (k + 1) 44 us μ = (if us.length = 1 then endO false μ.length (exL (runF defs k) μ.length b_law (us.map some ++ List.replicate 3 none) μ) else none) := rfl
end K30

set_option Elab.async false
set_option linter.all false
set_option maxRecDepth 100000
set_option maxHeartbeats 4000000
namespace K30
open PySem L2 R
/-! ### the cup -/
def Cup (c : U) : Prop := ∃ c0 c1 : Int, c = .lst [.int c0, .int c1] ∧ 0 ≤ c0 ∧ 0 ≤ c1 ∧ c1 < 2147483648
theorem at0 {u v : U} : atI [u, v] (0 : Int) = some u := rfl
theorem at1 {u v : U} : atI [u, v] (1 : Int) = some v := rfl
theorem ix0 : ixN 2 (0 : Int) = some 0 := rfl
theorem ix1 : ixN 2 (1 : Int) = some 1 := rfl
theorem roll_ok (k : Nat) {c : U} (ρ : Mu) (C : Cup c) {many : Nat} (h1 : 1 ≤ many) (h2 : many < 18446744073709551616) :
    ∃ (r : Nat) (c' : U), runF defs (k + 1) 21 [.ob 0, I many] (c :: ρ) = some (I r, c' :: ρ) ∧ r < many ∧ Cup c' := by
  obtain ⟨c0, c1, rfl, p0, p1, p2⟩ := C
  have hm : (0 : Int) < many := by omega
  have hm2 : (many : Int) < 18446744073709551616 := by omega
  have i0 : ∀ {u v : U} {l : Mu} {cal} {n0} {σ : R.Env}, σ[0]? = some (some (.ob 0)) → evalE cal n0 (.idx (.var 0) (.int 0)) σ (.lst [u, v] :: l) = some (u, .lst [u, v] :: l) := fun h => ev_idxL1 (ev_var h) ev_int rfl rfl
  have i1 : ∀ {u v : U} {l : Mu} {cal} {n0} {σ : R.Env}, σ[0]? = some (some (.ob 0)) → evalE cal n0 (.idx (.var 0) (.int 1)) σ (.lst [u, v] :: l) = some (v, .lst [u, v] :: l) := fun h => ev_idxL1 (ev_var h) ev_int rfl rfl
  rw [run__law_roll]
  by_cases hc : 0 < c0
  · refine ⟨(c0 % many).toNat, .lst [.int (c0 / many), .int c1], ?_, ?_, c0 / many, c1, rfl, Int.ediv_nonneg p0 (by omega), p1, p2⟩
    · have e : ((c0 % many).toNat : Int) = c0 % many := Int.toNat_of_nonneg (Int.emod_nonneg _ (by omega))
      have b : exL (runF defs k) (ρ.length + 1) b__law_roll [some (.ob 0), some (I many), none, none] (.lst [.int c0, .int c1] :: ρ) = some (.rt (.int (c0 % many)) (.lst [.int (c0 / many), .int c1] :: ρ)) := by
        unfold b__law_roll
        have x : exS (runF defs k) (ρ.length + 1) (.iff (.cmp .gt (.idx (.var 0) (.int 0)) (.int 0)) [.set 3 (.bin false .mod (.bi .int [(.idx (.var 0) (.int 0))]) (.var 1)), .sub (.var 0) (.int 0) (.bin false .fdiv (.idx (.var 0) (.int 0)) (.var 1)), .ret (.var 3)] []) [some (.ob 0), some (I many), none, none] (.lst [.int c0, .int c1] :: ρ) = some (.rt (.int (c0 % many)) (.lst [.int (c0 / many), .int c1] :: ρ)) := by
          refine (ex_ifT (ev_cmp (d := true) (i0 rfl) ev_int (by simp only [evCmp, evLt]; rw [decide_eq_true hc])) rfl).trans ?_
          refine (ex_seq (ex_set (u := .int (c0 % many)) (ev_bin (ev_bi (ev_l1 (i0 rfl)) rfl) (ev_var rfl) (by simp only [evBin]; rw [if_pos hm])))).trans ?_
          refine (ex_seq (show exS _ _ _ _ _ = some (.nx [some (.ob 0), some (I many), none, some (.int (c0 % many))] (.lst [.int (c0 / many), .int c1] :: ρ)) from ?_)).trans ?_
          · have f : evalE (runF defs k) (ρ.length + 1) (.bin false .fdiv (.idx (.var 0) (.int 0)) (.var 1)) [some (.ob 0), some (I many), none, some (.int (c0 % many))] (.lst [.int c0, .int c1] :: ρ) = some (.int (c0 / many), .lst [.int c0, .int c1] :: ρ) := ev_bin (i0 rfl) (ev_var rfl) (by simp only [evBin]; rw [if_pos ⟨hm, hm2⟩])
            exact ex_subL (i := 0) (xs := [.int c0, .int c1]) (jj := 0) (q := 0) f (ev_var rfl) ev_int rfl ix0 (by simp [okw, nomut])
          · exact ex_ret (ev_var rfl)
        simp only [exL, x]
      show _ = some (U.int ((c0 % many).toNat : Int), _)
      rw [e]
      exact (if_pos rfl).trans (run_rt b (fin_cut rfl (by simp)))
    · have := Int.emod_lt_of_pos c0 hm
      have := Int.emod_nonneg c0 (show (many : Int) ≠ 0 by omega)
      omega
  · have q0 := Int.emod_nonneg (c1 * 29819 + 9203) (show (2147483543 : Int) ≠ 0 by omega)
    have q1 := Int.emod_lt_of_pos (c1 * 29819 + 9203) (show (0 : Int) < 2147483543 by omega)
    generalize hv : (c1 * 29819 + 9203) % 2147483543 = v at q0 q1
    have r0 := Int.emod_nonneg ((v * (v + 311)) % 2147483587 / 907) (show (many : Int) ≠ 0 by omega)
    have r1 := Int.emod_lt_of_pos ((v * (v + 311)) % 2147483587 / 907) hm
    refine ⟨(((v * (v + 311)) % 2147483587 / 907) % many).toNat, .lst [.int c0, .int v], ?_, by omega, c0, v, rfl, p0, q0, by omega⟩
    have e : ((((v * (v + 311)) % 2147483587 / 907) % many).toNat : Int) = ((v * (v + 311)) % 2147483587 / 907) % many := Int.toNat_of_nonneg r0
    have b : exL (runF defs k) (ρ.length + 1) b__law_roll [some (.ob 0), some (I many), none, none] (.lst [.int c0, .int c1] :: ρ) = some (.rt (.int (((v * (v + 311)) % 2147483587 / 907) % many)) (.lst [.int c0, .int v] :: ρ)) := by
      unfold b__law_roll
      refine (ex_seq ((ex_ifF (ev_cmp (d := false) (i0 rfl) ev_int (by simp only [evCmp, evLt]; rw [decide_eq_false hc])) rfl).trans ex_nil)).trans ?_
      refine (ex_seq (show exS _ _ _ _ _ = some (.nx [some (.ob 0), some (I many), none, none] (.lst [.int c0, .int v] :: ρ)) from ?_)).trans ?_
      · have f : evalE (runF defs k) (ρ.length + 1) (.bin false .mod (.bi .int [(.bin false .add (.bin false .mul (.idx (.var 0) (.int 1)) (.int 29819)) (.int 9203))]) (.int 2147483543)) [some (.ob 0), some (I many), none, none] (.lst [.int c0, .int c1] :: ρ) = some (.int v, .lst [.int c0, .int c1] :: ρ) := by
          refine ev_bin (ev_bi (ev_l1 (ev_bin (ev_bin (i1 rfl) ev_int (by simp only [evBin]; rw [if_pos (by simp [mulOk])])) ev_int rfl)) rfl) ev_int ?_
          simp only [evBin]
          rw [if_pos (by omega), hv]
        exact ex_subL (i := 0) (xs := [.int c0, .int c1]) (jj := 1) (q := 1) f (ev_var rfl) ev_int rfl ix1 (by simp [okw, nomut])
      · have mk : mulOk v (v + 311) = true := by
          simp only [mulOk, Bool.or_eq_true, Bool.and_eq_true, decide_eq_true_eq]
          left; omega
        refine (ex_seq (ex_set (u := .int ((v * (v + 311)) % 2147483587)) (ev_bin (ev_bi (ev_l1 (ev_bin (i1 rfl) (ev_bin (i1 rfl) ev_int rfl) (by simp only [evBin]; rw [if_pos mk]))) rfl) ev_int (by simp only [evBin]; rw [if_pos (by omega)])))).trans ?_
        refine ex_ret (ev_bin (ev_bi (ev_l1 (ev_bin (ev_var rfl) ev_int (by simp only [evBin]; rw [if_pos (by omega)]))) rfl) (ev_var rfl) ?_)
        simp only [evBin]
        rw [if_pos hm]
    show _ = some (U.int ((((v * (v + 311)) % 2147483587 / 907) % many).toNat : Int), _)
    rw [e]
    exact (if_pos rfl).trans (run_rt b (fin_cut rfl (by simp)))
theorem cup_ok (k : Nat) (ns : List Int) (h : ns.length ≤ 63) : ∃ c, Cup c ∧ runF defs (k + 1) 20 [.scr ns] [] = some (.ob 0, [c]) := by
  rw [run__law_cup]
  obtain ⟨v, hv, h0⟩ : ∃ v : Int, atI (ns.map U.int ++ [U.int 0]) (0 : Int) = some (.int v) ∧ True := by
    cases ns with
    | nil => exact ⟨0, rfl, trivial⟩
    | cons a l => exact ⟨a, atI_of (j := 0) rfl, trivial⟩
  generalize ha : (if v < 0 then -v else v) = a
  have a0 : 0 ≤ a := by subst ha; split <;> omega
  have q0 := Int.emod_nonneg (a * 379 + 5503) (show (1964129453 : Int) ≠ 0 by omega)
  have q1 := Int.emod_lt_of_pos (a * 379 + 5503) (show (0 : Int) < 1964129453 by omega)
  refine ⟨.lst [.int (if a < 10 ^ 18 then 0 else a / 131), .int ((a * 379 + 5503) % 1964129453 + 233)], ⟨_, _, rfl, ?_, by omega, by omega⟩, ?_⟩
  · split
    · omega
    · exact Int.ediv_nonneg a0 (by omega)
  · have s : evalE (runF defs k) 0 (.bi .abs [(.idx (.bin false .add (.col false .list .ex [(.var 0)]) (.lst false [(.int 0)])) (.int 0))]) [some (.scr ns), none] [] = some (.int a, []) := by
      refine ev_bi (ev_l1 (ev_idxL (u := .lst (ns.map U.int ++ [U.int 0])) (ev_bin (ev_col (ev_l1 (ev_var rfl)) rfl rfl) (show evalE _ _ (.lst false [(.int 0)]) _ _ = some (.lst [.int 0], []) from ?_) ?_) ev_int rfl hv)) ?_
      · simp [evalE, evalL, SZ, R.fresh]
      · simp only [evBin, asL, R.fresh]
        rw [if_pos (by simp; unfold SZ; omega)]
        rfl
      · simp only [evBi, ha]
    have b : exL (runF defs k) 0 b__law_cup [some (.scr ns), none] [] = some (.rt (.ob 0) [.lst [.int (if a < 10 ^ 18 then 0 else a / 131), .int ((a * 379 + 5503) % 1964129453 + 233)]]) := by
      unfold b__law_cup
      refine (ex_seq (ex_set s)).trans ?_
      refine ex_ret ?_
      by_cases hlt : a < 10 ^ 18
      · have hlt' : a < 1000000000000000000 := by omega
        simp [exL, exS, evalE, evalL, evalB, evBin, evCmp, evEq, evIn, evLt, neg?, evIdx, evBi, evIsi, truth, asL, asS, cont, asInt, R.fresh, bindP, bindPs, bindI, R.finish, frz, wipeE, R.isNon, okw, okm, evMe, sky, tky, evSlc, evRev, bnd, walk, items, evCol, dget, dput, storeSub, intL, intT, bls, pairKV, keyU, keysU, mulOk, dat, mapO, nomut, nomuts, lk, biF, D0, hlt', SZ, mulOk]
      · have hlt' : ¬ a < 1000000000000000000 := by omega
        simp [exL, exS, evalE, evalL, evalB, evBin, evCmp, evEq, evIn, evLt, neg?, evIdx, evBi, evIsi, truth, asL, asS, cont, asInt, R.fresh, bindP, bindPs, bindI, R.finish, frz, wipeE, R.isNon, okw, okm, evMe, sky, tky, evSlc, evRev, bnd, walk, items, evCol, dget, dput, storeSub, intL, intT, bls, pairKV, keyU, keysU, mulOk, dat, mapO, nomut, nomuts, lk, biF, D0, hlt', SZ, mulOk]
    exact (if_pos rfl).trans (run_rt b rfl)
end K30

set_option Elab.async false
set_option linter.all false
set_option maxRecDepth 100000
set_option maxHeartbeats 4000000
namespace K30
open PySem L2 R
def srtU : U → Int
  | .non => 0
  | .bl _ => 1
  | .int _ => 2
  | .str _ => 3
  | .tup _ => 4
  | .lst _ => 5
  | _ => 6
theorem sort_pl (k : Nat) {B d : Nat} {u : U} (h : Pl B d u) (μ : Mu) : runF defs (k + 1) 23 [u] μ = some (.int (srtU u), μ) := by
  rw [run__law_sort]
  cases h <;> simp [b__law_sort, exL, exS, evalE, evalL, evalB, evBin, evCmp, evEq, evIn, evLt, neg?, evIdx, evBi, evIsi, truth, asL, asS, cont, asInt, R.fresh, bindP, bindPs, bindI, R.finish, frz, wipeE, R.isNon, okw, okm, evMe, sky, tky, evSlc, evRev, bnd, walk, items, evCol, dget, dput, storeSub, intL, intT, bls, pairKV, keyU, keysU, mulOk, dat, mapO, nomut, nomuts, lk, biF, D0, endO, srtU]
theorem like_pl {B : Nat} (hB : B ≤ SZ) {d : Nat} {u : U} (h : Pl B d u) : ∀ (k : Nat) (μ : Mu), d ≤ D0 → runF defs (k + d + 2) 24 [u, u] μ = some (.bl true, μ) := by
  have flat : ∀ (u : U) (k : Nat) (μ : Mu), Pl B 0 u → runF defs (k + 2) 24 [u, u] μ = some (.bl true, μ) := fun u k μ h => by
    rw [run__law_like]
    have s := sort_pl k h μ
    have e := eq_self μ h (by decide)
    have n6 : srtU u ≠ 6 ∧ srtU u ≠ 4 ∧ srtU u ≠ 5 := by cases h <;> simp [srtU]
    have e6 : (srtU u == 6) = false := by simpa using n6.1
    have e4 : PyData.eqv (.int 4) (.int (srtU u)) = false := by simp [PyData.eqv]; intro z; exact n6.2.1 z.symm
    have e5 : PyData.eqv (.int 5) (.int (srtU u)) = false := by simp [PyData.eqv]; intro z; exact n6.2.2 z.symm
    have e6' : PyData.eqv (.int (srtU u)) (.int 6) = false := by simp [PyData.eqv]; exact n6.1
    have er : PyData.eqv (.int (srtU u)) (.int (srtU u)) = true := by simp [PyData.eqv]
    simp only [evEq] at e
    simp [b__law_like, s, evalE, evalL, evalB, evCmp, evEq, neg?, dat_int, er, e6', exL, exS, truth, evIn, cont, SZ, D0, dat, mapO, e4, e5]
    simp only [D0] at e
    simp [e, endO, R.finish, frz]
  induction h with
  | non d => intro k μ _; exact flat _ (k + d) μ (.non 0)
  | bl d b => intro k μ _; exact flat _ (k + d) μ (.bl 0 b)
  | int d i => intro k μ _; exact flat _ (k + d) μ (.int 0 i)
  | str d x => intro k μ _; exact flat _ (k + d) μ (.str 0 x)
  | @tup d xs hz h ih =>
    intro k μ hd
    rw [show k + (d + 1) + 2 = (k + d + 2) + 1 by omega, run__law_like]
    have s := sort_pl (k + d + 1) (Pl.tup hz h) μ
    rw [show k + d + 1 + 1 = k + d + 2 by omega] at s
    have c : evalE (runF defs (k + d + 2)) μ.length c__law_like_0 [some (.tup xs), some (.tup xs), some (.int 4), none, none] μ = some (.lst [], μ) := by
      have e : zips xs xs = xs.map fun u => .tup [u, u] := by
        have := zip_enc id id xs xs
        rw [List.map_id] at this
        rw [this]
        clear this s h hz ih
        induction xs with
        | nil => rfl
        | cons x xs ih => simpa using ih
      refine (ev_comp (us := [.tup xs, .tup xs]) (μ1 := μ) (xs := xs.map fun u => .tup [u, u]) (ev_l2 (ev_var rfl) (ev_var rfl)) (by simp only [walk, e]) (compL_filter (enc := fun u => U.tup [u, u]) (g := id) (p := fun _ => false) (fun u hu => ?_) (by simp; omega))).trans (by simp [R.fresh])
      exact cs_no (v := .bl false) rfl (ev_not (d := true) (ev_call (ev_l2 (ev_var rfl) (ev_var rfl)) (ih u hu k μ (by omega))) rfl) rfl
    simp only [srtU] at s
    have sz2 : 2 ≤ SZ := by decide
    simp [b__law_like, sz2, s, c, exL, exS, evalE, evalL, evalB, evBin, evCmp, evEq, evIn, evLt, neg?, evIdx, evBi, evIsi, truth, asL, asS, cont, asInt, R.fresh, bindP, bindPs, bindI, R.finish, frz, wipeE, R.isNon, okw, okm, evMe, sky, tky, evSlc, evRev, bnd, walk, items, evCol, dget, dput, storeSub, intL, intT, bls, pairKV, keyU, keysU, mulOk, dat, mapO, nomut, nomuts, lk, biF, D0, endO, PyData.eqv, PyData.eqvAll]
  | @lst d xs hz h ih =>
    intro k μ hd
    rw [show k + (d + 1) + 2 = (k + d + 2) + 1 by omega, run__law_like]
    have s := sort_pl (k + d + 1) (Pl.lst hz h) μ
    rw [show k + d + 1 + 1 = k + d + 2 by omega] at s
    have c : evalE (runF defs (k + d + 2)) μ.length c__law_like_0 [some (.lst xs), some (.lst xs), some (.int 5), none, none] μ = some (.lst [], μ) := by
      have e : zips xs xs = xs.map fun u => .tup [u, u] := by
        have := zip_enc id id xs xs
        rw [List.map_id] at this
        rw [this]
        clear this s h hz ih
        induction xs with
        | nil => rfl
        | cons x xs ih => simpa using ih
      refine (ev_comp (us := [.lst xs, .lst xs]) (μ1 := μ) (xs := xs.map fun u => .tup [u, u]) (ev_l2 (ev_var rfl) (ev_var rfl)) (by simp only [walk, e]) (compL_filter (enc := fun u => U.tup [u, u]) (g := id) (p := fun _ => false) (fun u hu => ?_) (by simp; omega))).trans (by simp [R.fresh])
      exact cs_no (v := .bl false) rfl (ev_not (d := true) (ev_call (ev_l2 (ev_var rfl) (ev_var rfl)) (ih u hu k μ (by omega))) rfl) rfl
    simp only [srtU] at s
    have sz2 : 2 ≤ SZ := by decide
    simp [b__law_like, sz2, s, c, exL, exS, evalE, evalL, evalB, evBin, evCmp, evEq, evIn, evLt, neg?, evIdx, evBi, evIsi, truth, asL, asS, cont, asInt, R.fresh, bindP, bindPs, bindI, R.finish, frz, wipeE, R.isNon, okw, okm, evMe, sky, tky, evSlc, evRev, bnd, walk, items, evCol, dget, dput, storeSub, intL, intT, bls, pairKV, keyU, keysU, mulOk, dat, mapO, nomut, nomuts, lk, biF, D0, endO, PyData.eqv, PyData.eqvAll]
theorem some_ok (k : Nat) {c : U} (ρ : Mu) (C : Cup c) {u : U} {xs : List U} (hu : u = .lst xs ∨ u = .tup xs) (hf : frz (ρ.length + 1) (c :: ρ) D0 u = some u → True) (h1 : 1 ≤ xs.length) (h2 : xs.length < 18446744073709551616) (hfr : ∀ x ∈ xs, ∀ c', frz (ρ.length + 1) (c' :: ρ) D0 x = some x) :
    ∃ (v : U) (c' : U), runF defs (k + 2) 22 [.ob 0, u] (c :: ρ) = some (v, c' :: ρ) ∧ v ∈ xs ∧ Cup c' := by
  obtain ⟨r, c', e, hr, C'⟩ := roll_ok k ρ C h1 h2
  refine ⟨xs[r], c', ?_, List.getElem_mem hr, C'⟩
  rw [run__law_some]
  have b : exL (runF defs (k + 1)) (ρ.length + 1) b__law_some [some (.ob 0), some u] (c :: ρ) = some (.rt xs[r] (c' :: ρ)) := by
    unfold b__law_some
    refine ex_ret (ev_idx (ev_var rfl) (ev_call (us := [.ob 0, I xs.length]) (ev_l2 (ev_var rfl) (ev_bi (ev_l1 (ev_var rfl)) ?_)) e) ?_)
    · rcases hu with rfl | rfl <;> rfl
    · rcases hu with rfl | rfl <;> exact atI_of (by simp [hr])
  exact (if_pos rfl).trans (run_rt b (fin_cut (hfr _ (List.getElem_mem hr) _) (by simp)))
def isW (lo hi : Int) : U → Bool
  | .int i => decide (lo ≤ i ∧ i ≤ hi)
  | _ => false
def isT (lo hi : Nat) : U → Bool
  | .tup xs => decide (lo ≤ xs.length ∧ xs.length ≤ hi)
  | _ => false
theorem whole_pl (k : Nat) {B d : Nat} {u : U} (h : Pl B d u) (lo hi : Int) (μ : Mu) : runF defs (k + 1) 0 [u, .int lo, .int hi] μ = some (.bl (isW lo hi u), μ) := by
  rw [run_is_whole]
  cases h with
  | int d i =>
    by_cases h1 : i < lo
    · have : isW lo hi (.int i) = false := by simp [isW]; omega
      rw [this]
      simp [b_is_whole, h1, exL, exS, evalE, evalL, evalB, evBin, evCmp, evEq, evIn, evLt, neg?, evIdx, evBi, evIsi, truth, asL, asS, cont, asInt, R.fresh, bindP, bindPs, bindI, R.finish, frz, wipeE, R.isNon, okw, okm, evMe, sky, tky, evSlc, evRev, bnd, walk, items, evCol, dget, dput, storeSub, intL, intT, bls, pairKV, keyU, keysU, mulOk, dat, mapO, nomut, nomuts, lk, biF, D0, endO]
    · by_cases h2 : hi < i
      · have : isW lo hi (.int i) = false := by simp [isW]; omega
        rw [this]
        simp [b_is_whole, h1, h2, exL, exS, evalE, evalL, evalB, evBin, evCmp, evEq, evIn, evLt, neg?, evIdx, evBi, evIsi, truth, asL, asS, cont, asInt, R.fresh, bindP, bindPs, bindI, R.finish, frz, wipeE, R.isNon, okw, okm, evMe, sky, tky, evSlc, evRev, bnd, walk, items, evCol, dget, dput, storeSub, intL, intT, bls, pairKV, keyU, keysU, mulOk, dat, mapO, nomut, nomuts, lk, biF, D0, endO]
      · have : isW lo hi (.int i) = true := by simp [isW]; omega
        rw [this]
        simp [b_is_whole, h1, h2, exL, exS, evalE, evalL, evalB, evBin, evCmp, evEq, evIn, evLt, neg?, evIdx, evBi, evIsi, truth, asL, asS, cont, asInt, R.fresh, bindP, bindPs, bindI, R.finish, frz, wipeE, R.isNon, okw, okm, evMe, sky, tky, evSlc, evRev, bnd, walk, items, evCol, dget, dput, storeSub, intL, intT, bls, pairKV, keyU, keysU, mulOk, dat, mapO, nomut, nomuts, lk, biF, D0, endO]
  | _ => simp [b_is_whole, exL, exS, evalE, evalL, evalB, evBin, evCmp, evEq, evIn, evLt, neg?, evIdx, evBi, evIsi, truth, asL, asS, cont, asInt, R.fresh, bindP, bindPs, bindI, R.finish, frz, wipeE, R.isNon, okw, okm, evMe, sky, tky, evSlc, evRev, bnd, walk, items, evCol, dget, dput, storeSub, intL, intT, bls, pairKV, keyU, keysU, mulOk, dat, mapO, nomut, nomuts, lk, biF, D0, endO, isW]
theorem tuple_pl (k : Nat) {B d : Nat} {u : U} (h : Pl B d u) (lo hi : Nat) (μ : Mu) : runF defs (k + 1) 1 [u, I lo, I hi] μ = some (.bl (isT lo hi u), μ) := by
  rw [run_is_tuple_of]
  cases h with
  | @tup d xs hz h =>
    by_cases h1 : (xs.length : Int) < lo
    · have : isT lo hi (.tup xs) = false := by simp [isT]; omega
      rw [this]
      have h1' : xs.length < lo := by omega
      simp [b_is_tuple_of, h1', exL, exS, evalE, evalL, evalB, evBin, evCmp, evEq, evIn, evLt, neg?, evIdx, evBi, evIsi, truth, asL, asS, cont, asInt, R.fresh, bindP, bindPs, bindI, R.finish, frz, wipeE, R.isNon, okw, okm, evMe, sky, tky, evSlc, evRev, bnd, walk, items, evCol, dget, dput, storeSub, intL, intT, bls, pairKV, keyU, keysU, mulOk, dat, mapO, nomut, nomuts, lk, biF, D0, endO]
    · by_cases h2 : (hi : Int) < xs.length
      · have : isT lo hi (.tup xs) = false := by simp [isT]; omega
        rw [this]
        have h1' : ¬ xs.length < lo := by omega
        have h2' : hi < xs.length := by omega
        simp [b_is_tuple_of, h1', h2', exL, exS, evalE, evalL, evalB, evBin, evCmp, evEq, evIn, evLt, neg?, evIdx, evBi, evIsi, truth, asL, asS, cont, asInt, R.fresh, bindP, bindPs, bindI, R.finish, frz, wipeE, R.isNon, okw, okm, evMe, sky, tky, evSlc, evRev, bnd, walk, items, evCol, dget, dput, storeSub, intL, intT, bls, pairKV, keyU, keysU, mulOk, dat, mapO, nomut, nomuts, lk, biF, D0, endO]
      · have : isT lo hi (.tup xs) = true := by simp [isT]; omega
        rw [this]
        have h1' : ¬ xs.length < lo := by omega
        have h2' : ¬ hi < xs.length := by omega
        simp [b_is_tuple_of, h1', h2', exL, exS, evalE, evalL, evalB, evBin, evCmp, evEq, evIn, evLt, neg?, evIdx, evBi, evIsi, truth, asL, asS, cont, asInt, R.fresh, bindP, bindPs, bindI, R.finish, frz, wipeE, R.isNon, okw, okm, evMe, sky, tky, evSlc, evRev, bnd, walk, items, evCol, dget, dput, storeSub, intL, intT, bls, pairKV, keyU, keysU, mulOk, dat, mapO, nomut, nomuts, lk, biF, D0, endO]
  | _ => simp [b_is_tuple_of, exL, exS, evalE, evalL, evalB, evBin, evCmp, evEq, evIn, evLt, neg?, evIdx, evBi, evIsi, truth, asL, asS, cont, asInt, R.fresh, bindP, bindPs, bindI, R.finish, frz, wipeE, R.isNon, okw, okm, evMe, sky, tky, evSlc, evRev, bnd, walk, items, evCol, dget, dput, storeSub, intL, intT, bls, pairKV, keyU, keysU, mulOk, dat, mapO, nomut, nomuts, lk, biF, D0, endO, isT]
theorem pl_pU {B d : Nat} (p : Nat × Nat) (hB : 2 ≤ B) : Pl B (d + 1) (pU p) := .tup (by simpa using hB) fun u hu => by
  simp only [List.mem_cons, List.not_mem_nil, or_false] at hu
  rcases hu with rfl | rfl <;> exact .int _ _
theorem pl_es {B d : Nat} {es : List (Nat × Nat)} (hB : 2 ≤ B) (h : es.length ≤ B) : Pl B (d + 2) (.tup (es.map pU)) := .tup (by simpa using h) fun u hu => by
  obtain ⟨p, _, rfl⟩ := List.mem_map.mp hu
  exact pl_pU p hB
end K30

set_option Elab.async false
set_option linter.all false
set_option maxRecDepth 100000
set_option maxHeartbeats 4000000
namespace K30
open PySem L2 R
/-! ### doored nets, plainly -/
abbrev Net := List (List (Nat × Nat))
def row (N : Net) (h : Nat) : List (Nat × Nat) := N[h]?.getD []
def look (L : List Nat) (r : List (Nat × Nat)) : List Nat := (r.map (·.1)).foldl insN L
def bstep (N : Net) (L : List Nat) (k : Nat) : List Nat := match L[k]? with
  | some h => look L (row N h)
  | none => L
def bfs (N : Net) (s : Nat) : Nat → List Nat
  | 0 => [s]
  | k + 1 => bstep N (bfs N s k) k
theorem insN_pre (L : List Nat) (x : Nat) : ∃ t, insN L x = L ++ t := by
  unfold insN
  split
  · exact ⟨[], by simp⟩
  · exact ⟨[x], rfl⟩
theorem fold_pre : ∀ (l L : List Nat), ∃ t, l.foldl insN L = L ++ t
  | [], L => ⟨[], by simp⟩
  | x :: l, L => by
    obtain ⟨t, e⟩ := insN_pre L x
    obtain ⟨t2, e2⟩ := fold_pre l (insN L x)
    exact ⟨t ++ t2, by rw [List.foldl_cons, e2, e, List.append_assoc]⟩
theorem look_pre (L : List Nat) (r : List (Nat × Nat)) : ∃ t, look L r = L ++ t := fold_pre _ _
theorem look_mem {L : List Nat} {r : List (Nat × Nat)} {x : Nat} : x ∈ look L r ↔ x ∈ L ∨ ∃ p ∈ r, p.1 = x := by
  unfold look
  rw [foldl_insN_mem, List.mem_map]
theorem look_nd {L : List Nat} (r : List (Nat × Nat)) (h : L.Nodup) : (look L r).Nodup := foldl_insN_nd _ _ h
theorem bstep_pre (N : Net) (L : List Nat) (k : Nat) : ∃ t, bstep N L k = L ++ t := by
  unfold bstep
  split
  · exact look_pre _ _
  · exact ⟨[], by simp⟩
theorem bfs_pre (N : Net) (s k : Nat) : ∀ j, ∃ t, bfs N s (k + j) = bfs N s k ++ t
  | 0 => ⟨[], by simp⟩
  | j + 1 => by
    obtain ⟨t, e⟩ := bfs_pre N s k j
    obtain ⟨t2, e2⟩ := bstep_pre N (bfs N s (k + j)) (k + j)
    exact ⟨t ++ t2, by rw [show k + (j + 1) = k + j + 1 from rfl, bfs, e2, e, List.append_assoc]⟩
theorem bfs_nd (N : Net) (s : Nat) : ∀ k, (bfs N s k).Nodup
  | 0 => by simp [bfs]
  | k + 1 => by
    rw [bfs]
    unfold bstep
    split
    · exact look_nd _ (bfs_nd N s k)
    · exact bfs_nd N s k
theorem bfs_sub {N : Net} {s : Nat} {S : Nat → Prop} (h0 : S s) (hc : ∀ x, S x → ∀ p ∈ row N x, S p.1) : ∀ k, ∀ x ∈ bfs N s k, S x
  | 0, x, hx => by
    simp [bfs] at hx
    exact hx ▸ h0
  | k + 1, x, hx => by
    rw [bfs] at hx
    unfold bstep at hx
    split at hx
    · rename_i h e
      rcases look_mem.mp hx with z | ⟨p, hp, rfl⟩
      · exact bfs_sub h0 hc k x z
      · exact hc h (bfs_sub h0 hc k h (List.mem_of_getElem? e)) p hp
    · exact bfs_sub h0 hc k x hx
theorem bfs_done {N : Net} {s : Nat} : ∀ k i x, i < k → (bfs N s k)[i]? = some x → ∀ p ∈ row N x, p.1 ∈ bfs N s k
  | 0, i, x, hi, _, _, _ => by omega
  | k + 1, i, x, hi, hx, p, hp => by
    by_cases hik : i = k
    · subst hik
      rw [bfs] at hx ⊢
      unfold bstep at hx ⊢
      cases e : (bfs N s i)[i]? with
      | none =>
        rw [e] at hx
        simp only at hx
        rw [e] at hx
        cases hx
      | some h =>
        rw [e] at hx
        simp only at hx ⊢
        have hl : i < (bfs N s i).length := (List.getElem?_eq_some_iff.mp e).1
        obtain ⟨t, et⟩ := look_pre (bfs N s i) (row N h)
        rw [et, List.getElem?_append_left hl, e] at hx
        cases hx
        exact look_mem.mpr (.inr ⟨p, hp, rfl⟩)
    · obtain ⟨t, e⟩ := bfs_pre N s k 1
      have hk : i < k := by omega
      by_cases hl : i < (bfs N s k).length
      · rw [e, List.getElem?_append_left hl] at hx
        have := bfs_done k i x hk hx p hp
        rw [e]
        exact List.mem_append_left _ this
      · -- nothing is added behind the end
        have hn : (bfs N s k)[k]? = none := List.getElem?_eq_none_iff.mpr (by omega)
        have e2 : bfs N s (k + 1) = bfs N s k := by
          rw [bfs]
          unfold bstep
          rw [hn]
        rw [e2] at hx
        rw [List.getElem?_eq_none_iff.mpr (by omega)] at hx
        cases hx
theorem bfs_stop {N : Net} {s k : Nat} (h : (bfs N s k).length ≤ k) : ∀ j, bfs N s (k + j) = bfs N s k
  | 0 => rfl
  | j + 1 => by
    have ih := bfs_stop h j
    rw [show k + (j + 1) = k + j + 1 from rfl, bfs]
    unfold bstep
    rw [ih, List.getElem?_eq_none_iff.mpr (by omega)]
structure Lnk (N : Net) : Prop where
  n1 : 1 ≤ N.length
  n10 : N.length ≤ 10
  r6 : ∀ r ∈ N, r.length ≤ 6
  link : ∀ (h i : Nat) (p : Nat × Nat), (row N h)[i]? = some p → (row N p.1)[p.2]? = some (h, i)
structure NetOk (N : Net) : Prop extends Lnk N where
  conn : (bfs N 0 N.length).length = N.length
theorem row_lt {N : Net} {h i : Nat} {p : Nat × Nat} (e : (row N h)[i]? = some p) : h < N.length := by
  unfold row at e
  rcases Nat.lt_or_ge h N.length with z | z
  · exact z
  · rw [List.getElem?_eq_none_iff.mpr z] at e
    simp at e
theorem row_mem {N : Net} {h : Nat} (hh : h < N.length) : row N h ∈ N := by
  unfold row
  rw [List.getElem?_eq_getElem hh]
  exact List.getElem_mem hh
theorem row_get {N : Net} {h : Nat} (hh : h < N.length) : N[h]? = some (row N h) := by
  unfold row
  rw [List.getElem?_eq_getElem hh]
  rfl
theorem Lnk.lt {N : Net} (K : Lnk N) {h : Nat} {p : Nat × Nat} (hp : p ∈ row N h) : p.1 < N.length := by
  obtain ⟨i, hi⟩ := List.mem_iff_getElem?.mp hp
  exact row_lt (K.link h i p hi)
theorem Lnk.six {N : Net} (K : Lnk N) {h : Nat} (hh : h < N.length) : (row N h).length ≤ 6 := K.r6 _ (row_mem hh)
theorem lt_len {n : Nat} {l : List Nat} (nd : l.Nodup) (h : ∀ x ∈ l, x < n) : l.length ≤ n := by
  have := sub_len (q := List.range n) nd fun x hx => by simpa using h x hx
  simpa using this
theorem full_mem {n : Nat} {l : List Nat} (nd : l.Nodup) (h : ∀ x ∈ l, x < n) (hl : l.length = n) {x : Nat} (hx : x < n) : x ∈ l := by
  rcases Classical.em (x ∈ l) with z | z
  · exact z
  · exfalso
    have := lt_len (n := n) (l := x :: l) (List.nodup_cons.mpr ⟨z, nd⟩) fun y hy => by
      rcases List.mem_cons.mp hy with rfl | hy
      · exact hx
      · exact h y hy
    simp at this
    omega
section
variable {N : Net} (K : Lnk N)
include K
theorem Lnk.bfs_lt {s : Nat} (hs : s < N.length) (k : Nat) : ∀ x ∈ bfs N s k, x < N.length := bfs_sub (S := fun x => x < N.length) hs (fun x _ p hp => K.lt hp) k
theorem Lnk.bfs_len {s : Nat} (hs : s < N.length) (k : Nat) : (bfs N s k).length ≤ N.length := lt_len (bfs_nd N s k) (K.bfs_lt hs k)
theorem Lnk.closed {s : Nat} (hs : s < N.length) : ∀ x ∈ bfs N s N.length, ∀ p ∈ row N x, p.1 ∈ bfs N s N.length := fun x hx p hp => by
  obtain ⟨i, hi⟩ := List.mem_iff_getElem?.mp hx
  have h1 := (List.getElem?_eq_some_iff.mp hi).1
  have h2 := K.bfs_len hs N.length
  exact bfs_done N.length i x (by omega) hi p hp
end
section
variable {N : Net} (K : NetOk N)
include K
theorem NetOk.all {s : Nat} (hs : s < N.length) : (bfs N s N.length).length = N.length := by
  have n0 : 0 < N.length := K.n1
  have c := K.closed hs
  have a0 : ∀ x, x < N.length → x ∈ bfs N 0 N.length := fun x hx => full_mem (bfs_nd N 0 _) (K.bfs_lt n0 _) K.conn hx
  have ss : s ∈ bfs N s N.length := by
    obtain ⟨t, e⟩ := bfs_pre N s 0 N.length
    rw [Nat.zero_add] at e
    rw [e]
    simp [bfs]
  have z : 0 ∈ bfs N s N.length := by
    rcases Classical.em (0 ∈ bfs N s N.length) with z | z
    · exact z
    · exfalso
      refine bfs_sub (S := fun x => x ∉ bfs N s N.length) z (fun x hx p hp hq => hx ?_) N.length s (a0 s hs) ss
      obtain ⟨i, hi⟩ := List.mem_iff_getElem?.mp hp
      exact c _ hq _ (List.mem_of_getElem? (K.link x i p hi))
  have every := bfs_sub (N := N) (s := 0) (S := fun x => x ∈ bfs N s N.length) z c N.length
  have h1 := K.bfs_len hs N.length
  have h2 := sub_len (bfs_nd N 0 N.length) fun x hx => every x hx
  have := K.conn
  omega
theorem NetOk.mem {s : Nat} (hs : s < N.length) {x : Nat} (hx : x < N.length) : x ∈ bfs N s N.length := full_mem (bfs_nd N s _) (K.bfs_lt hs _) (K.all hs) hx
end
/-! ### told from a house -/
def pos : List Nat → Nat → Nat
  | [], _ => 0
  | a :: l, x => if a = x then 0 else pos l x + 1
theorem pos_get : ∀ {L : List Nat} {x : Nat}, x ∈ L → L[pos L x]? = some x
  | a :: l, x, h => by
    rw [pos]
    split
    · rename_i e; subst e; rfl
    · rename_i e
      rcases List.mem_cons.mp h with z | z
      · exact absurd z.symm e
      · rw [List.getElem?_cons_succ]
        exact pos_get z
theorem pos_at : ∀ {L : List Nat} {i x : Nat}, L.Nodup → L[i]? = some x → pos L x = i
  | a :: l, 0, x, nd, h => by
    simp at h
    rw [pos, if_pos h]
  | a :: l, i + 1, x, nd, h => by
    rw [List.getElem?_cons_succ] at h
    obtain ⟨n1, n2⟩ := List.nodup_cons.mp nd
    rw [pos, if_neg (fun e : a = x => n1 (e.symm ▸ List.mem_of_getElem? h)), pos_at n2 h]
theorem pos_inj {L : List Nat} {x y : Nat} (hx : x ∈ L) (hy : y ∈ L) (h : pos L x = pos L y) : x = y := by
  have a := pos_get hx
  rw [h, pos_get hy] at a
  exact (Option.some.inj a).symm
theorem pos_lt {L : List Nat} {x : Nat} (hx : x ∈ L) : pos L x < L.length := (List.getElem?_eq_some_iff.mp (pos_get hx)).1
theorem pos_take {L t : List Nat} (nd : (L ++ t).Nodup) : L.map (pos (L ++ t)) = List.range L.length := by
  apply List.ext_getElem?
  intro i
  rw [List.getElem?_map]
  by_cases hi : i < L.length
  · have e : (L ++ t)[i]? = some L[i] := by rw [List.getElem?_append_left hi, List.getElem?_eq_getElem hi]
    rw [List.getElem?_eq_getElem hi, Option.map_some, pos_at nd e, List.getElem?_range hi]
  · rw [List.getElem?_eq_none_iff.mpr (by omega), List.getElem?_eq_none_iff.mpr (by simp; omega)]
    rfl
def mk (M : List Nat) (h : Nat) : Nat := M[h]?.getD 0
def ordr (N : Net) (s : Nat) : List Nat := bfs N s N.length
def tN (N : Net) (s : Nat) : Net := (ordr N s).map fun o => (row N o).map fun p => (pos (ordr N s) p.1, p.2)
def tM (N : Net) (s : Nat) (M : List Nat) : List Nat := (ordr N s).map (mk M)
section
variable {N : Net} (K : NetOk N) {s : Nat} (hs : s < N.length)
include K hs
theorem tN_len : (tN N s).length = N.length := by
  unfold tN
  rw [List.length_map]
  exact K.all hs
theorem ord_nd : (ordr N s).Nodup := bfs_nd _ _ _
theorem ord_len : (ordr N s).length = N.length := K.all hs
theorem ord_mem {x : Nat} (hx : x < N.length) : x ∈ ordr N s := K.mem hs hx
theorem ord_lt {x : Nat} (hx : x ∈ ordr N s) : x < N.length := K.bfs_lt hs _ x hx
theorem tN_row {x : Nat} (hx : x < N.length) : row (tN N s) (pos (ordr N s) x) = (row N x).map fun p => (pos (ordr N s) p.1, p.2) := by
  unfold row tN
  rw [List.getElem?_map, pos_get (ord_mem K hs hx)]
  rfl
theorem tN_bfs : ∀ k, bfs (tN N s) 0 k = (bfs N s k).map (pos (ordr N s))
  | 0 => by
    obtain ⟨t, e⟩ := bfs_pre N s 0 N.length
    rw [Nat.zero_add] at e
    have : pos (ordr N s) s = 0 := by
      unfold ordr
      rw [e]
      simp [bfs, pos]
    simp [bfs, this]
  | k + 1 => by
    rw [bfs, bfs, tN_bfs k]
    unfold bstep
    rw [List.getElem?_map]
    cases e : (bfs N s k)[k]? with
    | none => rfl
    | some o =>
      have ho := K.bfs_lt hs k o (List.mem_of_getElem? e)
      simp only [Option.map_some]
      rw [tN_row K hs ho]
      unfold look
      rw [List.map_map]
      have inj : ∀ (l : List (Nat × Nat)) (A : List Nat), (∀ p ∈ l, p.1 < N.length) → (∀ x ∈ A, x < N.length) → (l.map ((fun x => x.1) ∘ fun p => (pos (ordr N s) p.1, p.2))).foldl insN (A.map (pos (ordr N s))) = ((l.map fun x => x.1).foldl insN A).map (pos (ordr N s)) := by
        intro l
        induction l with
        | nil => intro A _ _; rfl
        | cons p l ih =>
          intro A h1 h2
          have hp := h1 p (by simp)
          have one : insN (A.map (pos (ordr N s))) (pos (ordr N s) p.1) = (insN A p.1).map (pos (ordr N s)) := by
            unfold insN
            by_cases c : p.1 ∈ A
            · rw [if_pos c, if_pos (List.mem_map.mpr ⟨_, c, rfl⟩)]
            · rw [if_neg c, if_neg, List.map_append, List.map_singleton]
              intro z
              obtain ⟨y, hy, e⟩ := List.mem_map.mp z
              exact c (pos_inj (ord_mem K hs (h2 y hy)) (ord_mem K hs hp) e ▸ hy)
          simp only [List.map_cons, List.foldl_cons, Function.comp]
          rw [one]
          exact ih (insN A p.1) (fun q hq => h1 q (by simp [hq])) fun x hx => by
            rcases insN_mem.mp hx with z | z
            · exact h2 x z
            · exact z ▸ hp
      exact inj _ _ (fun p hp => K.lt hp) (K.bfs_lt hs k)
theorem tN_range (k : Nat) : bfs (tN N s) 0 k = List.range (bfs N s k).length := by
  rw [tN_bfs K hs]
  have nd := ord_nd K hs
  by_cases hk : k ≤ N.length
  · obtain ⟨t, e⟩ := bfs_pre N s k (N.length - k)
    rw [show k + (N.length - k) = N.length by omega] at e
    unfold ordr at nd ⊢
    rw [e] at nd ⊢
    exact pos_take nd
  · have st := bfs_stop (N := N) (s := s) (k := N.length) (K.bfs_len hs _) (k - N.length)
    rw [show N.length + (k - N.length) = k by omega] at st
    rw [st]
    unfold ordr at nd ⊢
    have := pos_take (L := bfs N s N.length) (t := []) (by simpa using nd)
    simpa using this
theorem tN_ord : ordr (tN N s) 0 = List.range N.length := by
  unfold ordr
  rw [tN_len K hs, tN_range K hs, K.all hs]
theorem tN_ok : NetOk (tN N s) := by
  have tl := tN_len K hs
  refine ⟨⟨by rw [tl]; exact K.n1, by rw [tl]; exact K.n10, fun r hr => ?_, fun h i p e => ?_⟩, ?_⟩
  · obtain ⟨o, ho, rfl⟩ := List.mem_map.mp hr
    rw [List.length_map]
    exact K.six (ord_lt K hs ho)
  · have hh := row_lt e
    rw [tl] at hh
    have ho : (ordr N s)[h]? = some ((ordr N s)[h]'(by rw [ord_len K hs]; exact hh)) := List.getElem?_eq_getElem _
    generalize (ordr N s)[h]'(by rw [ord_len K hs]; exact hh) = o at ho
    have hp : pos (ordr N s) o = h := pos_at (ord_nd K hs) ho
    have on := ord_lt K hs (List.mem_of_getElem? ho)
    rw [← hp, tN_row K hs on, List.getElem?_map] at e
    cases e1 : (row N o)[i]? with
    | none => rw [e1] at e; cases e
    | some q =>
      rw [e1] at e
      cases e
      have l := K.link o i q e1
      simp only
      rw [tN_row K hs (row_lt l), List.getElem?_map, l]
      simp [hp]
  · rw [tl, tN_range K hs, K.all hs, List.length_range]
theorem tN_again : tN (tN N s) 0 = tN N s := by
  have T := tN_ok K hs
  have tl := tN_len K hs
  have po : ∀ x, x < N.length → pos (List.range N.length) x = x := fun x hx => pos_at List.nodup_range (List.getElem?_range hx)
  have e0 : tN (tN N s) 0 = (List.range N.length).map fun o => (row (tN N s) o).map fun p => (pos (List.range N.length) p.1, p.2) := by
    show (ordr (tN N s) 0).map _ = _
    rw [tN_ord K hs]
  rw [e0]
  apply List.ext_getElem?
  intro i
  rw [List.getElem?_map]
  by_cases hi : i < N.length
  · rw [List.getElem?_range hi, Option.map_some, row_get (by rw [tl]; exact hi)]
    congr 1
    have : ∀ p ∈ row (tN N s) i, (pos (List.range N.length) p.1, p.2) = id p := fun p hp => by
      have := T.lt hp
      rw [tl] at this
      rw [po _ this]
      rfl
    rw [List.map_congr_left this, List.map_id]
  · rw [List.getElem?_eq_none_iff.mpr (by simp; omega), List.getElem?_eq_none_iff.mpr (by rw [tl]; omega)]
    rfl
theorem tM_at {M : List Nat} {x : Nat} (hx : x < N.length) : mk (tM N s M) (pos (ordr N s) x) = mk M x := by
  show ((tM N s M)[pos (ordr N s) x]?).getD 0 = _
  unfold tM
  rw [List.getElem?_map, pos_get (ord_mem K hs hx)]
  rfl
theorem tM_again {M : List Nat} : tM (tN N s) 0 (tM N s M) = tM N s M := by
  have e0 : tM (tN N s) 0 (tM N s M) = (List.range N.length).map (mk (tM N s M)) := by
    show (ordr (tN N s) 0).map _ = _
    rw [tN_ord K hs]
  have tl : (tM N s M).length = N.length := by
    unfold tM
    rw [List.length_map]
    exact ord_len K hs
  rw [e0]
  apply List.ext_getElem?
  intro i
  rw [List.getElem?_map]
  by_cases hi : i < N.length
  · rw [List.getElem?_range hi, Option.map_some, List.getElem?_eq_getElem (by rw [tl]; exact hi)]
    unfold mk
    rw [List.getElem?_eq_getElem (by rw [tl]; exact hi)]
    rfl
  · rw [List.getElem?_eq_none_iff.mpr (by simp; omega), List.getElem?_eq_none_iff.mpr (by rw [tl]; omega)]
    rfl
end
/-! ### stories and walks -/
abbrev seeU (b m l : Nat) : U := .tup [I b, I m, I l]
def stL (N : Net) (M : List Nat) : Nat → List Nat → List U
  | _, [] => []
  | h, d :: ds => match (row N h)[d]? with
    | some p => seeU p.2 (mk M p.1) (row N p.1).length :: stL N M p.1 ds
    | none => [.non]
def story (N : Net) (M : List Nat) (h : Nat) (ds : List Nat) : U := .tup (.tup [I (mk M h), I (row N h).length] :: stL N M h ds)
theorem story_told {N : Net} (K : NetOk N) {s : Nat} (hs : s < N.length) (M : List Nat) (ds : List Nat) : story (tN N s) (tM N s M) 0 ds = story N M s ds := by
  have p0 : pos (ordr N s) s = 0 := by
    obtain ⟨t, e⟩ := bfs_pre N s 0 N.length
    rw [Nat.zero_add] at e
    unfold ordr
    rw [e]
    simp [bfs, pos]
  have main : ∀ (ds : List Nat) (h : Nat), h < N.length → stL (tN N s) (tM N s M) (pos (ordr N s) h) ds = stL N M h ds := by
    intro ds
    induction ds with
    | nil => intro h _; rfl
    | cons d ds ih =>
      intro h hh
      simp only [stL]
      rw [tN_row K hs hh, List.getElem?_map]
      cases e : (row N h)[d]? with
      | none => rfl
      | some p =>
        have hp := K.lt (List.mem_of_getElem? e)
        simp only [Option.map_some]
        rw [tM_at K hs hp, tN_row K hs hp, List.length_map, ih p.1 hp]
  unfold story
  have r := tN_row K hs hs
  have m := main ds s hs
  have t := tM_at K hs (M := M) hs
  rw [p0] at r m t
  rw [m, t, r, List.length_map]
def wkL (N : Net) : Nat → List Nat → Option (List Nat)
  | _, [] => some []
  | h, d :: ds => match (row N h)[d]? with
    | some p => (wkL N p.1 ds).map (p.1 :: ·)
    | none => none
end K30

set_option Elab.async false
set_option linter.all false
set_option maxRecDepth 100000
set_option maxHeartbeats 4000000
namespace K30
open PySem L2 R
abbrev bU (bs : List Nat) : U := .lst (bs.map I)
abbrev rU (row : List (Nat × Nat)) : U := .tup (row.map pU)
theorem set_last {α : Type} (m : List α) (x y : α) : (m ++ [x]).set m.length y = m ++ [y] := by simp
theorem set_mapI (bs : List Nat) (p v : Nat) : (bs.map I).set p (I v) = (bs.set p v).map I := by simp [List.map_set]
theorem frz_I (m : Nat) (μ : Mu) (k : Nat) (r : List Nat) : mapO (frz m μ k) (r.map I) = some (r.map I) := mapO_map fun x _ => by cases k <;> rfl
theorem frz_bU (m : Nat) (μ : Mu) (k : Nat) (r : List Nat) : frz m μ (k + 1) (bU r) = some (bU r) := by simp only [frz, frz_I]
theorem all_bls2 {α : Type} (p : α → Bool) (l : List α) : mapO asBl (l.map fun x => U.bl (p x)) = some (l.map p) := mapO_map fun _ _ => rfl
theorem ev_all {cal : Nat → List U → Mu → Option (U × Mu)} {n0 : Nat} {σ : R.Env} {μ μ1 : Mu} {a : E} {α : Type} {p : α → Bool} {l : List α} (h : evalE cal n0 a σ μ = some (.lst (l.map fun x => U.bl (p x)), μ1)) : evalE cal n0 (.bi .all [a]) σ μ = some (.bl (l.all p), μ1) := by
  refine ev_bi (ev_l1 h) ?_
  simp only [evBi, bls, asL, all_bls2, Option.map_some]
  congr 2
  induction l with
  | nil => rfl
  | cons a l ih => simp
theorem frz_pl {B d : Nat} {u : U} (h : Pl B d u) (m : Nat) (μ : Mu) : ∀ {k : Nat}, d ≤ k → frz m μ k u = some u := by
  induction h with
  | non => intro k _; cases k <;> rfl
  | bl => intro k _; cases k <;> rfl
  | int => intro k _; cases k <;> rfl
  | str => intro k _; cases k <;> rfl
  | @tup d xs hz h ih =>
    intro k hk
    obtain ⟨e, rfl⟩ : ∃ e, k = e + 1 := ⟨k - 1, by omega⟩
    have m' := mapO_map (f := frz m μ e) (g := id) (h := id) (xs := xs) fun x hx => ih x hx (by omega)
    rw [List.map_id] at m'
    simp only [frz, m']
  | @lst d xs hz h ih =>
    intro k hk
    obtain ⟨e, rfl⟩ : ∃ e, k = e + 1 := ⟨k - 1, by omega⟩
    have m' := mapO_map (f := frz m μ e) (g := id) (h := id) (xs := xs) fun x hx => ih x hx (by omega)
    rw [List.map_id] at m'
    simp only [frz, m']
abbrev lU (l : List Nat) : U := .tup (l.map I)
theorem pl_ints {B d : Nat} {l : List Nat} (h : l.length ≤ B) : Pl B (d + 1) (.tup (l.map I)) ∧ Pl B (d + 1) (.lst (l.map I)) :=
  ⟨.tup (by simpa using h) fun u hu => by obtain ⟨x, _, rfl⟩ := List.mem_map.mp hu; exact .int _ _, .lst (by simpa using h) fun u hu => by obtain ⟨x, _, rfl⟩ := List.mem_map.mp hu; exact .int _ _⟩
theorem map_I_inj {x y : List Nat} (h : x.map I = y.map I) : x = y := List.map_inj_right (fun a b e => by injection e with e; omega) |>.mp h
theorem eq_bU (μ : Mu) (x y : List Nat) : evCmp μ .eq (bU x) (bU y) = some (decide (x = y)) := by
  have ni : ∀ l : List Nat, Ni 1 (bU l) := fun l => .lst fun u hu => by obtain ⟨x, _, rfl⟩ := List.mem_map.mp hu; exact .int _ _
  obtain ⟨b, e, hb⟩ := eq_ni μ (ni x) (ni y) (by decide) (by decide)
  simp only [evCmp]
  rw [e]
  congr 1
  rw [Bool.eq_iff_iff, hb, decide_eq_true_eq, U.lst.injEq]
  exact ⟨map_I_inj, fun z => by rw [z]⟩
theorem in_bU (μ : Mu) (i : Nat) (l : List Nat) : evIn μ (I i) (bU l) = some (decide (i ∈ l)) := by
  have m : dat μ D0 (bU l) = some (.list (l.map fun x : Nat => PyData.int x)) := by
    rw [show D0 = 11 + 1 from rfl]
    simp only [dat]
    rw [mapO_map (f := dat μ 11) (h := fun x : Nat => PyData.int x) fun x _ => rfl]
  simp only [evIn, cont, m, dat_int]
  congr 1
  rw [Bool.eq_iff_iff, List.any_map, List.any_eq_true, decide_eq_true_eq]
  constructor
  · rintro ⟨x, hx, e⟩
    simp only [Function.comp, PyData.eqv, beq_iff_eq] at e
    have : x = i := by omega
    exact this ▸ hx
  · exact fun h => ⟨i, h, by simp [PyData.eqv]⟩
theorem pl_row {B d : Nat} {row : List (Nat × Nat)} (hB : 2 ≤ B) (h : row.length ≤ B) : Pl B (d + 2) (rU row) := pl_es hB h
theorem forL_test {step : U → R.Env → Mu → Option Out} {p : U → Bool} {Q : R.Env → Prop} {μ : Mu} {w : U} : ∀ {xs : List U} {σ : R.Env}, Q σ → (∀ x ∈ xs, ∀ σ, Q σ → if p x = true then ∃ σ', step x σ μ = some (.nx σ' μ) ∧ Q σ' else step x σ μ = some (.rt w μ)) →
    if xs.all p = true then ∃ σ', forL step xs σ μ = some (.nx σ' μ) ∧ Q σ' else forL step xs σ μ = some (.rt w μ)
  | [], σ, h, _ => by
    rw [if_pos (show ([] : List U).all p = true from rfl)]
    exact ⟨σ, by simp [forL], h⟩
  | x :: xs, σ, h, hs => by
    have h1 := hs x (by simp) σ h
    by_cases hp : p x = true
    · rw [if_pos hp] at h1
      obtain ⟨σ1, e1, q1⟩ := h1
      have h2 := forL_test (xs := xs) q1 fun y hy => hs y (by simp [hy])
      simp only [forL, e1, List.all_cons, hp, Bool.true_and]
      exact h2
    · rw [if_neg hp] at h1
      have hp' : p x = false := by simpa using hp
      rw [List.all_cons, hp', Bool.false_and, if_neg (by simp)]
      simp only [forL, h1]
theorem ex_bad {cal : Nat → List U → Mu → Option (U × Mu)} {n0 : Nat} {σ : R.Env} {μ μ1 μ2 : Mu} {c e : E} {f ss : List S} {w : U} (hc : evalE cal n0 c σ μ = some (.bl true, μ1)) (he : evalE cal n0 e σ μ1 = some (w, μ2)) : exL cal n0 (.iff c [.ret e] f :: ss) σ μ = some (.rt w μ2) := by
  have h : exS cal n0 (.iff c [.ret e] f) σ μ = some (.rt w μ2) := (ex_ifT hc rfl).trans (ex_ret he)
  simp only [exL, h]
theorem sort_ne (k : Nat) {B d : Nat} {u : U} (h : Pl B d u) (μ : Mu) (n0 : Nat) {σ : R.Env} {e : E} (he : evalE (runF defs (k + 1)) n0 e σ μ = some (u, μ)) (j : Int) : evalE (runF defs (k + 1)) n0 (.cmp .ne (.call 23 [e]) (.int j)) σ μ = some (.bl (!decide (srtU u = j)), μ) := by
  refine ev_cmp (ev_call (ev_l1 he) (sort_pl k h μ)) ev_int ?_
  simp only [evCmp, eq_int, neg?]
theorem ne_nil (μ : Mu) {B d : Nat} {xs : List U} (h : ∀ u ∈ xs, Pl B d u) (hd : d + 1 ≤ D0) : evCmp μ .ne (.lst xs) (.lst []) = some (!xs.isEmpty) := by
  have m := mapO_map (f := dat μ 11) (g := id) (h := tp) (xs := xs) fun x hx => dat_tp μ (h x hx) (by unfold D0 at hd; omega)
  rw [List.map_id] at m
  simp only [evCmp, evEq, show D0 = 11 + 1 from rfl, dat, m, mapO]
  cases xs with
  | nil => rfl
  | cons x xs => simp [PyData.eqv, PyData.eqvAll, neg?]
theorem ev_bm {cal : Nat → List U → Mu → Option (U × Mu)} {n0 : Nat} {σ : R.Env} {μ : Mu} {a b : E} {al : Bool} {op : Bo} {u v w : U} (ha : evalE cal n0 a σ μ = some (u, μ)) (hb : evalE cal n0 b σ μ = some (v, μ)) (h : evBin al μ op u v = some (w, μ)) : evalE cal n0 (.bin al op a b) σ μ = some (w, μ) := ev_bin ha hb h
theorem frz_ob {n : Nat} {μ : Mu} {k i : Nat} {xs : List U} (h : μ[i]? = some (.lst xs)) (hi : ¬ i < n) (hf : mapO (frz n μ k) xs = some xs) : frz n μ (k + 1) (.ob i) = some (.lst xs) := by
  simp only [frz]
  rw [if_neg hi, h]
  simp only [hf]
theorem compV_all {α : Type} {step : U → Mu → Option (Option U × Mu)} {enc g : α → U} {μ : Mu} {i : Nat} {xs : List α} (hm : μ[i]? = some (.lst (xs.map enc))) (h : ∀ x ∈ xs, step (enc x) μ = some (some (g x), μ)) (hz : xs.length ≤ SZ) :
    ∀ {f k : Nat} {acc : List U}, k ≤ xs.length → xs.length - k < f → acc.length ≤ k → compV false step i f k acc μ = some (acc ++ (xs.drop k).map g, μ)
  | 0, k, acc, _, hf, _ => by omega
  | f + 1, k, acc, hk, hf, ha => by
    simp only [compV, hm, elm]
    by_cases hlt : k < xs.length
    · rw [List.getElem?_map, List.getElem?_eq_getElem hlt]
      simp only [Option.map_some]
      rw [h _ (List.getElem_mem hlt)]
      simp only
      rw [if_pos (by omega), compV_all hm h hz (by omega) (by omega) (by simp; omega), List.drop_eq_getElem_cons hlt, List.map_cons, List.append_assoc]
      rfl
    · have e : k = xs.length := by omega
      subst e
      rw [List.getElem?_eq_none_iff.mpr (by simp)]
      simp
theorem ev_compV {cal : Nat → List U → Mu → Option (U × Mu)} {n0 : Nat} {al : Bool} {p : Pt} {ik : Ik} {its : List E} {c e : E} {ws : List Nat} {σ : R.Env} {μ μ1 μ2 : Mu} {us ys : List U} {i : Nat} (h1 : evalL cal n0 its σ μ = some (us, μ1)) (h2 : walk μ1 ik us = some (.inr (false, i))) (h3 : compV false (cstep cal n0 p c e ws σ) i FU 0 [] μ1 = some (ys, μ2)) :
    evalE cal n0 (.comp al p ik its c e ws) σ μ = some (R.fresh al (.lst ys) μ2) := by
  simp only [evalE, h1, h2]
  have e0 : (match compV false (cstep cal n0 p c e ws σ) i FU 0 [] μ1 with
    | some (ys, μ) => some (R.fresh al (.lst ys) μ)
    | none => none) = some (R.fresh al (.lst ys) μ2) := by rw [h3]
  exact e0
theorem compV_enm {α : Type} {step : U → Mu → Option (Option U × Mu)} {enc : α → U} {g : Nat → α → U} {μ : Mu} {i : Nat} {xs : List α} (hm : μ[i]? = some (.lst (xs.map enc))) (h : ∀ (k : Nat) (x : α), xs[k]? = some x → step (.tup [I k, enc x]) μ = some (some (g k x), μ)) (hz : xs.length ≤ SZ) :
    ∀ {f k : Nat} {acc : List U}, k ≤ xs.length → xs.length - k < f → acc.length ≤ k → compV true step i f k acc μ = some (acc ++ ((xs.drop k).zipIdx k).map (fun p => g p.2 p.1), μ)
  | 0, k, acc, _, hf, _ => by omega
  | f + 1, k, acc, hk, hf, ha => by
    simp only [compV, hm, elm]
    by_cases hlt : k < xs.length
    · rw [List.getElem?_map, List.getElem?_eq_getElem hlt]
      simp only [Option.map_some]
      rw [h k _ (List.getElem?_eq_getElem hlt)]
      simp only
      rw [if_pos (by omega), compV_enm hm h hz (by omega) (by omega) (by simp; omega), List.drop_eq_getElem_cons hlt, List.zipIdx_cons, List.map_cons, List.append_assoc]
      rfl
    · have e : k = xs.length := by omega
      subst e
      rw [List.getElem?_eq_none_iff.mpr (by simp)]
      simp
theorem ev_compVe {cal : Nat → List U → Mu → Option (U × Mu)} {n0 : Nat} {al : Bool} {p : Pt} {ik : Ik} {its : List E} {c e : E} {ws : List Nat} {σ : R.Env} {μ μ1 μ2 : Mu} {us ys : List U} {i : Nat} (h1 : evalL cal n0 its σ μ = some (us, μ1)) (h2 : walk μ1 ik us = some (.inr (true, i))) (h3 : compV true (cstep cal n0 p c e ws σ) i FU 0 [] μ1 = some (ys, μ2)) :
    evalE cal n0 (.comp al p ik its c e ws) σ μ = some (R.fresh al (.lst ys) μ2) := by
  simp only [evalE, h1, h2]
  have e0 : (match compV true (cstep cal n0 p c e ws σ) i FU 0 [] μ1 with
    | some (ys, μ) => some (R.fresh al (.lst ys) μ)
    | none => none) = some (R.fresh al (.lst ys) μ2) := by rw [h3]
  exact e0
theorem in_ob {μ : Mu} {i : Nat} {l : List Nat} (h : μ[i]? = some (bU l)) (x : Nat) : evIn μ (I x) (.ob i) = some (decide (x ∈ l)) := by
  have m : dat μ D0 (.ob i) = some (.list (l.map fun x : Nat => PyData.int x)) := by
    rw [show D0 = 10 + 1 + 1 from rfl]
    simp only [dat, h]
    rw [mapO_map (f := dat μ 10) (h := fun x : Nat => PyData.int x) fun x _ => rfl]
  have c : cont μ (.ob i) = some (bU l) := h
  simp only [evIn, c, m, dat_int]
  congr 1
  rw [Bool.eq_iff_iff, List.any_map, List.any_eq_true, decide_eq_true_eq]
  constructor
  · rintro ⟨y, hy, e⟩
    simp only [Function.comp, PyData.eqv, beq_iff_eq] at e
    have : y = x := by omega
    exact this ▸ hy
  · exact fun h => ⟨x, h, by simp [PyData.eqv]⟩
theorem notin_ob {μ : Mu} {i : Nat} {l : List Nat} (h : μ[i]? = some (bU l)) (x : Nat) : evCmp μ .notin (I x) (.ob i) = some (!decide (x ∈ l)) := by
  simp only [evCmp, in_ob h, neg?]
theorem notin_bU (μ : Mu) (x : Nat) (l : List Nat) : evCmp μ .notin (I x) (bU l) = some (!decide (x ∈ l)) := by
  simp only [evCmp, in_bU, neg?]
theorem eq_nilL (μ : Mu) {B d : Nat} {xs : List U} (h : ∀ u ∈ xs, Pl B d u) (hd : d + 1 ≤ D0) : evCmp μ .eq (.lst xs) (.lst []) = some xs.isEmpty := by
  have := ne_nil μ h hd
  simp only [evCmp] at this ⊢
  cases he : evEq μ (.lst xs) (.lst []) with
  | none => rw [he] at this; cases this
  | some b =>
    rw [he] at this
    simp only [neg?, Option.some.injEq] at this
    rw [show b = xs.isEmpty by cases b <;> cases h : xs.isEmpty <;> simp_all]
abbrev netU (N : Net) : U := .tup (N.map rU)
theorem net_at {N : Net} {h : Nat} (hh : h < N.length) : atI (N.map rU) (h : Int) = some (rU (row N h)) := atI_of (by rw [List.getElem?_map, row_get hh]; rfl)
theorem row_at' {r : List (Nat × Nat)} {i : Nat} {p : Nat × Nat} (h : r[i]? = some p) : atI (r.map pU) (i : Int) = some (pU p) := atI_of (by rw [List.getElem?_map, h]; rfl)
theorem look_take {L : List Nat} {r : List (Nat × Nat)} {i : Nat} {p : Nat × Nat} (h : r[i]? = some p) : look L (r.take (i + 1)) = insN (look L (r.take i)) p.1 := by
  unfold look
  rw [List.take_add_one, h]
  simp
end K30

set_option Elab.async false
set_option linter.all false
set_option maxRecDepth 100000
set_option maxHeartbeats 4000000
namespace K30
open PySem L2 R
/-! ### who is reached (printed by K30f.py) -/
theorem look_len (L : List Nat) (r : List (Nat × Nat)) : (look L r).length ≤ L.length + r.length := by
  unfold look
  have aux : ∀ (l L : List Nat), (l.foldl insN L).length ≤ L.length + l.length := by
    intro l
    induction l with
    | nil => intro L; simp
    | cons x l ih =>
      intro L
      rw [List.foldl_cons]
      have h1 := ih (insN L x)
      have h2 : (insN L x).length ≤ L.length + 1 := by unfold insN; split <;> simp
      simp only [List.length_cons]
      omega
  have := aux (r.map (·.1)) L
  simpa using this
section
variable (k : Nat) (μ : Mu) {N : Net} (K : Lnk N) 
include K
abbrev sE (net ob : U) (at_ : Nat) (x3 x4 : Option U) : R.Env := [some net, some ob, some (I at_), x3, x4]
theorem reach_row {L : List Nat} (hl : L.length ≤ 10) {h : Nat} (hh : h < N.length) (n0 : Nat) (hn0 : n0 ≤ μ.length) (at_ : Nat) (x3 x4 : Option U) :
    ∃ y3 y4, forL (fstep (runF defs k) n0 (.tup [(.slot 3), (.slot 4)]) lb_reached_in_0) ((row N h).map pU) (sE (netU N) (.ob μ.length) at_ x3 x4) (μ ++ [bU L]) = some (.nx (sE (netU N) (.ob μ.length) at_ y3 y4) (μ ++ [bU (look L (row N h))])) := by
  obtain ⟨σ', μ', e, y3, y4, hσ, hμ⟩ := forL_inv0 (step := fstep (runF defs k) n0 (.tup [(.slot 3), (.slot 4)]) lb_reached_in_0) (xs := (row N h).map pU)
    (fun i σ μ' => ∃ y3 y4, σ = sE (netU N) (.ob μ.length) at_ y3 y4 ∧ μ' = μ ++ [bU (look L ((row N h).take i))]) (σ := sE (netU N) (.ob μ.length) at_ x3 x4) (μ := μ ++ [bU L]) ⟨x3, x4, rfl, by simp [look]⟩ (fun i x σ μ' hx hp => by
      obtain ⟨y3, y4, rfl, rfl⟩ := hp
      obtain ⟨p, hp, hm, rfl⟩ := map_at hx
      have lt := look_take (L := L) hp
      have lz := look_len L ((row N h).take i)
      have six := K.six hh
      rw [List.length_take] at lz
      generalize look L ((row N h).take i) = M at lt lz
      refine ⟨sE (netU N) (.ob μ.length) at_ (some (I p.1)) (some (I p.2)), μ ++ [bU (look L ((row N h).take (i + 1)))], .inl ?_, some (I p.1), some (I p.2), rfl, rfl⟩
      show exL (runF defs k) n0 lb_reached_in_0 (sE (netU N) (.ob μ.length) at_ (some (I p.1)) (some (I p.2))) (μ ++ [bU M]) = _
      have m : (μ ++ [bU M])[μ.length]? = some (bU M) := by simp
      have c : evalE (runF defs k) n0 (.cmp .notin (.var 3) (.var 1)) (sE (netU N) (.ob μ.length) at_ (some (I p.1)) (some (I p.2))) (μ ++ [bU M]) = some (.bl (!decide (p.1 ∈ M)), μ ++ [bU M]) := ev_cmp (ev_var rfl) (ev_var rfl) (notin_ob m _)
      unfold lb_reached_in_0
      rw [lt]
      unfold insN
      by_cases hm : p.1 ∈ M
      · rw [decide_eq_true hm] at c
        rw [if_pos hm]
        exact (ex_seq ((ex_ifF c rfl).trans ex_nil)).trans ex_nil
      · rw [decide_eq_false hm] at c
        rw [if_neg hm]
        refine (ex_seq ((ex_ifT c rfl).trans ((ex_seq (ex_append (i := μ.length) (u := I p.1) (xs := M.map I) (ev_var rfl) (ev_var rfl) m (by rw [List.length_map]; unfold SZ; omega) hn0)).trans ex_nil))).trans ?_
        rw [ex_nil, set_last]
        simp only [bU, List.map_append, List.map_singleton])
  refine ⟨y3, y4, ?_⟩
  rw [e, hσ, hμ]
  simp
theorem reach_all {s : Nat} (hs : s < N.length) (n0 : Nat) (hn0 : n0 ≤ μ.length) (x3 x4 : Option U) :
    ∃ at_ y3 y4, exS (runF defs k) n0 l_reached_in_2 (sE (netU N) (.ob μ.length) 0 x3 x4) (μ ++ [bU [s]]) = some (.nx (sE (netU N) (.ob μ.length) at_ y3 y4) (μ ++ [bU (bfs N s N.length)])) := by
  have n10 := K.n10
  obtain ⟨σ', μ', ew, at_, y3, y4, hσ, hμ⟩ := whL_inv (cond := wcond (runF defs k) n0 (.cmp .lt (.var 2) (.bi .len [(.var 1)]))) (body := fun σ μ' => exL (runF defs k) n0 lb_reached_in_2 σ μ')
    (fun m σ μ' => ∃ j y3 y4, j + m = N.length ∧ σ = sE (netU N) (.ob μ.length) j y3 y4 ∧ μ' = μ ++ [bU (bfs N s j)])
    (fun σ μ' => ∃ j y3 y4, σ = sE (netU N) (.ob μ.length) j y3 y4 ∧ μ' = μ ++ [bU (bfs N s N.length)])
    (fun m σ μ' hp => by
      obtain ⟨j, y3, y4, hj, rfl, rfl⟩ := hp
      have bl := K.bfs_len hs j
      have mm : (μ ++ [bU (bfs N s j)])[μ.length]? = some (bU (bfs N s j)) := by simp
      have cc : cont (μ ++ [bU (bfs N s j)]) (.ob μ.length) = some (bU (bfs N s j)) := mm
      have c : evalE (runF defs k) n0 (.cmp .lt (.var 2) (.bi .len [(.var 1)])) (sE (netU N) (.ob μ.length) j y3 y4) (μ ++ [bU (bfs N s j)]) = some (.bl (decide (j < (bfs N s j).length)), μ ++ [bU (bfs N s j)]) := ev_cmp (u := I j) (v := I (bfs N s j).length) (ev_var rfl) (ev_bi (ev_l1 (ev_var rfl)) (by simp only [evBi, cc, List.length_map])) lt_I
      by_cases h : j < (bfs N s j).length
      · rw [decide_eq_true h] at c
        obtain ⟨m, rfl⟩ : ∃ m', m = m' + 1 := ⟨m - 1, by omega⟩
        have ho := K.bfs_lt hs j _ (List.getElem_mem h)
        have eo : (bfs N s j)[j]? = some (bfs N s j)[j] := List.getElem?_eq_getElem h
        obtain ⟨z3, z4, e⟩ := reach_row k μ K (L := bfs N s j) (by omega) ho n0 hn0 j y3 y4
        have es : bfs N s (j + 1) = look (bfs N s j) (row N (bfs N s j)[j]) := by
          rw [bfs]
          unfold bstep
          rw [eo]
        rw [← es] at e
        refine .inr ⟨_, sE (netU N) (.ob μ.length) (j + 1) z3 z4, μ ++ [bU (bfs N s (j + 1))], by simp only [wcond, c]; rfl, .inl ?_, m, by omega, j + 1, z3, z4, by omega, rfl, rfl⟩
        have at1 : evalE (runF defs k) n0 (.idx (.var 0) (.idx (.var 1) (.var 2))) (sE (netU N) (.ob μ.length) j y3 y4) (μ ++ [bU (bfs N s j)]) = some (rU (row N (bfs N s j)[j]), μ ++ [bU (bfs N s j)]) := ev_idxT (ev_var rfl) (ev_idxL1 (ev_var rfl) (ev_var rfl) cc (atI_of (by rw [List.getElem?_map, eo]; rfl))) (net_at ho)
        unfold lb_reached_in_2
        refine (ex_seq ((show exS _ _ l_reached_in_0 _ _ = _ from ex_for (us := [rU (row N (bfs N s j)[j])]) (ev_l1 at1) rfl).trans e)).trans ?_
        refine (ex_seq (ex_set (u := I (j + 1)) (ev_bm (u := I j) (v := .int 1) (ev_var rfl) ev_int rfl))).trans ex_nil
      · rw [decide_eq_false h] at c
        refine .inl ⟨μ ++ [bU (bfs N s j)], by simp only [wcond, c]; rfl, j, y3, y4, rfl, ?_⟩
        have := bfs_stop (N := N) (s := s) (k := j) (by omega) m
        rw [hj] at this
        rw [this]) (f := FU) (m := N.length) (σ := sE (netU N) (.ob μ.length) 0 x3 x4) (μ := μ ++ [bU [s]]) ⟨0, x3, x4, by omega, rfl, rfl⟩ (by unfold FU; omega)
  exact ⟨at_, y3, y4, by rw [show exS (runF defs k) n0 l_reached_in_2 (sE (netU N) (.ob μ.length) 0 x3 x4) (μ ++ [bU [s]]) = _ from ex_wh, ew, hσ, hμ]⟩
end
section
variable (k : Nat) (μ : Mu) {N : Net} (K : Lnk N) (Mv Sv : U)
include K
abbrev sO (Mv Sv net ob : U) (at_ : Nat) (x3 x4 : Option U) : R.Env := [some net, some Mv, some Sv, none, none, some ob, some (I at_), x3, x4, none, none]
theorem order_row {L : List Nat} (hl : L.length ≤ 10) {h : Nat} (hh : h < N.length) (n0 : Nat) (hn0 : n0 ≤ μ.length) (at_ : Nat) (x3 x4 : Option U) :
    ∃ y3 y4, forL (fstep (runF defs k) n0 (.tup [(.slot 7), (.slot 8)]) lb_told_in_0) ((row N h).map pU) (sO Mv Sv (netU N) (.ob μ.length) at_ x3 x4) (μ ++ [bU L]) = some (.nx (sO Mv Sv (netU N) (.ob μ.length) at_ y3 y4) (μ ++ [bU (look L (row N h))])) := by
  obtain ⟨σ', μ', e, y3, y4, hσ, hμ⟩ := forL_inv0 (step := fstep (runF defs k) n0 (.tup [(.slot 7), (.slot 8)]) lb_told_in_0) (xs := (row N h).map pU)
    (fun i σ μ' => ∃ y3 y4, σ = sO Mv Sv (netU N) (.ob μ.length) at_ y3 y4 ∧ μ' = μ ++ [bU (look L ((row N h).take i))]) (σ := sO Mv Sv (netU N) (.ob μ.length) at_ x3 x4) (μ := μ ++ [bU L]) ⟨x3, x4, rfl, by simp [look]⟩ (fun i x σ μ' hx hp => by
      obtain ⟨y3, y4, rfl, rfl⟩ := hp
      obtain ⟨p, hp, hm, rfl⟩ := map_at hx
      have lt := look_take (L := L) hp
      have lz := look_len L ((row N h).take i)
      have six := K.six hh
      rw [List.length_take] at lz
      generalize look L ((row N h).take i) = M at lt lz
      refine ⟨sO Mv Sv (netU N) (.ob μ.length) at_ (some (I p.1)) (some (I p.2)), μ ++ [bU (look L ((row N h).take (i + 1)))], .inl ?_, some (I p.1), some (I p.2), rfl, rfl⟩
      show exL (runF defs k) n0 lb_told_in_0 (sO Mv Sv (netU N) (.ob μ.length) at_ (some (I p.1)) (some (I p.2))) (μ ++ [bU M]) = _
      have m : (μ ++ [bU M])[μ.length]? = some (bU M) := by simp
      have c : evalE (runF defs k) n0 (.cmp .notin (.var 7) (.var 5)) (sO Mv Sv (netU N) (.ob μ.length) at_ (some (I p.1)) (some (I p.2))) (μ ++ [bU M]) = some (.bl (!decide (p.1 ∈ M)), μ ++ [bU M]) := ev_cmp (ev_var rfl) (ev_var rfl) (notin_ob m _)
      unfold lb_told_in_0
      rw [lt]
      unfold insN
      by_cases hm : p.1 ∈ M
      · rw [decide_eq_true hm] at c
        rw [if_pos hm]
        exact (ex_seq ((ex_ifF c rfl).trans ex_nil)).trans ex_nil
      · rw [decide_eq_false hm] at c
        rw [if_neg hm]
        refine (ex_seq ((ex_ifT c rfl).trans ((ex_seq (ex_append (i := μ.length) (u := I p.1) (xs := M.map I) (ev_var rfl) (ev_var rfl) m (by rw [List.length_map]; unfold SZ; omega) hn0)).trans ex_nil))).trans ?_
        rw [ex_nil, set_last]
        simp only [bU, List.map_append, List.map_singleton])
  refine ⟨y3, y4, ?_⟩
  rw [e, hσ, hμ]
  simp
theorem order_all {s : Nat} (hs : s < N.length) (n0 : Nat) (hn0 : n0 ≤ μ.length) (x3 x4 : Option U) :
    ∃ at_ y3 y4, exS (runF defs k) n0 l_told_in_2 (sO Mv Sv (netU N) (.ob μ.length) 0 x3 x4) (μ ++ [bU [s]]) = some (.nx (sO Mv Sv (netU N) (.ob μ.length) at_ y3 y4) (μ ++ [bU (bfs N s N.length)])) := by
  have n10 := K.n10
  obtain ⟨σ', μ', ew, at_, y3, y4, hσ, hμ⟩ := whL_inv (cond := wcond (runF defs k) n0 (.cmp .lt (.var 6) (.bi .len [(.var 5)]))) (body := fun σ μ' => exL (runF defs k) n0 lb_told_in_2 σ μ')
    (fun m σ μ' => ∃ j y3 y4, j + m = N.length ∧ σ = sO Mv Sv (netU N) (.ob μ.length) j y3 y4 ∧ μ' = μ ++ [bU (bfs N s j)])
    (fun σ μ' => ∃ j y3 y4, σ = sO Mv Sv (netU N) (.ob μ.length) j y3 y4 ∧ μ' = μ ++ [bU (bfs N s N.length)])
    (fun m σ μ' hp => by
      obtain ⟨j, y3, y4, hj, rfl, rfl⟩ := hp
      have bl := K.bfs_len hs j
      have mm : (μ ++ [bU (bfs N s j)])[μ.length]? = some (bU (bfs N s j)) := by simp
      have cc : cont (μ ++ [bU (bfs N s j)]) (.ob μ.length) = some (bU (bfs N s j)) := mm
      have c : evalE (runF defs k) n0 (.cmp .lt (.var 6) (.bi .len [(.var 5)])) (sO Mv Sv (netU N) (.ob μ.length) j y3 y4) (μ ++ [bU (bfs N s j)]) = some (.bl (decide (j < (bfs N s j).length)), μ ++ [bU (bfs N s j)]) := ev_cmp (u := I j) (v := I (bfs N s j).length) (ev_var rfl) (ev_bi (ev_l1 (ev_var rfl)) (by simp only [evBi, cc, List.length_map])) lt_I
      by_cases h : j < (bfs N s j).length
      · rw [decide_eq_true h] at c
        obtain ⟨m, rfl⟩ : ∃ m', m = m' + 1 := ⟨m - 1, by omega⟩
        have ho := K.bfs_lt hs j _ (List.getElem_mem h)
        have eo : (bfs N s j)[j]? = some (bfs N s j)[j] := List.getElem?_eq_getElem h
        obtain ⟨z3, z4, e⟩ := order_row k μ K Mv Sv (L := bfs N s j) (by omega) ho n0 hn0 j y3 y4
        have es : bfs N s (j + 1) = look (bfs N s j) (row N (bfs N s j)[j]) := by
          rw [bfs]
          unfold bstep
          rw [eo]
        rw [← es] at e
        refine .inr ⟨_, sO Mv Sv (netU N) (.ob μ.length) (j + 1) z3 z4, μ ++ [bU (bfs N s (j + 1))], by simp only [wcond, c]; rfl, .inl ?_, m, by omega, j + 1, z3, z4, by omega, rfl, rfl⟩
        have at1 : evalE (runF defs k) n0 (.idx (.var 0) (.idx (.var 5) (.var 6))) (sO Mv Sv (netU N) (.ob μ.length) j y3 y4) (μ ++ [bU (bfs N s j)]) = some (rU (row N (bfs N s j)[j]), μ ++ [bU (bfs N s j)]) := ev_idxT (ev_var rfl) (ev_idxL1 (ev_var rfl) (ev_var rfl) cc (atI_of (by rw [List.getElem?_map, eo]; rfl))) (net_at ho)
        unfold lb_told_in_2
        refine (ex_seq ((show exS _ _ l_told_in_0 _ _ = _ from ex_for (us := [rU (row N (bfs N s j)[j])]) (ev_l1 at1) rfl).trans e)).trans ?_
        refine (ex_seq (ex_set (u := I (j + 1)) (ev_bm (u := I j) (v := .int 1) (ev_var rfl) ev_int rfl))).trans ex_nil
      · rw [decide_eq_false h] at c
        refine .inl ⟨μ ++ [bU (bfs N s j)], by simp only [wcond, c]; rfl, j, y3, y4, rfl, ?_⟩
        have := bfs_stop (N := N) (s := s) (k := j) (by omega) m
        rw [hj] at this
        rw [this]) (f := FU) (m := N.length) (σ := sO Mv Sv (netU N) (.ob μ.length) 0 x3 x4) (μ := μ ++ [bU [s]]) ⟨0, x3, x4, by omega, rfl, rfl⟩ (by unfold FU; omega)
  exact ⟨at_, y3, y4, by rw [show exS (runF defs k) n0 l_told_in_2 (sO Mv Sv (netU N) (.ob μ.length) 0 x3 x4) (μ ++ [bU [s]]) = _ from ex_wh, ew, hσ, hμ]⟩
end
end K30

set_option Elab.async false
set_option linter.all false
set_option maxRecDepth 100000
set_option maxHeartbeats 4000000
namespace K30
open PySem L2 R
/-! ### what nets are -/
theorem mapO_all {α β : Type} (f : α → Option β) : ∀ xs : List α, (mapO f xs).isSome = xs.all fun x => (f x).isSome
  | [] => rfl
  | x :: xs => by
    simp only [mapO, List.all_cons]
    have := mapO_all f xs
    cases h : f x with
    | none => rfl
    | some y =>
      simp only [Option.isSome_some, Bool.true_and]
      rw [← this]
      cases mapO f xs <;> rfl
theorem mapO_inv {α β : Type} {f : α → Option β} {g : β → α} (h : ∀ a b, f a = some b → a = g b) : ∀ {xs : List α} {ys : List β}, mapO f xs = some ys → xs = ys.map g ∧ ∀ y ∈ ys, f (g y) = some y
  | [], ys, e => by cases e; exact ⟨rfl, by simp⟩
  | x :: xs, ys, e => by
    simp only [mapO] at e
    cases h1 : f x with
    | none => rw [h1] at e; cases e
    | some y =>
      rw [h1] at e
      simp only at e
      cases h2 : mapO f xs with
      | none => rw [h2] at e; cases e
      | some zs =>
        rw [h2] at e
        cases e
        obtain ⟨e1, e2⟩ := mapO_inv h h2
        have := h _ _ h1
        refine ⟨by rw [List.map_cons, ← this, ← e1], fun z hz => ?_⟩
        rcases List.mem_cons.mp hz with rfl | hz
        · rw [← this]; exact h1
        · exact e2 z hz
theorem zr_mem {α : Type} {l : List α} {q : Nat × α} : q ∈ (List.range l.length).zip l ↔ l[q.1]? = some q.2 := by
  constructor
  · intro h
    obtain ⟨i, hi⟩ := List.mem_iff_getElem?.mp h
    rw [List.getElem?_zip_eq_some] at hi
    obtain ⟨h1, h2⟩ := hi
    have := (List.getElem?_eq_some_iff.mp h1)
    obtain ⟨h3, h4⟩ := this
    simp only [List.length_range, List.getElem_range] at h3 h4
    rw [← h4]
    exact h2
  · intro h
    have hl := (List.getElem?_eq_some_iff.mp h).1
    refine List.mem_iff_getElem?.mpr ⟨q.1, ?_⟩
    rw [List.getElem?_zip_eq_some]
    exact ⟨List.getElem?_range hl, h⟩
abbrev vU (xs : List (List U)) : U := .tup (xs.map U.tup)
def wL (xs : List (List U)) (i : Nat) : List U := xs[i]?.getD []
def at2 (xs : List (List U)) (p : Nat × Nat) : U := ((wL xs p.1)[p.2]?).getD .non
def decD (xs : List (List U)) : U → Option (Nat × Nat)
  | .tup [.int i, .int j] => if 0 ≤ i ∧ i ≤ (xs.length : Int) - 1 ∧ 0 ≤ j ∧ j ≤ ((wL xs i.toNat).length : Int) - 1 then some (i.toNat, j.toNat) else none
  | _ => none
theorem decD_some {xs : List (List U)} {u : U} {p : Nat × Nat} (h : decD xs u = some p) : u = pU p ∧ p.1 < xs.length ∧ p.2 < (wL xs p.1).length := by
  unfold decD at h
  split at h
  · rename_i i j
    split at h
    · rename_i c
      cases h
      refine ⟨?_, by simp only; omega, by simp only; omega⟩
      show U.tup [.int i, .int j] = .tup [.int ((i.toNat : Nat) : Int), .int ((j.toNat : Nat) : Int)]
      rw [show ((i.toNat : Nat) : Int) = i by omega, show ((j.toNat : Nat) : Int) = j by omega]
    · cases h
  · cases h
def eqvB (u : U) (h a : Nat) : Bool := PyData.eqv (tp u) (.tuple [.int h, .int a])
theorem eqvB_pU (q : Nat × Nat) (h a : Nat) : eqvB (pU q) h a = decide (q = (h, a)) := by
  rw [Bool.eq_iff_iff, decide_eq_true_eq]
  simp only [eqvB, pU, I, tp, tps, PyData.eqv, PyData.eqvAll, Bool.and_eq_true, beq_iff_eq]
  constructor
  · rintro ⟨h1, h2, _⟩
    exact Prod.ext (by simp only; omega) (by simp only; omega)
  · rintro rfl
    simp
def backB (xs : List (List U)) (h a : Nat) (u : U) : Bool := match decD xs u with
  | some p => eqvB (at2 xs p) h a
  | none => true
def houseB (xs : List (List U)) (h : Nat) (z : List U) : Bool := (z.all fun u => (decD xs u).isSome) && ((List.range z.length).zip z).all fun q => backB xs h q.1 q.2
def doorsB (xs : List (List U)) : Bool := ((List.range xs.length).zip xs).all fun q => houseB xs q.1 q.2
def isTupB : U → Bool
  | .tup _ => true
  | _ => false
def intsB : U → Bool
  | .tup zs => zs.all fun u => decide (srtU u = 2)
  | _ => true
def lB (xs : List (List U)) (h a : Nat) (u : U) : Bool := match decD xs u with
  | some p => isTupB (at2 xs p) && eqvB (at2 xs p) h a && intsB (at2 xs p)
  | none => false
def houseL (xs : List (List U)) (h : Nat) (z : List U) : Bool := ((List.range z.length).zip z).all fun r => lB xs h r.1 r.2
def doorsL (xs : List (List U)) : Bool := ((List.range xs.length).zip xs).all fun q => houseL xs q.1 q.2
def linkB (N : Net) (h i : Nat) : Bool := match (row N h)[i]? with
  | some p => decide ((row N p.1)[p.2]? = some (h, i))
  | none => true
def linksB (N : Net) : Bool := (List.range N.length).all fun h => (List.range (row N h).length).all (linkB N h)
def decN (xs : List (List U)) : Option Net := match mapO (mapO (decD xs)) xs with
  | some N => if linksB N = true then some N else none
  | none => none
theorem decM_some {xs : List (List U)} {N : Net} (h : mapO (mapO (decD xs)) xs = some N) : xs = N.map (fun r => r.map pU) ∧ ∀ r ∈ N, ∀ p ∈ r, p.1 < xs.length ∧ p.2 < (wL xs p.1).length := by
  have inner : ∀ (z : List U) (r : List (Nat × Nat)), mapO (decD xs) z = some r → z = r.map pU := fun z r e => (mapO_inv (g := pU) (fun a b q => (decD_some q).1) e).1
  obtain ⟨e, h2⟩ := mapO_inv inner h
  refine ⟨e, fun r hr p hp => ?_⟩
  obtain ⟨_, h3⟩ := mapO_inv (g := pU) (fun a b q => (decD_some q).1) (h2 r hr)
  exact (decD_some (h3 p hp)).2
theorem wL_net (N : Net) (h : Nat) : wL (N.map fun r => r.map pU) h = (row N h).map pU := by
  unfold wL row
  rw [List.getElem?_map]
  cases N[h]? <;> rfl
theorem linksB_iff {N : Net} : linksB N = true ↔ ∀ (h i : Nat) (p : Nat × Nat), (row N h)[i]? = some p → (row N p.1)[p.2]? = some (h, i) := by
  unfold linksB
  rw [List.all_eq_true]
  constructor
  · intro H h i p e
    have h1 := H h (by simpa using row_lt e)
    rw [List.all_eq_true] at h1
    have h2 := h1 i (by simpa using (List.getElem?_eq_some_iff.mp e).1)
    unfold linkB at h2
    rw [e] at h2
    simpa using h2
  · intro H h hh
    rw [List.all_eq_true]
    intro i hi
    unfold linkB
    cases e : (row N h)[i]? with
    | none => rfl
    | some p => simpa using H h i p e
section
variable {xs : List (List U)}
/-- the doors one by one -/
theorem doors_iff {D : Nat → Nat → U → Bool} : (((List.range xs.length).zip xs).all fun q => ((List.range q.2.length).zip q.2).all fun r => D q.1 r.1 r.2) = true ↔ ∀ (h : Nat) (z : List U), xs[h]? = some z → ∀ (a : Nat) (u : U), z[a]? = some u → D h a u = true := by
  rw [List.all_eq_true]
  constructor
  · intro H h z hz a u hu
    have := H (h, z) (zr_mem.mpr hz)
    rw [List.all_eq_true] at this
    exact this (a, u) (zr_mem.mpr hu)
  · intro H q hq
    rw [List.all_eq_true]
    intro r hr
    exact H q.1 q.2 (zr_mem.mp hq) r.1 r.2 (zr_mem.mp hr)
theorem house_and {h : Nat} {z : List U} : houseB xs h z = ((List.range z.length).zip z).all fun r => (decD xs r.2).isSome && backB xs h r.1 r.2 := by
  unfold houseB
  rw [Bool.eq_iff_iff, Bool.and_eq_true, List.all_eq_true, List.all_eq_true, List.all_eq_true]
  constructor
  · rintro ⟨h1, h2⟩ r hr
    rw [Bool.and_eq_true]
    exact ⟨h1 _ (List.mem_of_getElem? (zr_mem.mp hr)), h2 r hr⟩
  · intro H
    refine ⟨fun u hu => ?_, fun r hr => (Bool.and_eq_true _ _ ▸ H r hr).2⟩
    obtain ⟨i, hi⟩ := List.mem_iff_getElem?.mp hu
    exact (Bool.and_eq_true _ _ ▸ H (i, u) (zr_mem.mpr hi)).1
/-- both judges of the doors say what is decoded -/
theorem doors_eq {D : Nat → Nat → U → Bool} (hs : ∀ h a u, D h a u = true → (decD xs u).isSome = true) (hq : ∀ (h a : Nat) (u : U) (p q : Nat × Nat), decD xs u = some p → at2 xs p = pU q → D h a u = decide (q = (h, a))) :
    (((List.range xs.length).zip xs).all fun q => ((List.range q.2.length).zip q.2).all fun r => D q.1 r.1 r.2) = (decN xs).isSome := by
  rw [Bool.eq_iff_iff, doors_iff]
  unfold decN
  cases hm : mapO (mapO (decD xs)) xs with
  | none =>
    simp only [Option.isSome_none, Bool.false_eq_true, iff_false]
    intro H
    have e := mapO_all (mapO (decD xs)) xs
    rw [hm] at e
    have : (xs.all fun z => (mapO (decD xs) z).isSome) = true := by
      rw [List.all_eq_true]
      intro z hz
      rw [mapO_all, List.all_eq_true]
      intro u hu
      obtain ⟨h, hh⟩ := List.mem_iff_getElem?.mp hz
      obtain ⟨a, ha⟩ := List.mem_iff_getElem?.mp hu
      exact hs _ _ _ (H h z hh a u ha)
    rw [this] at e
    cases e
  | some N =>
    simp only
    obtain ⟨e, hr⟩ := decM_some hm
    have key : (∀ (h : Nat) (z : List U), xs[h]? = some z → ∀ (a : Nat) (u : U), z[a]? = some u → D h a u = true) ↔ linksB N = true := by
      rw [linksB_iff]
      have dd : ∀ (h i : Nat) (p : Nat × Nat), (row N h)[i]? = some p → decD xs (pU p) = some p ∧ ∃ q, (row N p.1)[p.2]? = some q ∧ at2 xs p = pU q := fun h i p hp => by
        have hh := row_lt hp
        have hm2 := row_mem hh
        have inner : ∀ (z : List U) (r : List (Nat × Nat)), mapO (decD xs) z = some r → z = r.map pU := fun z r e => (mapO_inv (g := pU) (fun a b q => (decD_some q).1) e).1
        have d1 := (mapO_inv inner hm).2 _ hm2
        have d2 := (mapO_inv (g := pU) (fun a b q => (decD_some q).1) d1).2 p (List.mem_of_getElem? hp)
        obtain ⟨_, g1, g2⟩ := decD_some d2
        have we : wL xs p.1 = (row N p.1).map pU := by rw [e]; exact wL_net N p.1
        rw [we, List.length_map] at g2
        refine ⟨d2, (row N p.1)[p.2], List.getElem?_eq_getElem g2, ?_⟩
        unfold at2
        rw [we, List.getElem?_map, List.getElem?_eq_getElem g2]
        rfl
      constructor
      · intro H h i p hp
        obtain ⟨d1, q, hq1, hq2⟩ := dd h i p hp
        have hx : xs[h]? = some ((row N h).map pU) := by
          rw [e, List.getElem?_map, row_get (row_lt hp)]
          rfl
        have := H h _ hx i (pU p) (by rw [List.getElem?_map, hp]; rfl)
        rw [hq h i (pU p) p q d1 hq2, decide_eq_true_eq] at this
        rw [hq1, this]
      · intro H h z hz a u hu
        rw [e, List.getElem?_map] at hz
        cases hn : N[h]? with
        | none => rw [hn] at hz; cases hz
        | some r =>
          rw [hn] at hz
          cases hz
          have hrow : row N h = r := by unfold row; rw [hn]; rfl
          rw [List.getElem?_map] at hu
          cases hp : r[a]? with
          | none => rw [hp] at hu; cases hu
          | some p =>
            rw [hp] at hu
            cases hu
            have hp' : (row N h)[a]? = some p := by rw [hrow]; exact hp
            obtain ⟨d1, q, hq1, hq2⟩ := dd h a p hp'
            rw [hq h a (pU p) p q d1 hq2, decide_eq_true_eq]
            have := H h a p hp'
            rw [hq1] at this
            exact Option.some.inj this
    rw [key]
    cases linksB N <;> simp
theorem doorsB_eq (xs : List (List U)) : doorsB xs = (decN xs).isSome := by
  unfold doorsB
  rw [← doors_eq (xs := xs) (D := fun h a u => (decD xs u).isSome && backB xs h a u) (fun h a u z => ((Bool.and_eq_true _ _).mp z).1) (fun h a u p q d e => by simp only [backB, d, e, eqvB_pU, Option.isSome_some, Bool.true_and])]
  congr 1
  funext q
  exact house_and
theorem doorsL_eq (xs : List (List U)) : doorsL xs = (decN xs).isSome := by
  unfold doorsL houseL
  refine doors_eq (xs := xs) (D := lB xs) (fun h a u z => ?_) (fun h a u p q d e => ?_)
  · unfold lB at z
    cases hd : decD xs u with
    | none => rw [hd] at z; cases z
    | some p => rfl
  · have : intsB (pU q) = true := by simp [intsB, srtU]
    simp only [lB, d, e, eqvB_pU, this]
    simp [isTupB]
theorem decN_some {N : Net} (h : decN xs = some N) : xs = N.map (fun r => r.map pU) ∧ ∀ (h i : Nat) (p : Nat × Nat), (row N h)[i]? = some p → (row N p.1)[p.2]? = some (h, i) := by
  unfold decN at h
  cases hm : mapO (mapO (decD xs)) xs with
  | none => rw [hm] at h; cases h
  | some M =>
    rw [hm] at h
    simp only at h
    split at h
    · rename_i c
      cases h
      exact ⟨(decM_some hm).1, linksB_iff.mp c⟩
    · cases h
end
def as6 : U → Option (List U)
  | .tup z => if z.length ≤ 6 then some z else none
  | _ => none
theorem as6_some {u : U} {z : List U} (h : as6 u = some z) : u = .tup z ∧ z.length ≤ 6 := by
  cases u <;> simp only [as6] at h <;> try cases h
  split at h
  · rename_i c
    cases h
    exact ⟨rfl, c⟩
  · cases h
def netB (xs : List (List U)) : Bool := match decN xs with
  | some N => decide ((bfs N 0 N.length).length = N.length)
  | none => false
/-- is the value a net of at most ten houses -/
def okNet : U → Bool
  | .tup ys => if 1 ≤ ys.length ∧ ys.length ≤ 10 then (match mapO as6 ys with
    | some xs => netB xs
    | none => false) else false
  | _ => false
theorem as6_list {ys : List U} {xs : List (List U)} (h : mapO as6 ys = some xs) : ys = xs.map U.tup ∧ ∀ z ∈ xs, z.length ≤ 6 := by
  obtain ⟨e, h2⟩ := mapO_inv (g := U.tup) (fun a b q => (as6_some q).1) h
  exact ⟨e, fun z hz => (as6_some (h2 z hz)).2⟩
end K30

set_option Elab.async false
set_option linter.all false
set_option maxRecDepth 100000
set_option maxHeartbeats 4000000
namespace K30
open PySem L2 R
theorem enum_range (m : Nat) (f : Nat → U) : enum ((List.range m).map f) = (List.range m).map fun i => .tup [I i, f i] := by
  unfold enum
  rw [List.length_map, List.length_range]
  have : (List.range m).zip ((List.range m).map f) = (List.range m).map fun i => (i, f i) := by
    have := List.zip_map' (f := id) (g := f) (l := List.range m)
    simpa using this
  rw [this, List.map_map]
  rfl
theorem enum_map {α : Type} (f : α → U) (l : List α) : enum (l.map f) = ((List.range l.length).zip l).map fun q => .tup [I q.1, f q.2] := by
  unfold enum
  rw [List.length_map]
  have : (List.range l.length).zip (l.map f) = ((List.range l.length).zip l).map fun q => (q.1, f q.2) := by
    have := List.zip_map (f := id) (g := f) (l₁ := List.range l.length) (l₂ := l)
    rw [List.map_id] at this
    exact this
  rw [this, List.map_map]
  rfl
def pE (F : Nat → U → Bool) : U → Bool
  | .tup [.int a, u] => F a.toNat u
  | _ => true
theorem enum_all (F : Nat → U → Bool) (l : List U) : (enum l).all (pE F) = ((List.range l.length).zip l).all fun q => F q.1 q.2 := by
  unfold enum
  rw [List.all_map]
  congr 1
theorem enum_mem {l : List U} {x : U} (h : x ∈ enum l) : ∃ (a : Nat) (u : U), x = .tup [I a, u] ∧ l[a]? = some u := by
  unfold enum at h
  obtain ⟨q, hq, rfl⟩ := List.mem_map.mp h
  exact ⟨q.1, q.2, rfl, zr_mem.mp hq⟩
section
variable (k : Nat) (μ : Mu)
theorem reached_ok {N : Net} (K : Lnk N) : runF defs (k + 1) 4 [netU N] μ = some (bU (bfs N 0 N.length), μ) := by
  rw [run_reached_in]
  obtain ⟨a, y3, y4, e⟩ := reach_all k μ K (s := 0) K.n1 μ.length (Nat.le_refl _) none none
  have b : exL (runF defs k) μ.length b_reached_in [some (netU N), none, none, none, none] μ = some (.rt (.ob μ.length) (μ ++ [bU (bfs N 0 N.length)])) := by
    unfold b_reached_in
    refine (ex_seq (ex_par (us := [.ob μ.length, I 0]) (μ' := μ ++ [bU [0]]) (σ' := sE (netU N) (.ob μ.length) 0 none none) (ev_l2 (ev_lstA (ev_l1 ev_int) (show 1 ≤ SZ by decide)) ev_int) rfl)).trans ?_
    exact (ex_seq e).trans (ex_ret (ev_var rfl))
  refine (if_pos rfl).trans (run_rt b (fin_cut (v := bU (bfs N 0 N.length)) ?_ (by simp)))
  exact frz_ob (by simp) (by omega) (frz_I _ _ _ _)
theorem law_is_whole_ok {N : Net} (K : Lnk N) : runF defs (k + 1) 30 [netU N] μ = some (.bl (decide ((bfs N 0 N.length).length = N.length)), μ) := by
  rw [run__law_is_whole]
  have n10 := K.n10
  obtain ⟨σ', μ', e, y2, y3, y4, hσ, hμ⟩ := forL_inv0 (step := fstep (runF defs k) μ.length (.slot 2) lb__law_is_whole_2) (xs := (List.range N.length).map I)
    (fun j σ μ' => ∃ y2 y3 y4, σ = [some (netU N), some (bU (bfs N 0 j)), y2, y3, y4] ∧ μ' = μ) (σ := [some (netU N), some (bU [0]), none, none, none]) (μ := μ) ⟨none, none, none, rfl, rfl⟩ (fun j x σ μ' hx hp => by
      obtain ⟨y2, y3, y4, rfl, rfl⟩ := hp
      obtain ⟨hj, rfl⟩ := rng_at hx
      have bl := K.bfs_len K.n1 j
      have c : evalE (runF defs k) μ'.length (.cmp .lt (.var 2) (.bi .len [(.var 1)])) [some (netU N), some (bU (bfs N 0 j)), some (I j), y3, y4] μ' = some (.bl (decide (j < (bfs N 0 j).length)), μ') := ev_cmp (u := I j) (v := I (bfs N 0 j).length) (ev_var rfl) (ev_bi (us := [bU (bfs N 0 j)]) (ev_l1 (ev_var rfl)) (by simp [evBi, cont])) lt_I
      by_cases h : j < (bfs N 0 j).length
      · rw [decide_eq_true h] at c
        have ho := K.bfs_lt K.n1 j _ (List.getElem_mem h)
        have eo : (bfs N 0 j)[j]? = some (bfs N 0 j)[j] := List.getElem?_eq_getElem h
        have es : bfs N 0 (j + 1) = look (bfs N 0 j) (row N (bfs N 0 j)[j]) := by
          rw [bfs]
          unfold bstep
          rw [eo]
        have six := K.six ho
        obtain ⟨σ2, μ2, e2, z3, z4, hσ2, hμ2⟩ := forL_inv0 (step := fstep (runF defs k) μ'.length (.tup [(.slot 3), (.slot 4)]) lb__law_is_whole_0) (xs := (row N (bfs N 0 j)[j]).map pU)
          (fun i σ ν => ∃ z3 z4, σ = [some (netU N), some (bU (look (bfs N 0 j) ((row N (bfs N 0 j)[j]).take i))), some (I j), z3, z4] ∧ ν = μ') (σ := [some (netU N), some (bU (bfs N 0 j)), some (I j), y3, y4]) (μ := μ') ⟨y3, y4, by simp [look], rfl⟩ (fun i x σ ν hx hp => by
            obtain ⟨z3, z4, rfl, rfl⟩ := hp
            obtain ⟨p, hp, hm, rfl⟩ := map_at hx
            have lt := look_take (L := bfs N 0 j) hp
            have lz := look_len (bfs N 0 j) ((row N (bfs N 0 j)[j]).take i)
            rw [List.length_take] at lz
            generalize look (bfs N 0 j) ((row N (bfs N 0 j)[j]).take i) = M at lt lz
            refine ⟨[some (netU N), some (bU (look (bfs N 0 j) ((row N (bfs N 0 j)[j]).take (i + 1)))), some (I j), some (I p.1), some (I p.2)], ν, .inl ?_, _, _, rfl, rfl⟩
            show exL (runF defs k) ν.length lb__law_is_whole_0 [some (netU N), some (bU M), some (I j), some (I p.1), some (I p.2)] ν = _
            have c : evalE (runF defs k) ν.length (.cmp .notin (.var 3) (.var 1)) [some (netU N), some (bU M), some (I j), some (I p.1), some (I p.2)] ν = some (.bl (!decide (p.1 ∈ M)), ν) := ev_cmp (ev_var rfl) (ev_var rfl) (notin_bU _ _ _)
            unfold lb__law_is_whole_0
            rw [lt]
            refine (ex_seq (ex_set (u := bU (insN M p.1)) (μ' := ν) ?_)).trans ex_nil
            unfold insN
            by_cases hm : p.1 ∈ M
            · rw [decide_eq_true hm] at c
              rw [if_pos hm]
              have := ev_addL (xs := M.map I) (ys := []) (ev_var (cal := runF defs k) (n0 := ν.length) (σ := [some (netU N), some (bU M), some (I j), some (I p.1), some (I p.2)]) (μ := ν) (i := 1) rfl) (ev_iteF (a := .lst false [.var 3]) c rfl (ev_lst (es := []) ev_lnil (show 0 ≤ SZ by decide))) (by simp; unfold SZ; omega)
              simpa using this
            · rw [decide_eq_false hm] at c
              rw [if_neg hm]
              unfold bU
              rw [List.map_append]
              exact ev_addL (ev_var rfl) (ev_iteT c rfl (ev_lst (us := [I p.1]) (ev_l1 (ev_var rfl)) (show 1 ≤ SZ by decide))) (by simp; unfold SZ; omega))
        rw [List.length_map, List.take_length, ← es] at hσ2
        have at1 : evalE (runF defs k) μ'.length (.idx (.var 0) (.idx (.var 1) (.var 2))) [some (netU N), some (bU (bfs N 0 j)), some (I j), y3, y4] μ' = some (rU (row N (bfs N 0 j)[j]), μ') := ev_idxT (ev_var rfl) (ev_idxL1 (u := bU (bfs N 0 j)) (ev_var rfl) (ev_var rfl) rfl (atI_of (by rw [List.getElem?_map, eo]; rfl))) (net_at ho)
        refine ⟨[some (netU N), some (bU (bfs N 0 (j + 1))), some (I j), z3, z4], μ', .inl ?_, some (I j), z3, z4, rfl, rfl⟩
        show exL (runF defs k) μ'.length lb__law_is_whole_2 [some (netU N), some (bU (bfs N 0 j)), some (I j), y3, y4] μ' = _
        unfold lb__law_is_whole_2
        refine (ex_seq ((ex_ifT c rfl).trans ((ex_seq ((show exS _ _ l__law_is_whole_0 _ _ = _ from ex_for (us := [rU (row N (bfs N 0 j)[j])]) (ev_l1 at1) rfl).trans e2)).trans ex_nil))).trans ?_
        rw [hσ2, hμ2]
        exact ex_nil
      · rw [decide_eq_false h] at c
        have es : bfs N 0 (j + 1) = bfs N 0 j := by
          rw [bfs]
          unfold bstep
          rw [List.getElem?_eq_none_iff.mpr (by omega)]
        refine ⟨[some (netU N), some (bU (bfs N 0 (j + 1))), some (I j), y3, y4], μ', .inl ?_, some (I j), y3, y4, rfl, rfl⟩
        rw [es]
        exact (ex_seq ((ex_ifF c rfl).trans ex_nil)).trans ex_nil)
  rw [List.length_map, List.length_range] at hσ
  rw [hσ, hμ] at e
  have b : exL (runF defs k) μ.length b__law_is_whole [some (netU N), none, none, none, none] μ = some (.rt (.bl (decide ((bfs N 0 N.length).length = N.length))) μ) := by
    unfold b__law_is_whole
    refine (ex_seq (ex_set (u := bU [0]) (μ' := μ) (ev_lst (ev_l1 ev_int) (show 1 ≤ SZ by decide)))).trans ?_
    refine (ex_seq ((show exS _ _ l__law_is_whole_2 _ _ = _ from ex_for (us := [I N.length]) (xs := (List.range N.length).map I) (ev_l1 (ev_bi (us := [netU N]) (ev_l1 (ev_var rfl)) (by simp [evBi, cont]))) (walk_rng (by omega))).trans e)).trans ?_
    exact ex_ret (ev_cmp (u := I (bfs N 0 N.length).length) (v := I N.length) (ev_bi (us := [bU (bfs N 0 N.length)]) (ev_l1 (ev_var rfl)) (by simp [evBi, cont])) (ev_bi (us := [netU N]) (ev_l1 (ev_var rfl)) (by simp [evBi, cont])) eq_I)
  exact (if_pos rfl).trans (run_rt b (fin_cut rfl (by simp)))
theorem law_num_ok {B d : Nat} {u : U} (h : Pl B d u) (lo hi : Int) : runF defs (k + 2) 25 [u, .int lo, .int hi] μ = some (.bl (isW lo hi u), μ) := by
  rw [run__law_is_number]
  have s := sort_pl k h μ
  refine (if_pos rfl).trans (run_rt (μ1 := μ) (u := .bl (isW lo hi u)) ?_ (fin_cut rfl (by simp)))
  have c : evalE (runF defs (k + 1)) μ.length (.cmp .eq (.call 23 [(.var 0)]) (.int 2)) [some u, some (.int lo), some (.int hi)] μ = some (.bl (decide (srtU u = 2)), μ) := ev_cmp (ev_call (ev_l1 (ev_var rfl)) s) ev_int (by simp only [evCmp, eq_int])
  have no : srtU u ≠ 2 → isW lo hi u = false → exL (runF defs (k + 1)) μ.length b__law_is_number [some u, some (.int lo), some (.int hi)] μ = some (.rt (.bl (isW lo hi u)) μ) := fun h1 h2 => by
    rw [decide_eq_false h1] at c
    rw [h2]
    exact ex_ret (ev_andF c)
  cases h with
  | int d i =>
    rw [decide_eq_true (show srtU (U.int i) = 2 from rfl)] at c
    refine ex_ret (ev_andT c (ev_b1 ?_))
    by_cases h1 : i < lo
    · have : isW lo hi (.int i) = false := by simp [isW]; omega
      rw [this]
      simp [evalE, evCmp, evLt, neg?, h1]
    · by_cases h2 : hi < i
      · have : isW lo hi (.int i) = false := by simp [isW]; omega
        rw [this]
        simp [evalE, evCmp, evLt, neg?, h1, h2]
      · have : isW lo hi (.int i) = true := by simp [isW]; omega
        rw [this]
        simp [evalE, evCmp, evLt, neg?, h1, h2]
  | _ => exact no (by simp [srtU]) rfl
theorem decD_two {xs : List (List U)} {a b : U} : (decD xs (.tup [a, b])).isSome = (isW 0 ((xs.length : Int) - 1) a && (match a with
    | .int i => isW 0 (((wL xs i.toNat).length : Int) - 1) b
    | _ => false)) := by
  cases a <;> cases b <;> simp [decD, isW]
  rename_i i j
  split
  · rename_i c
    simp [c]
  · rename_i c
    simp only [Option.isSome_none]
    symm
    rw [Bool.eq_false_iff]
    simp
    omega
theorem v_at {xs : List (List U)} {i : Int} (h0 : 0 ≤ i) (h1 : i ≤ (xs.length : Int) - 1) : atI (xs.map U.tup) i = some (.tup (wL xs i.toNat)) := by
  obtain ⟨j, rfl⟩ : ∃ j : Nat, i = j := ⟨i.toNat, by omega⟩
  refine atI_of ?_
  rw [List.getElem?_map]
  unfold wL
  rw [Int.toNat_natCast, List.getElem?_eq_getElem (show j < xs.length by omega)]
  rfl
theorem len_v {cal : Nat → List U → Mu → Option (U × Mu)} {n0 : Nat} {σ : R.Env} {e : E} {zs : List U} (h : evalE cal n0 e σ μ = some (.tup zs, μ)) : evalE cal n0 (.bin false .sub (.bi .len [e]) (.int 1)) σ μ = some (.int ((zs.length : Int) - 1), μ) := ev_bm (u := I zs.length) (v := .int 1) (ev_bi (us := [.tup zs]) (ev_l1 h) (by simp [evBi, cont])) ev_int rfl
theorem is_door_ok {B d : Nat} (xs : List (List U)) {u : U} (h : Pl B d u) : runF defs (k + 2) 3 [vU xs, u] μ = some (.bl (decD xs u).isSome, μ) := by
  rw [run_is_door]
  have t := tuple_pl k h 2 2 μ
  refine (if_pos rfl).trans (run_rt (μ1 := μ) (u := .bl (decD xs u).isSome) ?_ (fin_cut rfl (by simp)))
  unfold b_is_door
  have tn := ev_not (cal := runF defs (k + 1)) (n0 := μ.length) (σ := [some (vU xs), some u]) (a := .call 1 [(.var 1), (.int 2), (.int 2)]) (ev_call (us := [u, I 2, I 2]) (ev_lcons (ev_var rfl) (ev_l2 ev_int ev_int)) t) rfl
  have ln : evalE (runF defs (k + 1)) μ.length (.bin false .sub (.bi .len [(.var 0)]) (.int 1)) [some (vU xs), some u] μ = some (.int ((xs.length : Int) - 1), μ) := by
    have := len_v μ (cal := runF defs (k + 1)) (n0 := μ.length) (σ := [some (vU xs), some u]) (e := .var 0) (zs := xs.map U.tup) (ev_var rfl)
    rw [List.length_map] at this
    exact this
  cases h with
  | @tup d zs hz h =>
    by_cases hl : zs.length = 2
    · match zs, hl with
      | [a, b], _ =>
        rw [show isT 2 2 (.tup [a, b]) = true from rfl] at tn
        have i0 : evalE (runF defs (k + 1)) μ.length (.idx (.var 1) (.int 0)) [some (vU xs), some (.tup [a, b])] μ = some (a, μ) := ev_idxT (ev_var rfl) ev_int (atI_of (j := 0) rfl)
        have i1 : evalE (runF defs (k + 1)) μ.length (.idx (.var 1) (.int 1)) [some (vU xs), some (.tup [a, b])] μ = some (b, μ) := ev_idxT (ev_var rfl) ev_int (atI_of (j := 1) rfl)
        have na : evalE (runF defs (k + 1)) μ.length (.not (.call 0 [(.idx (.var 1) (.int 0)), (.int 0), (.bin false .sub (.bi .len [(.var 0)]) (.int 1))])) [some (vU xs), some (.tup [a, b])] μ = some (.bl (!isW 0 ((xs.length : Int) - 1) a), μ) := ev_not (ev_call (us := [a, .int 0, .int ((xs.length : Int) - 1)]) (ev_lcons i0 (ev_l2 ev_int ln)) (whole_pl k (h a (by simp)) 0 ((xs.length : Int) - 1) μ)) rfl
        rw [decD_two]
        cases ha : isW 0 ((xs.length : Int) - 1) a with
        | false =>
          rw [ha] at na
          exact ex_bad (ev_orF tn (ev_b1 na)) ev_bl
        | true =>
          rw [ha] at na
          obtain ⟨i, rfl⟩ : ∃ i, a = .int i := by
            cases a <;> simp [isW] at ha
            exact ⟨_, rfl⟩
          have hi : 0 ≤ i ∧ i ≤ (xs.length : Int) - 1 := by simpa [isW] using ha
          refine (ex_seq ((ex_ifF (ev_orF tn (ev_b1 na)) rfl).trans ex_nil)).trans (ex_ret ?_)
          have l2 := len_v μ (cal := runF defs (k + 1)) (n0 := μ.length) (σ := [some (vU xs), some (.tup [.int i, b])]) (e := .idx (.var 0) (.idx (.var 1) (.int 0))) (zs := wL xs i.toNat) (ev_idxT (ev_var rfl) i0 (v_at hi.1 hi.2))
          exact ev_call (us := [b, .int 0, .int (((wL xs i.toNat).length : Int) - 1)]) (ev_lcons i1 (ev_l2 ev_int l2)) (whole_pl k (h b (by simp)) 0 (((wL xs i.toNat).length : Int) - 1) μ)
    · rw [show isT 2 2 (.tup zs) = false by simp [isT]; omega] at tn
      have : decD xs (.tup zs) = none := by
        match zs, hl with
        | [], _ => rfl
        | [a], _ => cases a <;> rfl
        | [a, b], hl => simp at hl
        | a :: b :: c :: zs, _ => cases a <;> cases b <;> rfl
      rw [this]
      exact ex_bad (ev_orT tn) ev_bl
  | _ => exact ex_bad (ev_orT tn) ev_bl
end
end K30

set_option Elab.async false
set_option linter.all false
set_option maxRecDepth 100000
set_option maxHeartbeats 4000000
namespace K30
open PySem L2 R
theorem ev_chainI {cal : Nat → List U → Mu → Option (U × Mu)} {n0 : Nat} {σ : R.Env} {μ : Mu} {a b c : E} {i j l : Int} (ha : evalE cal n0 a σ μ = some (.int i, μ)) (hb : evalE cal n0 b σ μ = some (.int j, μ)) (hc : evalE cal n0 c σ μ = some (.int l, μ)) : evalE cal n0 (.chain .le .le a b c) σ μ = some (.bl (decide (i ≤ j ∧ j ≤ l)), μ) := by
  by_cases h1 : j < i
  · rw [decide_eq_false (by omega)]
    simp [evalE, ha, hb, hc, evCmp, evLt, neg?, h1]
  · by_cases h2 : l < j
    · rw [decide_eq_false (by omega)]
      simp [evalE, ha, hb, hc, evCmp, evLt, neg?, h1, h2]
    · rw [decide_eq_true (by omega)]
      simp [evalE, ha, hb, hc, evCmp, evLt, neg?, h1, h2]
theorem eq_pair (μ : Mu) {B d : Nat} {u : U} (h : Pl B d u) (hd : d ≤ 10) (a b : Nat) : evEq μ u (.tup [I a, I b]) = some (eqvB u a b) := by
  have e : dat μ D0 (.tup [I a, I b]) = some (.tuple [.int a, .int b]) := by simp [D0, dat, mapO]
  simp only [evEq, dat_tp μ h (show d ≤ D0 by unfold D0; omega), e]
  rfl
theorem isi_tup (μ : Mu) {B d : Nat} {u : U} (h : Pl B d u) : evIsi μ u .tuple = some (isTupB u) := by cases h <;> rfl
section
variable (k : Nat) (μ : Mu) {B d : Nat} {xs : List (List U)} (hd : d ≤ 10) (hp : ∀ z ∈ xs, ∀ u ∈ z, Pl B d u) (h6 : ∀ z ∈ xs, z.length ≤ 6)
include hp in
theorem at2_pl {p : Nat × Nat} (h2 : p.2 < (wL xs p.1).length) (h1 : p.1 < xs.length) : Pl B d (at2 xs p) ∧ (wL xs p.1)[p.2]? = some (at2 xs p) := by
  have e : (wL xs p.1)[p.2]? = some (at2 xs p) := by
    unfold at2
    rw [List.getElem?_eq_getElem h2]
    rfl
  refine ⟨hp (wL xs p.1) ?_ _ (List.mem_of_getElem? e), e⟩
  unfold wL
  rw [List.getElem?_eq_getElem h1]
  exact List.getElem_mem h1
abbrev sF (xs : List (List U)) (m : Nat) (y2 y3 : Option U) : R.Env := [some (vU xs), some (I m), y2, y3, none, none]
include hd hp h6 in
theorem fits_house {h : Nat} {z : List U} (hz : xs[h]? = some z) (m : Nat) :
    if houseB xs h z = true then exL (runF defs (k + 2)) μ.length lb_fits_net_3 (sF xs m (some (I h)) (some (.tup z))) μ = some (.nx (sF xs m (some (I h)) (some (.tup z))) μ)
    else exL (runF defs (k + 2)) μ.length lb_fits_net_3 (sF xs m (some (I h)) (some (.tup z))) μ = some (.rt (.bl false) μ) := by
  have zm := List.mem_of_getElem? hz
  have pz := hp z zm
  have lz := h6 z zm
  have c1 : evalE (runF defs (k + 2)) μ.length c_fits_net_1 (sF xs m (some (I h)) (some (.tup z))) μ = some (.lst (z.map fun u => .bl (decD xs u).isSome), μ) := by
    have := compL_all (step := cstep (runF defs (k + 2)) μ.length (.slot 4) (.bl true) (.call 3 [(.var 0), (.var 4)]) [4] (sF xs m (some (I h)) (some (.tup z)))) (enc := id) (g := fun u => .bl (decD xs u).isSome) (μ := μ) (xs := z) (acc := []) (fun u hu => cs_yes rfl (ev_call (us := [vU xs, u]) (ev_l2 (ev_var rfl) (ev_var rfl)) (is_door_ok k μ xs (pz u hu)))) (by simp; unfold SZ; omega)
    rw [List.map_id] at this
    exact (ev_comp (us := [.tup z]) (μ1 := μ) (xs := z) (ev_l1 (ev_var rfl)) rfl this).trans rfl
  have n1 := ev_not (ev_all c1) rfl
  unfold lb_fits_net_3 houseB
  cases ha : z.all fun u => (decD xs u).isSome with
  | false =>
    rw [ha] at n1
    rw [Bool.false_and, if_neg (by simp)]
    exact ex_bad n1 ev_bl
  | true =>
    rw [ha] at n1
    rw [Bool.true_and]
    have c2 : evalE (runF defs (k + 2)) μ.length c_fits_net_2 (sF xs m (some (I h)) (some (.tup z))) μ = some (.lst (((List.range z.length).zip z).map fun q => .bl (backB xs h q.1 q.2)), μ) := by
      have := compL_all (step := cstep (runF defs (k + 2)) μ.length (.tup [(.slot 5), (.slot 4)]) (.bl true) (.cmp .eq (.idx (.idx (.var 0) (.idx (.var 4) (.int 0))) (.idx (.var 4) (.int 1))) (.tup [(.var 2), (.var 5)])) [5, 4] (sF xs m (some (I h)) (some (.tup z)))) (enc := fun q : Nat × U => U.tup [I q.1, q.2]) (g := fun q => .bl (backB xs h q.1 q.2)) (μ := μ) (xs := (List.range z.length).zip z) (acc := []) (fun q hq => ?_) (by simp; unfold SZ; omega)
      · refine (ev_comp (us := [.tup z]) (μ1 := μ) (xs := ((List.range z.length).zip z).map fun q => .tup [I q.1, q.2]) (ev_l1 (ev_var rfl)) ?_ this).trans rfl
        simp only [walk]
        have := enum_map (id : U → U) z
        rw [List.map_id] at this
        rw [this]
        rfl
      · have zq := zr_mem.mp hq
        have qm := List.mem_of_getElem? zq
        have ds : (decD xs q.2).isSome = true := (List.all_eq_true.mp ha) q.2 qm
        obtain ⟨p, dp⟩ := Option.isSome_iff_exists.mp ds
        obtain ⟨eu, p1, p2⟩ := decD_some dp
        obtain ⟨pl2, e2⟩ := at2_pl hp p2 p1
        have bb : backB xs h q.1 q.2 = eqvB (at2 xs p) h q.1 := by simp only [backB, dp]
        rw [bb]
        refine cs_yes (σ' := [some (vU xs), some (I m), some (I h), some (.tup z), some q.2, some (I q.1)]) rfl ?_
        rw [eu]
        refine ev_cmp (u := at2 xs p) (v := .tup [I h, I q.1]) (ev_idxT (xs := wL xs p.1) (j := (p.2 : Int)) (ev_idxT (xs := xs.map U.tup) (j := (p.1 : Int)) (ev_var rfl) (ev_idxT (ev_var rfl) ev_int (atI_of (j := 0) rfl)) (v_at (by omega) (by omega))) (ev_idxT (ev_var rfl) ev_int (atI_of (j := 1) rfl)) (atI_of e2)) (ev_tup (ev_l2 (ev_var rfl) (ev_var rfl)) (show 2 ≤ SZ by decide)) (eq_pair μ pl2 hd h q.1)
    have n2 := ev_not (ev_all c2) rfl
    cases hb : ((List.range z.length).zip z).all fun q => backB xs h q.1 q.2 with
    | false =>
      rw [hb] at n2
      rw [if_neg (by simp)]
      exact (ex_seq ((ex_ifF n1 rfl).trans ex_nil)).trans (ex_bad n2 ev_bl)
    | true =>
      rw [hb] at n2
      rw [if_pos rfl]
      exact (ex_seq ((ex_ifF n1 rfl).trans ex_nil)).trans ((ex_seq ((ex_ifF n2 rfl).trans ex_nil)).trans ex_nil)
include hd hp h6 in
theorem fits_loop (m : Nat) :
    if doorsB xs = true then ∃ y2 y3, exS (runF defs (k + 2)) μ.length l_fits_net_3 (sF xs m none none) μ = some (.nx (sF xs m y2 y3) μ) else exS (runF defs (k + 2)) μ.length l_fits_net_3 (sF xs m none none) μ = some (.rt (.bl false) μ) := by
  let F : Nat → U → Bool := fun h v => match v with
    | .tup z => houseB xs h z
    | _ => true
  have t := forL_test (step := fstep (runF defs (k + 2)) μ.length (.tup [(.slot 2), (.slot 3)]) lb_fits_net_3) (p := pE F) (Q := fun σ => ∃ y2 y3, σ = sF xs m y2 y3) (μ := μ) (w := .bl false) (xs := enum (xs.map U.tup)) (σ := sF xs m none none) ⟨none, none, rfl⟩ (fun x hx σ hq => by
    obtain ⟨y2, y3, rfl⟩ := hq
    obtain ⟨h, v, rfl, hv⟩ := enum_mem hx
    rw [List.getElem?_map] at hv
    cases hz : xs[h]? with
    | none => rw [hz] at hv; cases hv
    | some z =>
      rw [hz] at hv
      cases hv
      have r := fits_house k μ hd hp h6 hz m
      show if houseB xs (Int.toNat (h : Int)) z = true then _ else _
      rw [Int.toNat_natCast]
      by_cases hb : houseB xs h z = true
      · rw [if_pos hb] at r ⊢
        exact ⟨_, r, some (I h), some (.tup z), rfl⟩
      · rw [if_neg hb] at r ⊢
        exact r)
  have ea : (enum (xs.map U.tup)).all (pE F) = doorsB xs := by
    rw [enum_all, List.length_map]
    unfold doorsB
    have : (List.range xs.length).zip (xs.map U.tup) = ((List.range xs.length).zip xs).map fun q => (q.1, U.tup q.2) := by
      have := List.zip_map (f := id) (g := U.tup) (l₁ := List.range xs.length) (l₂ := xs)
      rw [List.map_id] at this
      exact this
    rw [this, List.all_map]
    rfl
  rw [ea] at t
  have ef : exS (runF defs (k + 2)) μ.length l_fits_net_3 (sF xs m none none) μ = forL (fstep (runF defs (k + 2)) μ.length (.tup [(.slot 2), (.slot 3)]) lb_fits_net_3) (enum (xs.map U.tup)) (sF xs m none none) μ := ex_for (us := [vU xs]) (ev_l1 (ev_var rfl)) rfl
  by_cases hb : doorsB xs = true
  · rw [if_pos hb] at t ⊢
    obtain ⟨σ', e, y2, y3, rfl⟩ := t
    exact ⟨y2, y3, ef.trans e⟩
  · rw [if_neg hb] at t ⊢
    exact ef.trans t
theorem vU_net (N : Net) : vU (N.map fun r => r.map pU) = netU N := by
  show U.tup _ = U.tup _
  rw [List.map_map]
  rfl
theorem lnk_of {N : Net} (h1 : 1 ≤ xs.length ∧ xs.length ≤ 10) (h6 : ∀ z ∈ xs, z.length ≤ 6) (hN : decN xs = some N) : Lnk N := by
  obtain ⟨e, l⟩ := decN_some hN
  have el : xs.length = N.length := by rw [e, List.length_map]
  refine ⟨by omega, by omega, fun r hr => ?_, l⟩
  have := h6 (r.map pU) (by rw [e]; exact List.mem_map.mpr ⟨r, hr, rfl⟩)
  simpa using this
end
section
variable (k : Nat) (μ : Mu) {B d : Nat}
theorem fits_net_ok (hd : d ≤ 10) {u : U} (h : Pl B d u) : runF defs (k + 3) 5 [u, I 10] μ = some (.bl (okNet u), μ) := by
  rw [run_fits_net]
  refine (if_pos rfl).trans (run_rt (μ1 := μ) (u := .bl (okNet u)) ?_ (fin_cut rfl (by simp)))
  have t := tuple_pl (k + 1) h 1 10 μ
  have tn := ev_not (cal := runF defs (k + 2)) (n0 := μ.length) (σ := [some u, some (I 10), none, none, none, none]) (a := .call 1 [(.var 0), (.int 1), (.var 1)]) (ev_call (us := [u, I 1, I 10]) (ev_lcons (ev_var rfl) (ev_l2 ev_int (ev_var rfl))) t) rfl
  unfold b_fits_net
  cases h with
  | @tup d ys hz h =>
    simp only [okNet]
    by_cases hl : 1 ≤ ys.length ∧ ys.length ≤ 10
    · rw [show isT 1 10 (.tup ys) = true by simp [isT]; omega] at tn
      rw [if_pos hl]
      have c0 : evalE (runF defs (k + 2)) μ.length c_fits_net_0 [some (.tup ys), some (I 10), none, none, none, none] μ = some (.lst (ys.map fun y => .bl (as6 y).isSome), μ) := by
        have := compL_all (step := cstep (runF defs (k + 2)) μ.length (.slot 3) (.bl true) (.call 1 [(.var 3), (.int 0), (.gint 6)]) [3] [some (.tup ys), some (I 10), none, none, none, none]) (enc := id) (g := fun y => .bl (as6 y).isSome) (μ := μ) (xs := ys) (acc := []) (fun y hy => cs_yes rfl ?_) (by simp; unfold SZ; omega)
        · rw [List.map_id] at this
          exact (ev_comp (us := [.tup ys]) (μ1 := μ) (xs := ys) (ev_l1 (ev_var rfl)) rfl this).trans rfl
        · have ty := tuple_pl (k + 1) (h y hy) 0 6 μ
          have e : isT 0 6 y = (as6 y).isSome := by
            cases y <;> simp [isT, as6]
            split <;> simp_all
          rw [e] at ty
          exact ev_call (us := [y, I 0, I 6]) (ev_lcons (ev_var rfl) (ev_l2 ev_int ev_gint)) ty
      have n0 := ev_not (ev_all c0) rfl
      rw [← mapO_all as6 ys] at n0
      cases hm : mapO as6 ys with
      | none =>
        rw [hm] at n0
        exact ex_bad (ev_orF tn (ev_b1 n0)) ev_bl
      | some xs =>
        rw [hm] at n0
        obtain ⟨rfl, h6⟩ := as6_list hm
        rw [List.length_map] at hl
        have hp : ∀ z ∈ xs, ∀ u ∈ z, Pl B d u := fun z hz u hu => by
          have := h (.tup z) (List.mem_map.mpr ⟨z, hz, rfl⟩)
          cases this with
          | tup _ g => exact (g u hu).up (Nat.le_refl _) (Nat.le_succ _)
        have L := fits_loop k μ (show d ≤ 10 by omega) hp h6 10
        refine (ex_seq ((ex_ifF (ev_orF tn (ev_b1 n0)) rfl).trans ex_nil)).trans ?_
        rw [doorsB_eq] at L
        simp only [netB]
        cases hN : decN xs with
        | none =>
          rw [hN, if_neg (by simp)] at L
          have L' : exS (runF defs (k + 2)) μ.length l_fits_net_3 [some (vU xs), some (I 10), none, none, none, none] μ = some (.rt (.bl false) μ) := L
          simp only [exL, L']
        | some N =>
          rw [hN, if_pos (show (some N).isSome = true from rfl)] at L
          obtain ⟨y2, y3, L⟩ := L
          refine (ex_seq L).trans (ex_ret ?_)
          have K := lnk_of hl h6 hN
          obtain ⟨e, _⟩ := decN_some hN
          have re := reached_ok (k + 1) μ K
          have ev : vU xs = netU N := by rw [e]; exact vU_net N
          have el : xs.length = N.length := by rw [e, List.length_map]
          have l0 : evalE (runF defs (k + 2)) μ.length (.bi .len [(.var 0)]) (sF xs 10 y2 y3) μ = some (I N.length, μ) := ev_bi (us := [vU xs]) (ev_l1 (ev_var rfl)) (by simp [evBi, cont, el])
          refine ev_cmp (u := I (bfs N 0 N.length).length) (v := I N.length) (ev_bi (us := [bU (bfs N 0 N.length)]) (ev_l1 (ev_call (us := [netU N]) (ev_l1 (by rw [← ev]; exact ev_var rfl)) re)) (by simp [evBi, cont])) l0 eq_I
    · rw [show isT 1 10 (.tup ys) = false by simp [isT]; omega] at tn
      rw [if_neg hl]
      exact ex_bad (ev_orT tn) ev_bl
  | _ => exact ex_bad (ev_orT tn) ev_bl
theorem is_net_ok (hd : d ≤ 10) {u : U} (h : Pl B d u) : runF defs (k + 4) 14 [u] μ = some (.bl (okNet u), μ) := by
  rw [run_is_net]
  refine (if_pos rfl).trans (run_rt (μ1 := μ) (u := .bl (okNet u)) ?_ (fin_cut rfl (by simp)))
  exact ex_ret (ev_call (us := [u, I 10]) (ev_l2 (ev_var rfl) ev_gint) (fits_net_ok k μ hd h))
end
end K30

set_option Elab.async false
set_option linter.all false
set_option maxRecDepth 100000
set_option maxHeartbeats 4000000
namespace K30
open PySem L2 R
/-! ### the law's judge of nets -/
theorem filter_none {α : Type} (p : α → Bool) (l : List α) : (l.filter fun v => !p v).isEmpty = l.all p := by
  rw [Bool.eq_iff_iff, List.isEmpty_iff, List.filter_eq_nil_iff, List.all_eq_true]
  constructor
  · intro z x hx; simpa using z x hx
  · intro z x hx; simpa using z x hx
section
variable (k : Nat) (μ : Mu) {B d : Nat} {xs : List (List U)} (hd : d ≤ 10) (hB : B ≤ 1000) (hp : ∀ z ∈ xs, ∀ u ∈ z, Pl B d u) (h6 : ∀ z ∈ xs, z.length ≤ 6)
abbrev sL (xs : List (List U)) (m : Nat) (y2 y3 y4 y5 y6 : Option U) : R.Env := [some (vU xs), some (I m), y2, y3, y4, y5, y6, none]
include hd hB hp in
theorem law_door {h a : Nat} {z : List U} {u : U} (hz : xs[h]? = some z) (hu : z[a]? = some u) (m : Nat) (y6 : Option U) :
    if lB xs h a u = true then ∃ y6', exL (runF defs (k + 2)) μ.length lb__law_is_net_2 (sL xs m (some (I h)) (some (.tup z)) (some (I a)) (some u) y6) μ = some (.nx (sL xs m (some (I h)) (some (.tup z)) (some (I a)) (some u) y6') μ)
    else exL (runF defs (k + 2)) μ.length lb__law_is_net_2 (sL xs m (some (I h)) (some (.tup z)) (some (I a)) (some u) y6) μ = some (.rt (.bl false) μ) := by
  have pu := hp z (List.mem_of_getElem? hz) u (List.mem_of_getElem? hu)
  have no : decD xs u = none → lB xs h a u = false := fun z => by simp only [lB, z]
  have bad : lB xs h a u = false → exL (runF defs (k + 2)) μ.length lb__law_is_net_2 (sL xs m (some (I h)) (some (.tup z)) (some (I a)) (some u) y6) μ = some (.rt (.bl false) μ) → if lB xs h a u = true then ∃ y6', exL (runF defs (k + 2)) μ.length lb__law_is_net_2 (sL xs m (some (I h)) (some (.tup z)) (some (I a)) (some u) y6) μ = some (.nx (sL xs m (some (I h)) (some (.tup z)) (some (I a)) (some u) y6') μ)
    else exL (runF defs (k + 2)) μ.length lb__law_is_net_2 (sL xs m (some (I h)) (some (.tup z)) (some (I a)) (some u) y6) μ = some (.rt (.bl false) μ) := fun h1 h2 => by
    rw [h1, if_neg (by simp)]
    exact h2
  have it := ev_not (cal := runF defs (k + 2)) (n0 := μ.length) (σ := sL xs m (some (I h)) (some (.tup z)) (some (I a)) (some u) y6) (μ1 := μ) (ev_isi (a := .var 5) (ev_var rfl) (isi_tup μ pu)) rfl
  have ln : evalE (runF defs (k + 2)) μ.length (.bin false .sub (.bi .len [(.var 0)]) (.int 1)) (sL xs m (some (I h)) (some (.tup z)) (some (I a)) (some u) y6) μ = some (.int ((xs.length : Int) - 1), μ) := by
    have := len_v μ (cal := runF defs (k + 2)) (n0 := μ.length) (σ := sL xs m (some (I h)) (some (.tup z)) (some (I a)) (some u) y6) (e := .var 0) (zs := xs.map U.tup) (ev_var rfl)
    rw [List.length_map] at this
    exact this
  by_cases ht : ∃ ws, u = .tup ws
  · obtain ⟨ws, rfl⟩ := ht
    have it' : evalE (runF defs (k + 2)) μ.length (.not (.isi (.var 5) .tuple)) (sL xs m (some (I h)) (some (.tup z)) (some (I a)) (some (.tup ws)) y6) μ = some (.bl false, μ) := it
    have l5 : evalE (runF defs (k + 2)) μ.length (.cmp .ne (.bi .len [(.var 5)]) (.int 2)) (sL xs m (some (I h)) (some (.tup z)) (some (I a)) (some (.tup ws)) y6) μ = some (.bl (decide (ws.length ≠ 2)), μ) := ev_cmp (u := I ws.length) (v := I 2) (ev_bi (us := [.tup ws]) (ev_l1 (ev_var rfl)) (by simp [evBi, cont])) ev_int ne_I
    by_cases hl : ws.length = 2
    · rw [decide_eq_false (by omega)] at l5
      match ws, hl with
      | [w0, w1], _ =>
        have p0 : Pl B d w0 := by
          cases pu with
          | tup _ g => exact (g w0 (by simp)).up (Nat.le_refl _) (Nat.le_succ _)
        have p1 : Pl B d w1 := by
          cases pu with
          | tup _ g => exact (g w1 (by simp)).up (Nat.le_refl _) (Nat.le_succ _)
        have i0 : ∀ {y6 : Option U}, evalE (runF defs (k + 2)) μ.length (.idx (.var 5) (.int 0)) (sL xs m (some (I h)) (some (.tup z)) (some (I a)) (some (.tup [w0, w1])) y6) μ = some (w0, μ) := ev_idxT (ev_var rfl) ev_int (atI_of (j := 0) rfl)
        have i1 : ∀ {y6 : Option U}, evalE (runF defs (k + 2)) μ.length (.idx (.var 5) (.int 1)) (sL xs m (some (I h)) (some (.tup z)) (some (I a)) (some (.tup [w0, w1])) y6) μ = some (w1, μ) := ev_idxT (ev_var rfl) ev_int (atI_of (j := 1) rfl)
        have na : evalE (runF defs (k + 2)) μ.length (.not (.call 25 [(.idx (.var 5) (.int 0)), (.int 0), (.bin false .sub (.bi .len [(.var 0)]) (.int 1))])) (sL xs m (some (I h)) (some (.tup z)) (some (I a)) (some (.tup [w0, w1])) y6) μ = some (.bl (!isW 0 ((xs.length : Int) - 1) w0), μ) := ev_not (ev_call (us := [w0, .int 0, .int ((xs.length : Int) - 1)]) (ev_lcons i0 (ev_l2 ev_int ln)) (law_num_ok k μ p0 0 ((xs.length : Int) - 1))) rfl
        have two := @decD_two xs w0 w1
        unfold lb__law_is_net_2
        cases ha : isW 0 ((xs.length : Int) - 1) w0 with
        | false =>
          rw [ha] at na two
          exact bad (no (by simpa using two)) (ex_bad (ev_orF it' (ev_orF l5 (ev_b1 na))) ev_bl)
        | true =>
          rw [ha] at na two
          obtain ⟨i, rfl⟩ : ∃ i, w0 = .int i := by
            cases w0 <;> simp [isW] at ha
            exact ⟨_, rfl⟩
          have hi : 0 ≤ i ∧ i ≤ (xs.length : Int) - 1 := by simpa [isW] using ha
          have s1 := ex_seq (ss := [.iff (.not (.call 25 [(.idx (.var 5) (.int 1)), (.int 0), (.bin false .sub (.bi .len [(.idx (.var 0) (.idx (.var 5) (.int 0)))]) (.int 1))])) [.ret (.bl false)] [], .set 6 (.idx (.idx (.var 0) (.idx (.var 5) (.int 0))) (.idx (.var 5) (.int 1))), .iff (.bool false [(.not (.isi (.var 6) .tuple)), (.cmp .ne (.var 6) (.tup [(.var 2), (.var 4)])), (.cmp .ne c__law_is_net_1 (.lst false []))]) [.ret (.bl false)] []]) ((ex_ifF (t := [.ret (.bl false)]) (ev_orF it' (ev_orF l5 (ev_b1 na))) rfl).trans ex_nil)
          have ax : ∀ {y6 : Option U}, evalE (runF defs (k + 2)) μ.length (.idx (.var 0) (.idx (.var 5) (.int 0))) (sL xs m (some (I h)) (some (.tup z)) (some (I a)) (some (.tup [.int i, w1])) y6) μ = some (.tup (wL xs i.toNat), μ) := ev_idxT (ev_var rfl) i0 (v_at hi.1 hi.2)
          have nb : evalE (runF defs (k + 2)) μ.length (.not (.call 25 [(.idx (.var 5) (.int 1)), (.int 0), (.bin false .sub (.bi .len [(.idx (.var 0) (.idx (.var 5) (.int 0)))]) (.int 1))])) (sL xs m (some (I h)) (some (.tup z)) (some (I a)) (some (.tup [.int i, w1])) y6) μ = some (.bl (!isW 0 (((wL xs i.toNat).length : Int) - 1) w1), μ) := ev_not (ev_call (us := [w1, .int 0, .int (((wL xs i.toNat).length : Int) - 1)]) (ev_lcons i1 (ev_l2 ev_int (len_v μ ax))) (law_num_ok k μ p1 0 (((wL xs i.toNat).length : Int) - 1))) rfl
          rw [Bool.true_and] at two
          simp only at two
          cases hb : isW 0 (((wL xs i.toNat).length : Int) - 1) w1 with
          | false =>
            rw [hb] at nb two
            exact bad (no (by simpa using two)) (s1.trans (ex_bad nb ev_bl))
          | true =>
            rw [hb] at nb two
            obtain ⟨p, dp⟩ := Option.isSome_iff_exists.mp two
            obtain ⟨eu, q1, q2⟩ := decD_some dp
            have e1 : i = (p.1 : Int) := by injection eu with z; injection z with z1 z2; injection z1
            have e2 : w1 = I p.2 := by injection eu with z; injection z with z1 z2; injection z2
            subst e1
            subst e2
            obtain ⟨pl2, ea⟩ := at2_pl hp q2 q1
            have s2 := ex_seq (ss := [.set 6 (.idx (.idx (.var 0) (.idx (.var 5) (.int 0))) (.idx (.var 5) (.int 1))), .iff (.bool false [(.not (.isi (.var 6) .tuple)), (.cmp .ne (.var 6) (.tup [(.var 2), (.var 4)])), (.cmp .ne c__law_is_net_1 (.lst false []))]) [.ret (.bl false)] []]) ((ex_ifF (t := [.ret (.bl false)]) nb rfl).trans ex_nil)
            have lb : lB xs h a (.tup [.int p.1, I p.2]) = (isTupB (at2 xs p) && eqvB (at2 xs p) h a && intsB (at2 xs p)) := by simp only [lB, dp]
            have st : ∀ r, exL (runF defs (k + 2)) μ.length [.iff (.bool false [(.not (.isi (.var 6) .tuple)), (.cmp .ne (.var 6) (.tup [(.var 2), (.var 4)])), (.cmp .ne c__law_is_net_1 (.lst false []))]) [.ret (.bl false)] []] (sL xs m (some (I h)) (some (.tup z)) (some (I a)) (some (.tup [.int p.1, I p.2])) (some (at2 xs p))) μ = r → exL (runF defs (k + 2)) μ.length lb__law_is_net_2 (sL xs m (some (I h)) (some (.tup z)) (some (I a)) (some (.tup [.int p.1, I p.2])) y6) μ = r := fun r hr => by
              unfold lb__law_is_net_2
              refine s1.trans (s2.trans ?_)
              refine (ex_seq (ex_set (u := at2 xs p) (μ' := μ) (ev_idxT ax i1 (atI_of (j := p.2) (by rw [Int.toNat_natCast]; exact ea))))).trans hr
            have it6 := ev_not (cal := runF defs (k + 2)) (n0 := μ.length) (σ := sL xs m (some (I h)) (some (.tup z)) (some (I a)) (some (.tup [.int p.1, I p.2])) (some (at2 xs p))) (μ1 := μ) (ev_isi (a := .var 6) (ev_var rfl) (isi_tup μ pl2)) rfl
            have ne6 : evalE (runF defs (k + 2)) μ.length (.cmp .ne (.var 6) (.tup [(.var 2), (.var 4)])) (sL xs m (some (I h)) (some (.tup z)) (some (I a)) (some (.tup [.int p.1, I p.2])) (some (at2 xs p))) μ = some (.bl (!eqvB (at2 xs p) h a), μ) := ev_cmp (u := at2 xs p) (v := .tup [I h, I a]) (ev_var rfl) (ev_tup (ev_l2 (ev_var rfl) (ev_var rfl)) (show 2 ≤ SZ by decide)) (by simp only [evCmp, eq_pair μ pl2 hd h a, neg?])
            show if lB xs h a (.tup [.int p.1, I p.2]) = true then ∃ y6', exL (runF defs (k + 2)) μ.length lb__law_is_net_2 (sL xs m (some (I h)) (some (.tup z)) (some (I a)) (some (.tup [.int p.1, I p.2])) y6) μ = some (.nx (sL xs m (some (I h)) (some (.tup z)) (some (I a)) (some (.tup [.int p.1, I p.2])) y6') μ)
              else exL (runF defs (k + 2)) μ.length lb__law_is_net_2 (sL xs m (some (I h)) (some (.tup z)) (some (I a)) (some (.tup [.int p.1, I p.2])) y6) μ = some (.rt (.bl false) μ)
            cases t6 : isTupB (at2 xs p) with
            | false =>
              rw [t6] at it6 lb
              rw [lb, if_neg (by simp)]
              exact st _ (ex_bad (ev_orT it6) ev_bl)
            | true =>
              rw [t6] at it6 lb
              cases q6 : eqvB (at2 xs p) h a with
              | false =>
                rw [q6] at ne6 lb
                rw [lb, if_neg (by simp)]
                exact st _ (ex_bad (ev_orF it6 (ev_orT ne6)) ev_bl)
              | true =>
                rw [q6] at ne6 lb
                obtain ⟨vs, ev⟩ : ∃ vs, at2 xs p = .tup vs := by
                  cases hv : at2 xs p <;> rw [hv] at t6 <;> simp [isTupB] at t6
                  exact ⟨_, rfl⟩
                rw [ev] at lb pl2 it6 ne6 st
                have pv : vs.length ≤ B ∧ ∀ v ∈ vs, Pl B d v := by
                  cases pl2 with
                  | tup hz g => exact ⟨hz, fun v hv => (g v hv).up (Nat.le_refl _) (Nat.le_succ _)⟩
                have f : evalE (runF defs (k + 2)) μ.length c__law_is_net_1 (sL xs m (some (I h)) (some (.tup z)) (some (I a)) (some (.tup [.int p.1, I p.2])) (some (.tup vs))) μ = some (.lst (vs.filter fun v => !decide (srtU v = 2)), μ) := by
                  have cf := compL_filter (step := cstep (runF defs (k + 2)) μ.length (.slot 7) (.cmp .ne (.call 23 [(.var 7)]) (.int 2)) (.var 7) [7] (sL xs m (some (I h)) (some (.tup z)) (some (I a)) (some (.tup [.int p.1, I p.2])) (some (.tup vs)))) (enc := id) (g := id) (p := fun v => !decide (srtU v = 2)) (μ := μ) (xs := vs) (acc := []) (fun v hv => ?_) (by simp; unfold SZ; omega)
                  · rw [List.map_id, List.map_id] at cf
                    exact (ev_comp (us := [.tup vs]) (μ1 := μ) (xs := vs) (ev_l1 (ev_var rfl)) rfl cf).trans rfl
                  · have s7 := sort_ne (k + 1) (pv.2 v hv) μ μ.length (σ := [some (vU xs), some (I m), some (I h), some (.tup z), some (I a), some (.tup [.int p.1, I p.2]), some (.tup vs), some v]) (e := .var 7) (ev_var rfl) 2
                    cases hh : decide (srtU v = 2) with
                    | true => rw [hh] at s7; exact cs_no rfl s7 rfl
                    | false => rw [hh] at s7; exact cs_if rfl s7 rfl (ev_var rfl)
                have fn : evalE (runF defs (k + 2)) μ.length (.cmp .ne c__law_is_net_1 (.lst false [])) (sL xs m (some (I h)) (some (.tup z)) (some (I a)) (some (.tup [.int p.1, I p.2])) (some (.tup vs))) μ = some (.bl (!intsB (.tup vs)), μ) := by
                  have := ev_cmp (op := .ne) f (ev_lst (cal := runF defs (k + 2)) (n0 := μ.length) (es := []) (us := []) ev_lnil (show 0 ≤ SZ by decide)) (ne_nil μ (fun v hv => pv.2 v ((List.mem_filter.mp hv).1)) (by unfold D0; omega))
                  rw [this, filter_none]
                  rfl
                cases i6 : intsB (.tup vs) with
                | false =>
                  rw [i6] at fn lb
                  rw [lb, if_neg (by simp)]
                  exact st _ (ex_bad (ev_orF it6 (ev_orF ne6 (ev_b1 fn))) ev_bl)
                | true =>
                  rw [i6] at fn lb
                  rw [lb, if_pos (by rfl)]
                  exact ⟨some (.tup vs), st _ ((ex_seq ((ex_ifF (ev_orF it6 (ev_orF ne6 (ev_b1 fn))) rfl).trans ex_nil)).trans ex_nil)⟩
    · rw [decide_eq_true hl] at l5
      have : decD xs (.tup ws) = none := by
        match ws, hl with
        | [], _ => rfl
        | [a], _ => cases a <;> rfl
        | [a, b], hl => simp at hl
        | a :: b :: c :: ws, _ => cases a <;> cases b <;> rfl
      unfold lb__law_is_net_2
      exact bad (no this) (ex_bad (ev_orF it' (ev_orT l5)) ev_bl)
  · have e : isTupB u = false := by cases u <;> simp [isTupB] at ht ⊢
    have dn : decD xs u = none := by cases u <;> simp [decD] at ht ⊢
    rw [e] at it
    unfold lb__law_is_net_2
    exact bad (no dn) (ex_bad (ev_orT it) ev_bl)
include hd hB hp h6 in
theorem law_house {h : Nat} {z : List U} (hz : xs[h]? = some z) (m : Nat) (y4 y5 y6 : Option U) :
    if houseL xs h z = true then ∃ y4' y5' y6', exL (runF defs (k + 2)) μ.length lb__law_is_net_4 (sL xs m (some (I h)) (some (.tup z)) y4 y5 y6) μ = some (.nx (sL xs m (some (I h)) (some (.tup z)) y4' y5' y6') μ)
    else exL (runF defs (k + 2)) μ.length lb__law_is_net_4 (sL xs m (some (I h)) (some (.tup z)) y4 y5 y6) μ = some (.rt (.bl false) μ) := by
  have lz := h6 z (List.mem_of_getElem? hz)
  have t := forL_test (step := fstep (runF defs (k + 2)) μ.length (.tup [(.slot 4), (.slot 5)]) lb__law_is_net_2) (p := pE (lB xs h)) (Q := fun σ => ∃ y4 y5 y6, σ = sL xs m (some (I h)) (some (.tup z)) y4 y5 y6) (μ := μ) (w := .bl false) (xs := enum z) (σ := sL xs m (some (I h)) (some (.tup z)) y4 y5 y6) ⟨y4, y5, y6, rfl⟩ (fun x hx σ hq => by
    obtain ⟨y4, y5, y6, rfl⟩ := hq
    obtain ⟨a, u, rfl, hu⟩ := enum_mem hx
    have r := law_door k μ hd hB hp hz hu m y6
    show if lB xs h (Int.toNat (a : Int)) u = true then _ else _
    rw [Int.toNat_natCast]
    by_cases hb : lB xs h a u = true
    · rw [if_pos hb] at r ⊢
      obtain ⟨y6', r⟩ := r
      exact ⟨_, r, some (I a), some u, y6', rfl⟩
    · rw [if_neg hb] at r ⊢
      exact r)
  rw [enum_all] at t
  have ef : exS (runF defs (k + 2)) μ.length l__law_is_net_2 (sL xs m (some (I h)) (some (.tup z)) y4 y5 y6) μ = forL (fstep (runF defs (k + 2)) μ.length (.tup [(.slot 4), (.slot 5)]) lb__law_is_net_2) (enum z) (sL xs m (some (I h)) (some (.tup z)) y4 y5 y6) μ := ex_for (us := [.tup z]) (ev_l1 (ev_var rfl)) rfl
  unfold lb__law_is_net_4 houseL
  by_cases hb : (((List.range z.length).zip z).all fun r => lB xs h r.1 r.2) = true
  · rw [if_pos hb] at t ⊢
    obtain ⟨σ', e, y4', y5', y6', rfl⟩ := t
    exact ⟨y4', y5', y6', (ex_seq (ef.trans e)).trans ex_nil⟩
  · rw [if_neg hb] at t ⊢
    simp only [exL, ef, t]
include hd hB hp h6 in
theorem law_doors (m : Nat) :
    if doorsL xs = true then ∃ σ', exS (runF defs (k + 2)) μ.length l__law_is_net_4 (sL xs m none none none none none) μ = some (.nx σ' μ) ∧ σ'[0]? = some (some (vU xs)) else exS (runF defs (k + 2)) μ.length l__law_is_net_4 (sL xs m none none none none none) μ = some (.rt (.bl false) μ) := by
  let F : Nat → U → Bool := fun h v => match v with
    | .tup z => houseL xs h z
    | _ => true
  have t := forL_test (step := fstep (runF defs (k + 2)) μ.length (.tup [(.slot 2), (.slot 3)]) lb__law_is_net_4) (p := pE F) (Q := fun σ => ∃ y2 y3 y4 y5 y6, σ = sL xs m y2 y3 y4 y5 y6) (μ := μ) (w := .bl false) (xs := enum (xs.map U.tup)) (σ := sL xs m none none none none none) ⟨none, none, none, none, none, rfl⟩ (fun x hx σ hq => by
    obtain ⟨y2, y3, y4, y5, y6, rfl⟩ := hq
    obtain ⟨h, v, rfl, hv⟩ := enum_mem hx
    rw [List.getElem?_map] at hv
    cases hz : xs[h]? with
    | none => rw [hz] at hv; cases hv
    | some z =>
      rw [hz] at hv
      cases hv
      have r := law_house k μ hd hB hp h6 hz m y4 y5 y6
      show if houseL xs (Int.toNat (h : Int)) z = true then _ else _
      rw [Int.toNat_natCast]
      by_cases hb : houseL xs h z = true
      · rw [if_pos hb] at r ⊢
        obtain ⟨y4', y5', y6', r⟩ := r
        exact ⟨_, r, some (I h), some (.tup z), y4', y5', y6', rfl⟩
      · rw [if_neg hb] at r ⊢
        exact r)
  have ea : (enum (xs.map U.tup)).all (pE F) = doorsL xs := by
    rw [enum_all, List.length_map]
    unfold doorsL
    have : (List.range xs.length).zip (xs.map U.tup) = ((List.range xs.length).zip xs).map fun q => (q.1, U.tup q.2) := by
      have := List.zip_map (f := id) (g := U.tup) (l₁ := List.range xs.length) (l₂ := xs)
      rw [List.map_id] at this
      exact this
    rw [this, List.all_map]
    rfl
  rw [ea] at t
  have ef : exS (runF defs (k + 2)) μ.length l__law_is_net_4 (sL xs m none none none none none) μ = forL (fstep (runF defs (k + 2)) μ.length (.tup [(.slot 2), (.slot 3)]) lb__law_is_net_4) (enum (xs.map U.tup)) (sL xs m none none none none none) μ := ex_for (us := [vU xs]) (ev_l1 (ev_var rfl)) rfl
  by_cases hb : doorsL xs = true
  · rw [if_pos hb] at t ⊢
    obtain ⟨σ', e, y2, y3, y4, y5, y6, rfl⟩ := t
    exact ⟨_, ef.trans e, rfl⟩
  · rw [if_neg hb] at t ⊢
    exact ef.trans t
end
section
variable (k : Nat) (μ : Mu) {B d : Nat}
theorem law_net_ok (hB : B ≤ 1000) (hd : d ≤ 10) {u : U} (h : Pl B d u) : runF defs (k + 3) 31 [u, I 10] μ = some (.bl (okNet u), μ) := by
  rw [run__law_is_net]
  refine (if_pos rfl).trans (run_rt (μ1 := μ) (u := .bl (okNet u)) ?_ (fin_cut rfl (by simp)))
  have it := ev_not (cal := runF defs (k + 2)) (n0 := μ.length) (σ := [some u, some (I 10), none, none, none, none, none, none]) (μ1 := μ) (ev_isi (a := .var 0) (ev_var rfl) (isi_tup μ h)) rfl
  unfold b__law_is_net
  cases h with
  | @tup d ys hz h =>
    have it' : evalE (runF defs (k + 2)) μ.length (.not (.isi (.var 0) .tuple)) [some (.tup ys), some (I 10), none, none, none, none, none, none] μ = some (.bl false, μ) := it
    have ch := ev_not (ev_chainI (cal := runF defs (k + 2)) (n0 := μ.length) (σ := [some (.tup ys), some (I 10), none, none, none, none, none, none]) (μ := μ) (a := .int 1) (b := .bi .len [(.var 0)]) (c := .var 1) (i := 1) (j := (ys.length : Int)) (l := 10) ev_int (ev_bi (us := [.tup ys]) (ev_l1 (ev_var rfl)) (by simp [evBi, cont])) (ev_var rfl)) rfl
    simp only [okNet]
    by_cases hl : 1 ≤ ys.length ∧ ys.length ≤ 10
    · rw [decide_eq_true (by omega)] at ch
      rw [if_pos hl]
      have f : evalE (runF defs (k + 2)) μ.length c__law_is_net_0 [some (.tup ys), some (I 10), none, none, none, none, none, none] μ = some (.lst (ys.filter fun y => !(as6 y).isSome), μ) := by
        have cf := compL_filter (step := cstep (runF defs (k + 2)) μ.length (.slot 3) (.bool false [(.not (.isi (.var 3) .tuple)), (.cmp .gt (.bi .len [(.var 3)]) (.int 6))]) (.var 3) [3] [some (.tup ys), some (I 10), none, none, none, none, none, none]) (enc := id) (g := id) (p := fun y => !(as6 y).isSome) (μ := μ) (xs := ys) (acc := []) (fun y hy => ?_) (by simp; unfold SZ; omega)
        · rw [List.map_id, List.map_id] at cf
          exact (ev_comp (us := [.tup ys]) (μ1 := μ) (xs := ys) (ev_l1 (ev_var rfl)) rfl cf).trans rfl
        · have py := h y hy
          have i3 := ev_not (cal := runF defs (k + 2)) (n0 := μ.length) (σ := [some (.tup ys), some (I 10), none, some y, none, none, none, none]) (μ1 := μ) (ev_isi (a := .var 3) (ev_var rfl) (isi_tup μ py)) rfl
          have e1 : evalE (runF defs (k + 2)) μ.length (.bool false [(.not (.isi (.var 3) .tuple)), (.cmp .gt (.bi .len [(.var 3)]) (.int 6))]) [some (.tup ys), some (I 10), none, some y, none, none, none, none] μ = some (.bl (!(as6 y).isSome), μ) := by
            by_cases ht : ∃ z, y = .tup z
            · obtain ⟨z, rfl⟩ := ht
              refine (ev_orF i3 (ev_b1 (ev_cmp (u := I z.length) (v := I 6) (ev_bi (us := [.tup z]) (ev_l1 (ev_var rfl)) (by simp [evBi, cont])) ev_int gt_I))).trans ?_
              congr 3
              simp only [as6]
              by_cases c : z.length ≤ 6
              · rw [if_pos c, decide_eq_false (by omega)]; rfl
              · rw [if_neg c, decide_eq_true (by omega)]; rfl
            · have e : isTupB y = false := by cases y <;> simp [isTupB] at ht ⊢
              rw [e] at i3
              rw [show (as6 y).isSome = false by cases y <;> simp [as6] at ht ⊢]
              exact ev_orT i3
          cases hh : (as6 y).isSome with
          | true => rw [hh] at e1; exact cs_no rfl e1 rfl
          | false => rw [hh] at e1; exact cs_if rfl e1 rfl (ev_var rfl)
      have fn : evalE (runF defs (k + 2)) μ.length (.cmp .ne c__law_is_net_0 (.lst false [])) [some (.tup ys), some (I 10), none, none, none, none, none, none] μ = some (.bl (!(ys.all fun y => (as6 y).isSome)), μ) := by
        have := ev_cmp (op := .ne) f (ev_lst (cal := runF defs (k + 2)) (n0 := μ.length) (es := []) (us := []) ev_lnil (show 0 ≤ SZ by decide)) (ne_nil μ (fun v hv => h v ((List.mem_filter.mp hv).1)) (by unfold D0; omega))
        rw [this, filter_none]
      rw [← mapO_all as6 ys] at fn
      cases hm : mapO as6 ys with
      | none =>
        rw [hm] at fn
        exact ex_bad (ev_orF it' (ev_orF ch (ev_b1 fn))) ev_bl
      | some xs =>
        rw [hm] at fn
        obtain ⟨rfl, h6⟩ := as6_list hm
        rw [List.length_map] at hl
        have hp : ∀ z ∈ xs, ∀ u ∈ z, Pl B d u := fun z hz u hu => by
          have := h (.tup z) (List.mem_map.mpr ⟨z, hz, rfl⟩)
          cases this with
          | tup _ g => exact (g u hu).up (Nat.le_refl _) (Nat.le_succ _)
        have L := law_doors k μ (show d ≤ 10 by omega) hB hp h6 10
        refine (ex_seq ((ex_ifF (ev_orF it' (ev_orF ch (ev_b1 fn))) rfl).trans ex_nil)).trans ?_
        rw [doorsL_eq] at L
        simp only [netB]
        cases hN : decN xs with
        | none =>
          rw [hN, if_neg (by simp)] at L
          have L' : exS (runF defs (k + 2)) μ.length l__law_is_net_4 [some (vU xs), some (I 10), none, none, none, none, none, none] μ = some (.rt (.bl false) μ) := L
          simp only [exL, L']
        | some N =>
          rw [hN, if_pos (show (some N).isSome = true from rfl)] at L
          obtain ⟨σ', L, h0⟩ := L
          refine (ex_seq L).trans (ex_ret ?_)
          have K := lnk_of hl h6 hN
          obtain ⟨e, _⟩ := decN_some hN
          have ev : vU xs = netU N := by rw [e]; exact vU_net N
          rw [ev] at h0
          exact ev_call (us := [netU N]) (ev_l1 (ev_var h0)) (law_is_whole_ok (k + 1) μ K)
    · rw [decide_eq_false (by omega)] at ch
      rw [if_neg hl]
      exact ex_bad (ev_orF it' (ev_orT ch)) ev_bl
  | _ => exact ex_bad (ev_orT it) ev_bl
end
end K30

set_option Elab.async false
set_option linter.all false
set_option maxRecDepth 100000
set_option maxHeartbeats 4000000
namespace K30
open PySem L2 R
/-! ### marks, rows, stories, walks -/
def okW (n : Nat) (hi : Int) : U → Bool
  | .tup ys => decide (ys.length = n) && ys.all (isW 0 hi)
  | _ => false
abbrev okM (n : Nat) : U → Bool := okW n 9
def okR : U → Bool
  | .tup ys => decide (ys.length ≤ 100) && ys.all (isW 0 5)
  | _ => false
theorem ws_dec {hi : Int} : ∀ {ys : List U}, ys.all (isW 0 hi) = true → ∃ ds : List Nat, ys = ds.map I ∧ ∀ d ∈ ds, (d : Int) ≤ hi
  | [], _ => ⟨[], rfl, by simp⟩
  | y :: ys, h => by
    rw [List.all_cons, Bool.and_eq_true] at h
    obtain ⟨ds, rfl, h2⟩ := ws_dec h.2
    have h1 := h.1
    cases y <;> simp [isW] at h1
    rename_i i
    refine ⟨i.toNat :: ds, ?_, fun d hd => ?_⟩
    · show U.int i :: _ = U.int ((i.toNat : Nat) : Int) :: _
      rw [show ((i.toNat : Nat) : Int) = i by omega]
    · rcases List.mem_cons.mp hd with rfl | hd
      · omega
      · exact h2 d hd
theorem okR_dec {u : U} (h : okR u = true) : ∃ ds : List Nat, u = lU ds ∧ ds.length ≤ 100 := by
  cases u <;> simp only [okR] at h <;> try cases h
  rename_i ys
  rw [Bool.and_eq_true, decide_eq_true_eq] at h
  obtain ⟨ds, rfl, _⟩ := ws_dec h.2
  exact ⟨ds, rfl, by simpa using h.1⟩
section
variable (k : Nat) (μ : Mu) {B d : Nat}
theorem wholes_ok (hB : B ≤ 1000) {u : U} (h : Pl B d u) (n : Nat) (hi : Int) : runF defs (k + 2) 2 [u, I n, .int 0, .int hi] μ = some (.bl (okW n hi u), μ) := by
  rw [run_are_wholes]
  have t := tuple_pl k h n n μ
  refine (if_pos rfl).trans (run_rt (μ1 := μ) (u := .bl (okW n hi u)) ?_ (fin_cut rfl (by simp)))
  have tc : evalE (runF defs (k + 1)) μ.length (.call 1 [(.var 0), (.var 1), (.var 1)]) [some u, some (I n), some (.int 0), some (.int hi), none] μ = some (.bl (isT n n u), μ) := ev_call (us := [u, I n, I n]) (ev_lcons (ev_var rfl) (ev_l2 (ev_var rfl) (ev_var rfl))) t
  cases h with
  | @tup d ys hz h =>
    have e : isT n n (.tup ys) = decide (ys.length = n) := by
      simp only [isT]
      exact decide_eq_decide.mpr (by omega)
    rw [e] at tc
    simp only [okW]
    cases hc : decide (ys.length = n) with
    | false =>
      rw [hc] at tc
      exact ex_ret (ev_andF tc)
    | true =>
      rw [hc] at tc
      rw [Bool.true_and]
      have c : evalE (runF defs (k + 1)) μ.length c_are_wholes_0 [some (.tup ys), some (I n), some (.int 0), some (.int hi), none] μ = some (.lst (ys.map fun y => .bl (isW 0 hi y)), μ) := by
        have := compL_all (step := cstep (runF defs (k + 1)) μ.length (.slot 4) (.bl true) (.call 0 [(.var 4), (.var 2), (.var 3)]) [4] [some (.tup ys), some (I n), some (.int 0), some (.int hi), none]) (enc := id) (g := fun y => .bl (isW 0 hi y)) (μ := μ) (xs := ys) (acc := []) (fun y hy => cs_yes rfl (ev_call (us := [y, .int 0, .int hi]) (ev_lcons (ev_var rfl) (ev_l2 (ev_var rfl) (ev_var rfl))) (whole_pl k (h y hy) 0 hi μ))) (by simp; unfold SZ; omega)
        rw [List.map_id] at this
        exact (ev_comp (us := [.tup ys]) (μ1 := μ) (xs := ys) (ev_l1 (ev_var rfl)) rfl this).trans rfl
      exact ex_ret (ev_andT tc (ev_b1 (ev_all c)))
  | _ => exact ex_ret (ev_andF tc)
theorem fits_marks_ok (hB : B ≤ 1000) (N : Net) {u : U} (h : Pl B d u) : runF defs (k + 3) 7 [netU N, u] μ = some (.bl (okM N.length u), μ) := by
  rw [run_fits_marks]
  refine (if_pos rfl).trans (run_rt (μ1 := μ) (u := .bl (okM N.length u)) ?_ (fin_cut rfl (by simp)))
  have := wholes_ok k μ hB h N.length 9
  refine ex_ret (ev_call (us := [u, I N.length, .int 0, .int 9]) (ev_lcons (ev_var rfl) (ev_lcons (ev_bi (us := [netU N]) (ev_l1 (ev_var rfl)) (by simp [evBi, cont])) (ev_l2 ev_int ev_gint))) this)
theorem fits_row_ok (hB : B ≤ 1000) {u : U} (h : Pl B d u) : runF defs (k + 2) 10 [u] μ = some (.bl (okR u), μ) := by
  rw [run_fits_row]
  have t := tuple_pl k h 0 100 μ
  refine (if_pos rfl).trans (run_rt (μ1 := μ) (u := .bl (okR u)) ?_ (fin_cut rfl (by simp)))
  have tc : evalE (runF defs (k + 1)) μ.length (.call 1 [(.var 0), (.int 0), (.gint 100)]) [some u, none] μ = some (.bl (isT 0 100 u), μ) := ev_call (us := [u, I 0, I 100]) (ev_lcons (ev_var rfl) (ev_l2 ev_int ev_gint)) t
  cases h with
  | @tup d ys hz h =>
    have e : isT 0 100 (.tup ys) = decide (ys.length ≤ 100) := by
      simp only [isT]
      exact decide_eq_decide.mpr (by omega)
    rw [e] at tc
    simp only [okR]
    cases hc : decide (ys.length ≤ 100) with
    | false =>
      rw [hc] at tc
      exact ex_ret (ev_andF tc)
    | true =>
      rw [hc] at tc
      rw [Bool.true_and]
      have c : evalE (runF defs (k + 1)) μ.length c_fits_row_0 [some (.tup ys), none] μ = some (.lst (ys.map fun y => .bl (isW 0 5 y)), μ) := by
        have := compL_all (step := cstep (runF defs (k + 1)) μ.length (.slot 1) (.bl true) (.call 0 [(.var 1), (.int 0), (.bin false .sub (.gint 6) (.int 1))]) [1] [some (.tup ys), none]) (enc := id) (g := fun y => .bl (isW 0 5 y)) (μ := μ) (xs := ys) (acc := []) (fun y hy => cs_yes rfl (ev_call (us := [y, .int 0, .int 5]) (ev_lcons (ev_var rfl) (ev_l2 ev_int (ev_bm (u := .int 6) (v := .int 1) ev_gint ev_int rfl))) (whole_pl k (h y hy) 0 5 μ))) (by simp; unfold SZ; omega)
        rw [List.map_id] at this
        exact (ev_comp (us := [.tup ys]) (μ1 := μ) (xs := ys) (ev_l1 (ev_var rfl)) rfl this).trans rfl
      exact ex_ret (ev_andT tc (ev_b1 (ev_all c)))
  | _ => exact ex_ret (ev_andF tc)
theorem law_marks_ok (hB : B ≤ 1000) (hd : d ≤ 10) (N : Net) {u : U} (h : Pl B d u) : runF defs (k + 3) 32 [netU N, u] μ = some (.bl (okM N.length u), μ) := by
  rw [run__law_are_marks]
  refine (if_pos rfl).trans (run_rt (μ1 := μ) (u := .bl (okM N.length u)) ?_ (fin_cut rfl (by simp)))
  have it : evalE (runF defs (k + 2)) μ.length (.isi (.var 1) .tuple) [some (netU N), some u, none] μ = some (.bl (isTupB u), μ) := ev_isi (ev_var rfl) (isi_tup μ h)
  cases h with
  | @tup d ys hz h =>
    have l : evalE (runF defs (k + 2)) μ.length (.cmp .eq (.bi .len [(.var 1)]) (.bi .len [(.var 0)])) [some (netU N), some (.tup ys), none] μ = some (.bl (decide (ys.length = N.length)), μ) := ev_cmp (u := I ys.length) (v := I N.length) (ev_bi (us := [.tup ys]) (ev_l1 (ev_var rfl)) (by simp [evBi, cont])) (ev_bi (us := [netU N]) (ev_l1 (ev_var rfl)) (by simp [evBi, cont])) eq_I
    have f : evalE (runF defs (k + 2)) μ.length c__law_are_marks_0 [some (netU N), some (.tup ys), none] μ = some (.lst (ys.filter fun y => !isW 0 9 y), μ) := by
      have cf := compL_filter (step := cstep (runF defs (k + 2)) μ.length (.slot 2) (.not (.call 25 [(.var 2), (.int 0), (.int 9)])) (.var 2) [2] [some (netU N), some (.tup ys), none]) (enc := id) (g := id) (p := fun y => !isW 0 9 y) (μ := μ) (xs := ys) (acc := []) (fun y hy => ?_) (by simp; unfold SZ; omega)
      · rw [List.map_id, List.map_id] at cf
        exact (ev_comp (us := [.tup ys]) (μ1 := μ) (xs := ys) (ev_l1 (ev_var rfl)) rfl cf).trans rfl
      · have e1 := ev_not (cal := runF defs (k + 2)) (n0 := μ.length) (σ := [some (netU N), some (.tup ys), some y]) (a := .call 25 [(.var 2), (.int 0), (.int 9)]) (ev_call (us := [y, .int 0, .int 9]) (ev_lcons (ev_var rfl) (ev_l2 ev_int ev_int)) (law_num_ok k μ (h y hy) 0 9)) rfl
        cases hh : isW 0 9 y with
        | true => rw [hh] at e1; exact cs_no rfl e1 rfl
        | false => rw [hh] at e1; exact cs_if rfl e1 rfl (ev_var rfl)
    have fn : evalE (runF defs (k + 2)) μ.length (.cmp .eq c__law_are_marks_0 (.lst false [])) [some (netU N), some (.tup ys), none] μ = some (.bl (ys.all (isW 0 9)), μ) := by
      have := ev_cmp (op := .eq) f (ev_lst (cal := runF defs (k + 2)) (n0 := μ.length) (es := []) (us := []) ev_lnil (show 0 ≤ SZ by decide)) (eq_nilL μ (fun v hv => h v ((List.mem_filter.mp hv).1)) (by unfold D0; omega))
      rw [this, filter_none]
    exact ex_ret (ev_andT it (ev_and2 l fn))
  | _ => exact ex_ret (ev_andF it)
theorem law_row_is (hB : B ≤ 1000) (hd : d ≤ 10) {u : U} (h : Pl B d u) : runF defs (k + 3) 34 [u] μ = some (.bl (okR u), μ) := by
  rw [run__law_is_row]
  refine (if_pos rfl).trans (run_rt (μ1 := μ) (u := .bl (okR u)) ?_ (fin_cut rfl (by simp)))
  have it : evalE (runF defs (k + 2)) μ.length (.isi (.var 0) .tuple) [some u, none] μ = some (.bl (isTupB u), μ) := ev_isi (ev_var rfl) (isi_tup μ h)
  cases h with
  | @tup d ys hz h =>
    have l : evalE (runF defs (k + 2)) μ.length (.cmp .le (.bi .len [(.var 0)]) (.int 100)) [some (.tup ys), none] μ = some (.bl (decide (ys.length ≤ 100)), μ) := by
      refine ev_cmp (u := I ys.length) (v := I 100) (ev_bi (us := [.tup ys]) (ev_l1 (ev_var rfl)) (by simp [evBi, cont])) ev_int ?_
      simp only [evCmp, evLt, neg?]
      congr 1
      rw [Bool.eq_iff_iff]
      simp
      omega
    have f : evalE (runF defs (k + 2)) μ.length c__law_is_row_0 [some (.tup ys), none] μ = some (.lst (ys.filter fun y => !isW 0 5 y), μ) := by
      have cf := compL_filter (step := cstep (runF defs (k + 2)) μ.length (.slot 1) (.not (.call 25 [(.var 1), (.int 0), (.int 5)])) (.var 1) [1] [some (.tup ys), none]) (enc := id) (g := id) (p := fun y => !isW 0 5 y) (μ := μ) (xs := ys) (acc := []) (fun y hy => ?_) (by simp; unfold SZ; omega)
      · rw [List.map_id, List.map_id] at cf
        exact (ev_comp (us := [.tup ys]) (μ1 := μ) (xs := ys) (ev_l1 (ev_var rfl)) rfl cf).trans rfl
      · have e1 := ev_not (cal := runF defs (k + 2)) (n0 := μ.length) (σ := [some (.tup ys), some y]) (a := .call 25 [(.var 1), (.int 0), (.int 5)]) (ev_call (us := [y, .int 0, .int 5]) (ev_lcons (ev_var rfl) (ev_l2 ev_int ev_int)) (law_num_ok k μ (h y hy) 0 5)) rfl
        cases hh : isW 0 5 y with
        | true => rw [hh] at e1; exact cs_no rfl e1 rfl
        | false => rw [hh] at e1; exact cs_if rfl e1 rfl (ev_var rfl)
    have fn : evalE (runF defs (k + 2)) μ.length (.cmp .eq c__law_is_row_0 (.lst false [])) [some (.tup ys), none] μ = some (.bl (ys.all (isW 0 5)), μ) := by
      have := ev_cmp (op := .eq) f (ev_lst (cal := runF defs (k + 2)) (n0 := μ.length) (es := []) (us := []) ev_lnil (show 0 ≤ SZ by decide)) (eq_nilL μ (fun v hv => h v ((List.mem_filter.mp hv).1)) (by unfold D0; omega))
      rw [this, filter_none]
    exact ex_ret (ev_andT it (ev_and2 l fn))
  | _ => exact ex_ret (ev_andF it)
end
end K30

set_option Elab.async false
set_option linter.all false
set_option maxRecDepth 100000
set_option maxHeartbeats 4000000
namespace K30
open PySem L2 R
/-! ### stories -/
abbrev seeP (M : List Nat) (N : Net) (h : Nat) : U := .tup [I (mk M h), I (row N h).length]
theorem story_eq (N : Net) (M : List Nat) (h : Nat) (ds : List Nat) : story N M h ds = .tup (seeP M N h :: stL N M h ds) := rfl
theorem stL_len (N : Net) (M : List Nat) : ∀ (ds : List Nat) (h : Nat), (stL N M h ds).length ≤ ds.length
  | [], h => by simp [stL]
  | d :: ds, h => by
    simp only [stL]
    split
    · rename_i p _
      have := stL_len N M ds p.1
      simp
      exact this
    · simp
theorem see_pl {B d : Nat} (hB : 3 ≤ B) (xs : List U) (hl : xs.length ≤ 3) (h : ∀ u ∈ xs, ∃ i, u = .int i) : Pl B (d + 1) (.tup xs) := .tup (by omega) fun u hu => by
  obtain ⟨i, rfl⟩ := h u hu
  exact .int _ _
theorem stL_pl {B d : Nat} (hB : 3 ≤ B) (N : Net) (M : List Nat) : ∀ (ds : List Nat) (h : Nat), ∀ u ∈ stL N M h ds, Pl B (d + 1) u
  | [], h, u, hu => by simp [stL] at hu
  | d :: ds, h, u, hu => by
    simp only [stL] at hu
    split at hu
    · rename_i p _
      rcases List.mem_cons.mp hu with rfl | hu
      · exact see_pl hB _ (by simp) fun u hu => by simp at hu; rcases hu with h | h | h <;> exact ⟨_, h⟩
      · exact stL_pl hB N M ds p.1 u hu
    · simp at hu
      subst hu
      exact .non _
theorem seeP_pl {B d : Nat} (hB : 3 ≤ B) (M : List Nat) (N : Net) (h : Nat) : Pl B (d + 1) (seeP M N h) := see_pl hB _ (by simp) fun u hu => by simp at hu; rcases hu with h | h <;> exact ⟨_, h⟩
theorem story_pl {B d : Nat} (N : Net) (M : List Nat) (h : Nat) {ds : List Nat} (hB : ds.length + 3 ≤ B) : Pl B (d + 2) (story N M h ds) := by
  rw [story_eq]
  have := stL_len N M ds h
  refine .tup (by simp; omega) fun u hu => ?_
  rcases List.mem_cons.mp hu with rfl | hu
  · exact seeP_pl (by omega) M N h
  · exact stL_pl (by omega) N M ds h u hu
theorem mk_at {M : List Nat} {h : Nat} (hh : h < M.length) : atI (M.map I) (h : Int) = some (I (mk M h)) := atI_of (by
  unfold mk
  rw [List.getElem?_map, List.getElem?_eq_getElem hh]
  rfl)
section
variable (k : Nat) (μ : Mu) {N : Net} (K : Lnk N) {M : List Nat} (hM : M.length = N.length)
abbrev sS (N : Net) (M : List Nat) (ds0 : List Nat) (ob : U) (h : Nat) (y5 y6 : Option U) : R.Env := [some (netU N), some (lU M), some (I h), some (lU ds0), some ob, y5, y6]
include hM in
theorem see_ev {cal : Nat → List U → Mu → Option (U × Mu)} {n0 : Nat} {ν : Mu} {ds0 : List Nat} {ob : U} {h : Nat} {y5 y6 : Option U} (hh : h < N.length) : evalE cal n0 (.idx (.var 1) (.var 2)) (sS N M ds0 ob h y5 y6) ν = some (I (mk M h), ν) ∧ evalE cal n0 (.bi .len [(.idx (.var 0) (.var 2))]) (sS N M ds0 ob h y5 y6) ν = some (I (row N h).length, ν) := by
  refine ⟨ev_idxT (ev_var rfl) (ev_var rfl) (mk_at (by omega)), ev_bi (us := [rU (row N h)]) (ev_l1 (ev_idxT (ev_var rfl) (ev_var rfl) (net_at hh))) (by simp [evBi, cont])⟩
include K hM in
theorem story_loop (ds0 : List Nat) : ∀ (ds : List Nat) (h : Nat) (acc : List U) (y5 y6 : Option U), h < N.length → acc.length + ds.length ≤ 1000 →
    (∃ μ2, forL (fstep (runF defs k) μ.length (.slot 5) lb_story_in_0) (ds.map I) (sS N M ds0 (.ob μ.length) h y5 y6) (μ ++ [.lst acc]) = some (.rt (.tup (acc ++ stL N M h ds)) (μ ++ [μ2]))) ∨
    (∃ h' y5' y6', forL (fstep (runF defs k) μ.length (.slot 5) lb_story_in_0) (ds.map I) (sS N M ds0 (.ob μ.length) h y5 y6) (μ ++ [.lst acc]) = some (.nx (sS N M ds0 (.ob μ.length) h' y5' y6') (μ ++ [.lst (acc ++ stL N M h ds)])))
  | [], h, acc, y5, y6, _, _ => .inr ⟨h, y5, y6, by simp [forL, stL]⟩
  | d :: ds, h, acc, y5, y6, hh, hl => by
    have m : (μ ++ [U.lst acc])[μ.length]? = some (.lst acc) := by simp
    have c : evalE (runF defs k) μ.length (.cmp .ge (.var 5) (.bi .len [(.idx (.var 0) (.var 2))])) (sS N M ds0 (.ob μ.length) h (some (I d)) y6) (μ ++ [.lst acc]) = some (.bl (decide ((row N h).length ≤ d)), μ ++ [.lst acc]) := by
      refine ev_cmp (u := I d) (v := I (row N h).length) (ev_var rfl) (see_ev hM hh).2 ?_
      simp only [evCmp, evLt, neg?]
      congr 1
      rw [Bool.eq_iff_iff]
      simp
    have hx : ∀ r, exL (runF defs k) μ.length lb_story_in_0 (sS N M ds0 (.ob μ.length) h (some (I d)) y6) (μ ++ [.lst acc]) = r → fstep (runF defs k) μ.length (.slot 5) lb_story_in_0 (I d) (sS N M ds0 (.ob μ.length) h y5 y6) (μ ++ [.lst acc]) = r := fun r h => h
    simp only [List.map_cons, forL]
    cases e : (row N h)[d]? with
    | none =>
      have hd : (row N h).length ≤ d := List.getElem?_eq_none_iff.mp e
      rw [decide_eq_true hd] at c
      have bb : evBin false (μ ++ [U.lst acc]) .add (.ob μ.length) (.lst [.non]) = some (.lst (acc ++ [.non]), μ ++ [.lst acc]) := by
        simp only [evBin, asL, m]
        rw [if_pos (by simp at hl ⊢; unfold SZ; omega)]
        rfl
      refine .inl ⟨.lst acc, ?_⟩
      rw [hx _ (ex_bad c (ev_col (us := [.lst (acc ++ [.non])]) (xs := acc ++ [.non]) (ev_l1 (ev_bin (u := .ob μ.length) (v := .lst [.non]) (ev_var rfl) (ev_lst (us := [.non]) (ev_l1 ev_non) (show 1 ≤ SZ by decide)) bb)) rfl rfl))]
      simp only [stL, e]
    | some p =>
      have hd : ¬ (row N h).length ≤ d := by
        have := (List.getElem?_eq_some_iff.mp e).1
        omega
      rw [decide_eq_false hd] at c
      have hp := K.lt (List.mem_of_getElem? e)
      have st : exL (runF defs k) μ.length lb_story_in_0 (sS N M ds0 (.ob μ.length) h (some (I d)) y6) (μ ++ [.lst acc]) = some (.nx (sS N M ds0 (.ob μ.length) p.1 (some (I d)) (some (I p.2))) (μ ++ [.lst (acc ++ [seeU p.2 (mk M p.1) (row N p.1).length])])) := by
        unfold lb_story_in_0
        refine (ex_seq ((ex_ifF c rfl).trans ex_nil)).trans ?_
        refine (ex_seq (ex_asg (u := pU p) (σ' := sS N M ds0 (.ob μ.length) p.1 (some (I d)) (some (I p.2))) (ev_idxT (xs := (row N h).map pU) (j := (d : Int)) (ev_idxT (ev_var rfl) (ev_var rfl) (net_at hh)) (ev_var rfl) (row_at' e)) rfl)).trans ?_
        have se := see_ev (cal := runF defs k) (n0 := μ.length) (ν := μ ++ [U.lst acc]) (ds0 := ds0) (ob := .ob μ.length) (y5 := some (I d)) (y6 := some (I p.2)) hM hp
        refine (ex_seq (ex_append (i := μ.length) (u := seeU p.2 (mk M p.1) (row N p.1).length) (xs := acc) (ev_var rfl) (ev_tup (ev_lcons (ev_var rfl) (ev_l2 se.1 se.2)) (show 3 ≤ SZ by decide)) m (by simp at hl; unfold SZ; omega) (Nat.le_refl _))).trans ?_
        rw [ex_nil, set_last]
      rw [hx _ st]
      simp only
      have ih := story_loop ds0 ds p.1 (acc ++ [seeU p.2 (mk M p.1) (row N p.1).length]) (some (I d)) (some (I p.2)) hp (by simp at hl ⊢; omega)
      have ee : acc ++ [seeU p.2 (mk M p.1) (row N p.1).length] ++ stL N M p.1 ds = acc ++ stL N M h (d :: ds) := by
        simp only [stL, e]
        rw [List.append_assoc]
        rfl
      rw [ee] at ih
      exact ih
include K hM in
theorem story_in_ok {h : Nat} (hh : h < N.length) {ds : List Nat} (hl : ds.length ≤ 500) : runF defs (k + 1) 12 [netU N, lU M, I h, lU ds] μ = some (story N M h ds, μ) := by
  rw [run_story_in]
  have pl := story_pl (B := 1000) (d := 0) N M h (ds := ds) (by omega)
  have b : ∃ μ2, exL (runF defs k) μ.length b_story_in [some (netU N), some (lU M), some (I h), some (lU ds), none, none, none] μ = some (.rt (story N M h ds) (μ ++ [μ2])) := by
    unfold b_story_in
    have s1 : exS (runF defs k) μ.length (.set 4 (.lst true [(.tup [(.idx (.var 1) (.var 2)), (.bi .len [(.idx (.var 0) (.var 2))])])])) [some (netU N), some (lU M), some (I h), some (lU ds), none, none, none] μ = some (.nx (sS N M ds (.ob μ.length) h none none) (μ ++ [.lst [seeP M N h]])) :=
      ex_set (ev_lstA (ev_l1 (ev_tup (us := [I (mk M h), I (row N h).length]) (ev_l2 (ev_idxT (ev_var rfl) (ev_var rfl) (mk_at (by omega))) (ev_bi (us := [rU (row N h)]) (ev_l1 (ev_idxT (ev_var rfl) (ev_var rfl) (net_at hh))) (by simp [evBi, cont]))) (show 2 ≤ SZ by decide))) (show 1 ≤ SZ by decide))
    have ef : exS (runF defs k) μ.length l_story_in_0 (sS N M ds (.ob μ.length) h none none) (μ ++ [.lst [seeP M N h]]) = forL (fstep (runF defs k) μ.length (.slot 5) lb_story_in_0) (ds.map I) (sS N M ds (.ob μ.length) h none none) (μ ++ [.lst [seeP M N h]]) := ex_for (us := [lU ds]) (ev_l1 (ev_var rfl)) rfl
    rcases story_loop k μ K hM ds ds h [seeP M N h] none none hh (by simp; omega) with ⟨μ2, e⟩ | ⟨h', y5, y6, e⟩
    · refine ⟨μ2, (ex_seq s1).trans ?_⟩
      simp only [exL, ef, e]
      rfl
    · refine ⟨_, (ex_seq s1).trans ((ex_seq (ef.trans e)).trans (ex_ret (ev_col (us := [.ob μ.length]) (xs := [seeP M N h] ++ stL N M h ds) (ev_l1 (ev_var rfl)) (by simp [items, asS, asL]) rfl)))⟩
  obtain ⟨μ2, b⟩ := b
  exact (if_pos rfl).trans (run_rt b (fin_cut (frz_pl pl _ _ (by decide)) (by simp)))
/-! the law's -/
theorem notnon {B d : Nat} (μ : Mu) (xs : List U) (i : Int) : evCmp μ .isnot (.tup xs) .non = some true := rfl
theorem lstory_dead (ds0 : List Nat) : ∀ (ds : List Nat) (h : Nat) (acc : List U) (y5 y6 : Option U),
    ∃ y5', forL (fstep (runF defs k) μ.length (.slot 5) lb__law_story_0) (ds.map I) (sS N M ds0 (.ob μ.length) h y5 y6) (μ ++ [.lst (acc ++ [.non])]) = some (.nx (sS N M ds0 (.ob μ.length) h y5' y6) (μ ++ [.lst (acc ++ [.non])]))
  | [], h, acc, y5, y6 => ⟨y5, by simp [forL]⟩
  | d :: ds, h, acc, y5, y6 => by
    have m : (μ ++ [U.lst (acc ++ [.non])])[μ.length]? = some (.lst (acc ++ [.non])) := by simp
    have cc : cont (μ ++ [U.lst (acc ++ [.non])]) (.ob μ.length) = some (.lst (acc ++ [.non])) := m
    have nn : evalE (runF defs k) μ.length (.cmp .isnot (.idx (.var 4) (.neg (.int 1))) .non) (sS N M ds0 (.ob μ.length) h (some (I d)) y6) (μ ++ [.lst (acc ++ [.non])]) = some (.bl false, μ ++ [.lst (acc ++ [.non])]) := ev_cmp (u := .non) (v := .non) (ev_idxL1 (ev_var rfl) (ev_neg ev_int) cc (atI_last _ _)) ev_non rfl
    obtain ⟨y5', ih⟩ := lstory_dead ds0 ds h acc (some (I d)) y6
    refine ⟨y5', ?_⟩
    simp only [List.map_cons, forL]
    have st : fstep (runF defs k) μ.length (.slot 5) lb__law_story_0 (I d) (sS N M ds0 (.ob μ.length) h y5 y6) (μ ++ [.lst (acc ++ [.non])]) = some (.nx (sS N M ds0 (.ob μ.length) h (some (I d)) y6) (μ ++ [.lst (acc ++ [.non])])) := by
      show exL (runF defs k) μ.length lb__law_story_0 (sS N M ds0 (.ob μ.length) h (some (I d)) y6) (μ ++ [.lst (acc ++ [.non])]) = _
      unfold lb__law_story_0
      exact (ex_seq ((ex_ifF (ev_andF nn) rfl).trans ((ex_seq ((ex_ifF nn rfl).trans ex_nil)).trans ex_nil))).trans ex_nil
    rw [st]
    exact ih
include K hM in
theorem lstory_loop (ds0 : List Nat) : ∀ (ds : List Nat) (h : Nat) (acc : List U) (las : List U) (y5 y6 : Option U), h < N.length → acc.length + ds.length ≤ 1000 →
    ∃ h' y5' y6', forL (fstep (runF defs k) μ.length (.slot 5) lb__law_story_0) (ds.map I) (sS N M ds0 (.ob μ.length) h y5 y6) (μ ++ [.lst (acc ++ [.tup las])]) = some (.nx (sS N M ds0 (.ob μ.length) h' y5' y6') (μ ++ [.lst (acc ++ [.tup las] ++ stL N M h ds)]))
  | [], h, acc, las, y5, y6, _, _ => ⟨h, y5, y6, by simp [forL, stL]⟩
  | d :: ds, h, acc, las, y5, y6, hh, hl => by
    have m : (μ ++ [U.lst (acc ++ [.tup las])])[μ.length]? = some (.lst (acc ++ [.tup las])) := by simp
    have cc : cont (μ ++ [U.lst (acc ++ [.tup las])]) (.ob μ.length) = some (.lst (acc ++ [.tup las])) := m
    have nn : evalE (runF defs k) μ.length (.cmp .isnot (.idx (.var 4) (.neg (.int 1))) .non) (sS N M ds0 (.ob μ.length) h (some (I d)) y6) (μ ++ [.lst (acc ++ [.tup las])]) = some (.bl true, μ ++ [.lst (acc ++ [.tup las])]) := ev_cmp (u := .tup las) (v := .non) (ev_idxL1 (ev_var rfl) (ev_neg ev_int) cc (atI_last _ _)) ev_non rfl
    have c : evalE (runF defs k) μ.length (.cmp .lt (.var 5) (.bi .len [(.idx (.var 0) (.var 2))])) (sS N M ds0 (.ob μ.length) h (some (I d)) y6) (μ ++ [.lst (acc ++ [.tup las])]) = some (.bl (decide (d < (row N h).length)), μ ++ [.lst (acc ++ [.tup las])]) := ev_cmp (u := I d) (v := I (row N h).length) (ev_var rfl) (see_ev hM hh).2 lt_I
    have hx : ∀ r, exL (runF defs k) μ.length lb__law_story_0 (sS N M ds0 (.ob μ.length) h (some (I d)) y6) (μ ++ [.lst (acc ++ [.tup las])]) = r → fstep (runF defs k) μ.length (.slot 5) lb__law_story_0 (I d) (sS N M ds0 (.ob μ.length) h y5 y6) (μ ++ [.lst (acc ++ [.tup las])]) = r := fun r h => h
    simp only [List.map_cons, forL]
    cases e : (row N h)[d]? with
    | none =>
      have hd : ¬ d < (row N h).length := by have := List.getElem?_eq_none_iff.mp e; omega
      rw [decide_eq_false hd] at c
      have st : exL (runF defs k) μ.length lb__law_story_0 (sS N M ds0 (.ob μ.length) h (some (I d)) y6) (μ ++ [.lst (acc ++ [.tup las])]) = some (.nx (sS N M ds0 (.ob μ.length) h (some (I d)) y6) (μ ++ [.lst (acc ++ [.tup las] ++ [.non])])) := by
        unfold lb__law_story_0
        refine (ex_seq ((ex_ifF (ev_andT nn (ev_b1 c)) rfl).trans ((ex_seq ((ex_ifT nn rfl).trans ((ex_seq (ex_append (i := μ.length) (u := .non) (xs := acc ++ [.tup las]) (ev_var rfl) ev_non m (by simp at hl ⊢; unfold SZ; omega) (Nat.le_refl _))).trans ex_nil))).trans ex_nil))).trans ?_
        rw [ex_nil, set_last]
      rw [hx _ st]
      obtain ⟨y5', ih⟩ := lstory_dead k μ (N := N) (M := M) ds0 ds h (acc ++ [.tup las]) (some (I d)) y6
      refine ⟨h, y5', y6, ?_⟩
      simp only [stL, e]
      exact ih
    | some p =>
      have hd := (List.getElem?_eq_some_iff.mp e).1
      rw [decide_eq_true hd] at c
      have hp := K.lt (List.mem_of_getElem? e)
      have st : exL (runF defs k) μ.length lb__law_story_0 (sS N M ds0 (.ob μ.length) h (some (I d)) y6) (μ ++ [.lst (acc ++ [.tup las])]) = some (.nx (sS N M ds0 (.ob μ.length) p.1 (some (I d)) (some (I p.2))) (μ ++ [.lst (acc ++ [.tup las] ++ [seeU p.2 (mk M p.1) (row N p.1).length])])) := by
        unfold lb__law_story_0
        have se := see_ev (cal := runF defs k) (n0 := μ.length) (ν := μ ++ [U.lst (acc ++ [.tup las])]) (ds0 := ds0) (ob := .ob μ.length) (y5 := some (I d)) (y6 := some (I p.2)) hM hp
        refine (ex_seq ((ex_ifT (ev_andT nn (ev_b1 c)) rfl).trans ((ex_seq (ex_asg (u := pU p) (σ' := sS N M ds0 (.ob μ.length) p.1 (some (I d)) (some (I p.2))) (ev_idxT (xs := (row N h).map pU) (j := (d : Int)) (ev_idxT (ev_var rfl) (ev_var rfl) (net_at hh)) (ev_var rfl) (row_at' e)) rfl)).trans
          ((ex_seq (ex_append (i := μ.length) (u := seeU p.2 (mk M p.1) (row N p.1).length) (xs := acc ++ [.tup las]) (ev_var rfl) (ev_tup (ev_lcons (ev_var rfl) (ev_l2 se.1 se.2)) (show 3 ≤ SZ by decide)) m (by simp at hl ⊢; unfold SZ; omega) (Nat.le_refl _))).trans ex_nil)))).trans ?_
        rw [ex_nil, set_last]
      rw [hx _ st]
      obtain ⟨h', y5', y6', ih⟩ := lstory_loop ds0 ds p.1 (acc ++ [.tup las]) [I p.2, I (mk M p.1), I (row N p.1).length] (some (I d)) (some (I p.2)) hp (by simp at hl ⊢; omega)
      refine ⟨h', y5', y6', ?_⟩
      simp only [stL, e]
      refine ih.trans ?_
      congr 5
      rw [List.append_assoc]
      rfl
include K hM in
theorem law_story_ok {h : Nat} (hh : h < N.length) {ds : List Nat} (hl : ds.length ≤ 500) : runF defs (k + 1) 35 [netU N, lU M, I h, lU ds] μ = some (story N M h ds, μ) := by
  rw [run__law_story]
  have pl := story_pl (B := 1000) (d := 0) N M h (ds := ds) (by omega)
  obtain ⟨h', y5, y6, e⟩ := lstory_loop k μ K hM ds ds h [] [I (mk M h), I (row N h).length] none none hh (by simp; omega)
  have b : exL (runF defs k) μ.length b__law_story [some (netU N), some (lU M), some (I h), some (lU ds), none, none, none] μ = some (.rt (story N M h ds) (μ ++ [.lst ([] ++ [seeP M N h] ++ stL N M h ds)])) := by
    unfold b__law_story
    refine (ex_seq (ex_set (u := .ob μ.length) (μ' := μ ++ [.lst [seeP M N h]]) (ev_lstA (ev_l1 (ev_tup (us := [I (mk M h), I (row N h).length]) (ev_l2 (ev_idxT (ev_var rfl) (ev_var rfl) (mk_at (by omega))) (ev_bi (us := [rU (row N h)]) (ev_l1 (ev_idxT (ev_var rfl) (ev_var rfl) (net_at hh))) (by simp [evBi, cont]))) (show 2 ≤ SZ by decide))) (show 1 ≤ SZ by decide)))).trans ?_
    have ef : exS (runF defs k) μ.length l__law_story_0 (sS N M ds (.ob μ.length) h none none) (μ ++ [.lst [seeP M N h]]) = forL (fstep (runF defs k) μ.length (.slot 5) lb__law_story_0) (ds.map I) (sS N M ds (.ob μ.length) h none none) (μ ++ [.lst [seeP M N h]]) := ex_for (us := [lU ds]) (ev_l1 (ev_var rfl)) rfl
    refine (ex_seq (ef.trans e)).trans (ex_ret (ev_col (us := [.ob μ.length]) (xs := [] ++ [seeP M N h] ++ stL N M h ds) (ev_l1 (ev_var rfl)) (by simp [items, asS, asL]) rfl))
  exact (if_pos rfl).trans (run_rt b (fin_cut (frz_pl pl _ _ (by decide)) (by simp)))
end
end K30

set_option Elab.async false
set_option linter.all false
set_option maxRecDepth 100000
set_option maxHeartbeats 4000000
namespace K30
open PySem L2 R
/-! ### dicts of numbers -/
theorem lk_pos : ∀ {L : List Nat} {vs : List U} {x : Nat}, x ∈ L → lk (L.map kI) vs (kI x) = vs[pos L x]?
  | a :: l, [], x, h => by simp [lk]
  | a :: l, v :: vs, x, h => by
    simp only [List.map_cons, lk, pos]
    by_cases e : a = x
    · subst e
      simp
    · have ne : kI a ≠ kI x := fun z => e (by injection z with z; omega)
      rw [if_neg ne, if_neg e, List.getElem?_cons_succ]
      refine lk_pos ?_
      rcases List.mem_cons.mp h with z | z
      · exact absurd z.symm e
      · exact z
theorem merge_nd : ∀ (l : List (Nat × U)) (ks : List Nat) (vs : List U), (ks ++ l.map (·.1)).Nodup → ks.length + l.length ≤ 1000 → mergeU false (l.map fun p => (I p.1, p.2)) (.dk (ks.map kI) vs) = some (.dk ((ks ++ l.map (·.1)).map kI) (vs ++ l.map (·.2)))
  | [], ks, vs, _, _ => by simp [mergeU]
  | p :: l, ks, vs, nd, hz => by
    simp only [List.map_cons, mergeU, dput, sky]
    rw [if_pos (by simp at hz ⊢; unfold SZ; omega)]
    simp only
    have hn : p.1 ∉ ks := by
      intro z
      rw [List.nodup_append] at nd
      exact nd.2.2 _ z p.1 (by simp) rfl
    have e1 : ptk (ks.map kI) (.inl ((p.1 : Nat) : Int)) = (ks ++ [p.1]).map kI := by
      unfold ptk
      rw [if_neg (fun z => hn (kI_mem.mp z)), List.map_append]
      rfl
    have e2 : pt (ks.map kI) vs (.inl ((p.1 : Nat) : Int)) p.2 = vs ++ [p.2] := by
      unfold pt
      rw [if_neg (fun z => hn (kI_mem.mp z))]
    rw [e1, e2]
    have := merge_nd l (ks ++ [p.1]) (vs ++ [p.2]) (by simpa using nd) (by simp at hz ⊢; omega)
    rw [this]
    simp
/-! ### what is needed -/
theorem okNet_net {N : Net} (K : NetOk N) : okNet (netU N) = true := by
  have m6 : mapO as6 (N.map rU) = some (N.map fun r => r.map pU) := mapO_map fun r hr => by
    simp only [as6]
    rw [if_pos (by rw [List.length_map]; exact K.r6 r hr)]
  have dp : ∀ h p, p ∈ row N h → decD (N.map fun r => r.map pU) (pU p) = some p := fun h p hp => by
    obtain ⟨i, hi⟩ := List.mem_iff_getElem?.mp hp
    have l := K.link h i p hi
    have h1 := row_lt l
    have h2 := (List.getElem?_eq_some_iff.mp l).1
    show decD _ (.tup [.int (p.1 : Int), .int (p.2 : Int)]) = _
    simp only [decD]
    rw [Int.toNat_natCast, wL_net, List.length_map, List.length_map, if_pos (by omega)]
    simp
  have m2 : mapO (mapO (decD (N.map fun r => r.map pU))) (N.map fun r => r.map pU) = some N := by
    have := mapO_map (f := mapO (decD (N.map fun r => r.map pU))) (g := fun r : List (Nat × Nat) => r.map pU) (h := id) (xs := N) fun r hr => by
      obtain ⟨h, hh⟩ := List.mem_iff_getElem?.mp hr
      have e : row N h = r := by unfold row; rw [hh]; rfl
      have := mapO_map (f := decD (N.map fun r => r.map pU)) (g := pU) (h := id) (xs := r) fun p hp => dp h p (by rw [e]; exact hp)
      rw [List.map_id] at this
      exact this
    rw [List.map_id] at this
    exact this
  have l := linksB_iff.mpr K.link
  show okNet (.tup (N.map rU)) = true
  simp only [okNet]
  rw [if_pos (by rw [List.length_map]; exact ⟨K.n1, K.n10⟩)]
  simp only [m6, netB, decN, m2]
  rw [if_pos l]
  simp only
  exact decide_eq_true K.conn
theorem okW_lU {n : Nat} {hi : Nat} {l : List Nat} (hl : l.length = n) (h : ∀ x ∈ l, x ≤ hi) : okW n hi (lU l) = true := by
  simp only [okW]
  rw [Bool.and_eq_true, decide_eq_true_eq, List.length_map, List.all_eq_true]
  refine ⟨hl, fun u hu => ?_⟩
  obtain ⟨x, hx, rfl⟩ := List.mem_map.mp hu
  have := h x hx
  simp [isW]
  omega
theorem okR_lU {l : List Nat} (hl : l.length ≤ 100) (h : ∀ x ∈ l, x ≤ 5) : okR (lU l) = true := by
  simp only [okR]
  rw [Bool.and_eq_true, decide_eq_true_eq, List.length_map, List.all_eq_true]
  refine ⟨hl, fun u hu => ?_⟩
  obtain ⟨x, hx, rfl⟩ := List.mem_map.mp hu
  have := h x hx
  simp [isW]
  omega
theorem pl_netU {B d : Nat} {N : Net} (K : Lnk N) (hB : 10 ≤ B) : Pl B (d + 3) (netU N) := .tup (by rw [List.length_map]; have := K.n10; omega) fun u hu => by
  obtain ⟨r, hr, rfl⟩ := List.mem_map.mp hu
  exact pl_row (by omega) (by have := K.r6 r hr; omega)
theorem pl_lU {B d : Nat} {l : List Nat} (h : l.length ≤ B) : Pl B (d + 1) (lU l) := (pl_ints h).1
section
variable (k : Nat) (μ : Mu) {N : Net} (K : NetOk N) {M : List Nat} (hM : M.length = N.length) (h9 : ∀ x ∈ M, x ≤ 9)
include K
theorem need_net_ok : runF defs (k + 4) 6 [netU N] μ = some (.non, μ) := by
  rw [run_need_net]
  refine (if_pos rfl).trans (run_nx (μ1 := μ) (σ := [some (netU N)]) ?_ (fin_cut rfl (by simp)))
  have w := fits_net_ok k μ (B := 1000) (d := 3) (by decide) (pl_netU K.toLnk (by decide))
  rw [okNet_net K] at w
  exact (ex_seq ((ex_ifF (u := .bl false) (μ1 := μ) (ev_not (d := true) (ev_call (us := [netU N, I 10]) (ev_l2 (ev_var rfl) ev_gint) w) rfl) rfl).trans ex_nil)).trans ex_nil
theorem need_house_ok {h : Nat} (hh : h < N.length) : runF defs (k + 2) 9 [netU N, I h] μ = some (.non, μ) := by
  rw [run_need_house]
  refine (if_pos rfl).trans (run_nx (μ1 := μ) (σ := [some (netU N), some (I h)]) ?_ (fin_cut rfl (by simp)))
  have w := whole_pl k (Pl.int (B := 0) 0 (h : Int)) 0 ((N.length : Int) - 1) μ
  rw [show isW 0 ((N.length : Int) - 1) (.int h) = true by simp [isW]; omega] at w
  have ln := len_v μ (cal := runF defs (k + 1)) (n0 := μ.length) (σ := [some (netU N), some (I h)]) (e := .var 0) (zs := N.map rU) (ev_var rfl)
  rw [List.length_map] at ln
  exact (ex_seq ((ex_ifF (u := .bl false) (μ1 := μ) (ev_not (d := true) (ev_call (us := [.int h, .int 0, .int ((N.length : Int) - 1)]) (ev_lcons (ev_var rfl) (ev_l2 ev_int ln)) w) rfl) rfl).trans ex_nil)).trans ex_nil
omit K in
theorem need_row_ok {ds : List Nat} (hl : ds.length ≤ 100) (h5 : ∀ x ∈ ds, x ≤ 5) : runF defs (k + 3) 11 [lU ds] μ = some (.non, μ) := by
  rw [run_need_row]
  refine (if_pos rfl).trans (run_nx (μ1 := μ) (σ := [some (lU ds)]) ?_ (fin_cut rfl (by simp)))
  have w := fits_row_ok k μ (B := 1000) (d := 1) (by decide) (pl_lU (l := ds) (by omega))
  rw [okR_lU hl h5] at w
  exact (ex_seq ((ex_ifF (u := .bl false) (μ1 := μ) (ev_not (d := true) (ev_call (us := [lU ds]) (ev_l1 (ev_var rfl)) w) rfl) rfl).trans ex_nil)).trans ex_nil
include hM h9 in
theorem need_both_ok : runF defs (k + 5) 8 [netU N, lU M] μ = some (.non, μ) := by
  rw [run_need_both]
  refine (if_pos rfl).trans (run_nx (μ1 := μ) (σ := [some (netU N), some (lU M)]) ?_ (fin_cut rfl (by simp)))
  have n10 := K.n10
  have w := fits_marks_ok (k + 1) μ (B := 1000) (d := 1) (by decide) N (pl_lU (l := M) (by omega))
  rw [show okM N.length (lU M) = true from okW_lU hM h9] at w
  refine (ex_seq (ex_ex (ev_call (us := [netU N]) (ev_l1 (ev_var rfl)) (need_net_ok k μ K)))).trans ?_
  exact (ex_seq ((ex_ifF (u := .bl false) (μ1 := μ) (ev_not (d := true) (ev_call (us := [netU N, lU M]) (ev_l2 (ev_var rfl) (ev_var rfl)) w) rfl) rfl).trans ex_nil)).trans ex_nil
theorem are_marks_ok {B d : Nat} (hB : B ≤ 1000) {u : U} (h : Pl B d u) : runF defs (k + 5) 15 [netU N, u] μ = some (.bl (okM N.length u), μ) := by
  rw [run_are_marks]
  refine (if_pos rfl).trans (run_rt (μ1 := μ) (u := .bl (okM N.length u)) ?_ (fin_cut rfl (by simp)))
  unfold b_are_marks
  refine (ex_seq (ex_ex (ev_call (us := [netU N]) (ev_l1 (ev_var rfl)) (need_net_ok k μ K)))).trans ?_
  exact ex_ret (ev_call (us := [netU N, u]) (ev_l2 (ev_var rfl) (ev_var rfl)) (fits_marks_ok (k + 1) μ hB N h))
include hM h9 in
theorem story_ok {h : Nat} (hh : h < N.length) {ds : List Nat} (hl : ds.length ≤ 100) (h5 : ∀ x ∈ ds, x ≤ 5) : runF defs (k + 6) 17 [netU N, lU M, I h, lU ds] μ = some (story N M h ds, μ) := by
  rw [run_story]
  have pl := story_pl (B := 1000) (d := 0) N M h (ds := ds) (by omega)
  refine (if_pos rfl).trans (run_rt (μ1 := μ) (u := story N M h ds) ?_ (fin_cut (frz_pl pl _ _ (by decide)) (by simp)))
  unfold b_story
  refine (ex_seq (ex_ex (ev_call (us := [netU N, lU M]) (ev_l2 (ev_var rfl) (ev_var rfl)) (need_both_ok k μ K hM h9)))).trans ?_
  refine (ex_seq (ex_ex (ev_call (us := [netU N, I h]) (ev_l2 (ev_var rfl) (ev_var rfl)) (need_house_ok (k + 3) μ K hh)))).trans ?_
  refine (ex_seq (ex_ex (ev_call (us := [lU ds]) (ev_l1 (ev_var rfl)) (need_row_ok (k + 2) μ hl h5)))).trans ?_
  exact ex_ret (ev_call (us := [netU N, lU M, I h, lU ds]) (ev_lcons (ev_var rfl) (ev_lcons (ev_var rfl) (ev_l2 (ev_var rfl) (ev_var rfl)))) (story_in_ok (k + 4) μ K.toLnk hM hh (by omega)))
end
/-! ### told apart -/
def toN : U → Nat
  | .int i => i.toNat
  | _ => 0
def dsOf : U → List Nat
  | .tup ys => ys.map toN
  | _ => []
theorem dsOf_lU (ds : List Nat) : dsOf (lU ds) = ds := by
  simp only [dsOf, List.map_map]
  have : ∀ d ∈ ds, (toN ∘ I) d = id d := fun d _ => by simp [toN]
  rw [List.map_congr_left this, List.map_id]
def apB (N : Net) (M : List Nat) (a b : Nat) (u : U) : Bool := okR u && !PyData.eqv (tp (story N M a (dsOf u))) (tp (story N M b (dsOf u)))
theorem ne_pl (μ : Mu) {B d : Nat} {u v : U} (hu : Pl B d u) (hv : Pl B d v) (hd : d ≤ D0) : evCmp μ .ne u v = some (!PyData.eqv (tp u) (tp v)) := by
  simp only [evCmp, evEq, dat_tp μ hu hd, dat_tp μ hv hd, neg?]
section
variable (k : Nat) (μ : Mu) {N : Net} (K : NetOk N) {M : List Nat} (hM : M.length = N.length) (h9 : ∀ x ∈ M, x ≤ 9)
include K hM h9 in
theorem apart_ok {B d : Nat} (hB : B ≤ 1000) {a b : Nat} (ha : a < N.length) (hb : b < N.length) {u : U} (h : Pl B d u) : runF defs (k + 6) 18 [netU N, lU M, I a, I b, u] μ = some (.bl (apB N M a b u), μ) := by
  rw [run_tells_apart]
  refine (if_pos rfl).trans (run_rt (μ1 := μ) (u := .bl (apB N M a b u)) ?_ (fin_cut rfl (by simp)))
  unfold b_tells_apart
  refine (ex_seq (ex_ex (ev_call (us := [netU N, lU M]) (ev_l2 (ev_var rfl) (ev_var rfl)) (need_both_ok k μ K hM h9)))).trans ?_
  refine (ex_seq (ex_ex (ev_call (us := [netU N, I a]) (ev_l2 (ev_var rfl) (ev_var rfl)) (need_house_ok (k + 3) μ K ha)))).trans ?_
  refine (ex_seq (ex_ex (ev_call (us := [netU N, I b]) (ev_l2 (ev_var rfl) (ev_var rfl)) (need_house_ok (k + 3) μ K hb)))).trans ?_
  have f : evalE (runF defs (k + 5)) μ.length (.call 10 [(.var 4)]) [some (netU N), some (lU M), some (I a), some (I b), some u] μ = some (.bl (okR u), μ) := ev_call (us := [u]) (ev_l1 (ev_var rfl)) (fits_row_ok (k + 3) μ hB h)
  unfold apB
  cases hr : okR u with
  | false =>
    rw [hr] at f
    exact ex_ret (ev_andF f)
  | true =>
    rw [hr] at f
    obtain ⟨ds, rfl, hl⟩ := okR_dec hr
    rw [dsOf_lU, Bool.true_and]
    refine ex_ret (ev_andT f (ev_b1 (ev_cmp (u := story N M a ds) (v := story N M b ds) (ev_call (us := [netU N, lU M, I a, lU ds]) (ev_lcons (ev_var rfl) (ev_lcons (ev_var rfl) (ev_l2 (ev_var rfl) (ev_var rfl)))) (story_in_ok (k + 4) μ K.toLnk hM ha (by omega)))
      (ev_call (us := [netU N, lU M, I b, lU ds]) (ev_lcons (ev_var rfl) (ev_lcons (ev_var rfl) (ev_l2 (ev_var rfl) (ev_var rfl)))) (story_in_ok (k + 4) μ K.toLnk hM hb (by omega))) (ne_pl μ (story_pl (B := 1000) (d := 0) N M a (by omega)) (story_pl (B := 1000) (d := 0) N M b (by omega)) (by decide)))))
include K hM in
/-- what the law says of it -/
theorem due_ev {B d : Nat} (hB : B ≤ 1000) (hd : d ≤ 10) {a b : Nat} (ha : a < N.length) (hb : b < N.length) {u : U} (h : Pl B d u) {n0 : Nat} {σ : R.Env} (h1 : σ[1]? = some (some (netU N))) (h2 : σ[2]? = some (some (lU M))) (h7 : σ[7]? = some (some (I a))) (h8 : σ[8]? = some (some (I b))) (h5 : σ[5]? = some (some u)) :
    evalE (runF defs (k + 4)) n0 (.bool true [(.call 34 [(.var 5)]), (.cmp .ne (.call 35 [(.var 1), (.var 2), (.var 7), (.var 5)]) (.call 35 [(.var 1), (.var 2), (.var 8), (.var 5)]))]) σ μ = some (.bl (apB N M a b u), μ) := by
  have f : evalE (runF defs (k + 4)) n0 (.call 34 [(.var 5)]) σ μ = some (.bl (okR u), μ) := ev_call (us := [u]) (ev_l1 (ev_var h5)) (law_row_is (k + 1) μ hB hd h)
  unfold apB
  cases hr : okR u with
  | false =>
    rw [hr] at f
    exact ev_andF f
  | true =>
    rw [hr] at f
    obtain ⟨ds, rfl, hl⟩ := okR_dec hr
    rw [dsOf_lU, Bool.true_and]
    refine ev_andT f (ev_b1 (ev_cmp (u := story N M a ds) (v := story N M b ds) (ev_call (us := [netU N, lU M, I a, lU ds]) (ev_lcons (ev_var h1) (ev_lcons (ev_var h2) (ev_l2 (ev_var h7) (ev_var h5)))) (law_story_ok (k + 3) μ K.toLnk hM ha (by omega)))
      (ev_call (us := [netU N, lU M, I b, lU ds]) (ev_lcons (ev_var h1) (ev_lcons (ev_var h2) (ev_l2 (ev_var h8) (ev_var h5)))) (law_story_ok (k + 3) μ K.toLnk hM hb (by omega))) (ne_pl μ (story_pl (B := 1000) (d := 0) N M a (by omega)) (story_pl (B := 1000) (d := 0) N M b (by omega)) (by decide))))
end
/-! ### walks -/
def wkU : Option (List Nat) → U
  | some l => lU l
  | none => .non
theorem wkL_len (N : Net) : ∀ (ds : List Nat) (h : Nat) (l : List Nat), wkL N h ds = some l → l.length = ds.length
  | [], h, l, e => by cases e; rfl
  | d :: ds, h, l, e => by
    simp only [wkL] at e
    split at e
    · rename_i p _
      cases h2 : wkL N p.1 ds with
      | none => rw [h2] at e; cases e
      | some l2 =>
        rw [h2] at e
        cases e
        simp [wkL_len N ds p.1 l2 h2]
    · cases e
theorem wkU_pl {B d : Nat} (N : Net) (h : Nat) {ds : List Nat} (hB : ds.length ≤ B) : Pl B (d + 1) (wkU (wkL N h ds)) := by
  cases e : wkL N h ds with
  | none => exact .non _
  | some l => exact pl_lU (by rw [wkL_len N ds h l e]; exact hB)
section
variable (k : Nat) (μ : Mu) {N : Net} (K : Lnk N)
abbrev sK (N : Net) (ds0 : List Nat) (ob : U) (h : Nat) (y4 : Option U) : R.Env := [some (netU N), some (I h), some (lU ds0), some ob, y4]
theorem deg_ev {cal : Nat → List U → Mu → Option (U × Mu)} {n0 : Nat} {ν : Mu} {ds0 : List Nat} {ob : U} {h : Nat} {y4 : Option U} (hh : h < N.length) : evalE cal n0 (.bi .len [(.idx (.var 0) (.var 1))]) (sK N ds0 ob h y4) ν = some (I (row N h).length, ν) := ev_bi (us := [rU (row N h)]) (ev_l1 (ev_idxT (ev_var rfl) (ev_var rfl) (net_at hh))) (by simp [evBi, cont])
theorem goal_ev {cal : Nat → List U → Mu → Option (U × Mu)} {n0 : Nat} {ν : Mu} {ds0 : List Nat} {ob : U} {h d : Nat} {p : Nat × Nat} (hh : h < N.length) (e : (row N h)[d]? = some p) : evalE cal n0 (.idx (.idx (.idx (.var 0) (.var 1)) (.var 4)) (.int 0)) (sK N ds0 ob h (some (I d))) ν = some (I p.1, ν) := ev_idxT (xs := [I p.1, I p.2]) (ev_idxT (xs := (row N h).map pU) (j := (d : Int)) (ev_idxT (ev_var rfl) (ev_var rfl) (net_at hh)) (ev_var rfl) (row_at' e)) ev_int (atI_of (j := 0) rfl)
include K in
theorem walk_loop (ds0 : List Nat) : ∀ (ds : List Nat) (h : Nat) (acc : List Nat) (y4 : Option U), h < N.length → acc.length + ds.length ≤ 1000 →
    (wkL N h ds = none ∧ ∃ μ2, forL (fstep (runF defs k) μ.length (.slot 4) lb_walk_0) (ds.map I) (sK N ds0 (.ob μ.length) h y4) (μ ++ [bU acc]) = some (.rt .non (μ ++ [μ2]))) ∨
    (∃ l h' y4', wkL N h ds = some l ∧ forL (fstep (runF defs k) μ.length (.slot 4) lb_walk_0) (ds.map I) (sK N ds0 (.ob μ.length) h y4) (μ ++ [bU acc]) = some (.nx (sK N ds0 (.ob μ.length) h' y4') (μ ++ [bU (acc ++ l)])))
  | [], h, acc, y4, _, _ => .inr ⟨[], h, y4, rfl, by simp [forL]⟩
  | d :: ds, h, acc, y4, hh, hl => by
    have m : (μ ++ [bU acc])[μ.length]? = some (bU acc) := by simp
    have c : evalE (runF defs k) μ.length (.cmp .ge (.var 4) (.bi .len [(.idx (.var 0) (.var 1))])) (sK N ds0 (.ob μ.length) h (some (I d))) (μ ++ [bU acc]) = some (.bl (decide ((row N h).length ≤ d)), μ ++ [bU acc]) := by
      refine ev_cmp (u := I d) (v := I (row N h).length) (ev_var rfl) (deg_ev hh) ?_
      simp only [evCmp, evLt, neg?]
      congr 1
      rw [Bool.eq_iff_iff]
      simp
    have hx : ∀ r, exL (runF defs k) μ.length lb_walk_0 (sK N ds0 (.ob μ.length) h (some (I d))) (μ ++ [bU acc]) = r → fstep (runF defs k) μ.length (.slot 4) lb_walk_0 (I d) (sK N ds0 (.ob μ.length) h y4) (μ ++ [bU acc]) = r := fun r h => h
    simp only [List.map_cons, forL, wkL]
    cases e : (row N h)[d]? with
    | none =>
      rw [decide_eq_true (List.getElem?_eq_none_iff.mp e)] at c
      refine .inl ⟨rfl, bU acc, ?_⟩
      rw [hx _ (ex_bad c ev_non)]
    | some p =>
      have hd := (List.getElem?_eq_some_iff.mp e).1
      rw [decide_eq_false (by omega)] at c
      have hp := K.lt (List.mem_of_getElem? e)
      have st : exL (runF defs k) μ.length lb_walk_0 (sK N ds0 (.ob μ.length) h (some (I d))) (μ ++ [bU acc]) = some (.nx (sK N ds0 (.ob μ.length) p.1 (some (I d))) (μ ++ [bU (acc ++ [p.1])])) := by
        unfold lb_walk_0
        refine (ex_seq ((ex_ifF c rfl).trans ex_nil)).trans ?_
        refine (ex_seq (ex_set (goal_ev hh e))).trans ?_
        refine (ex_seq (ex_append (i := μ.length) (u := I p.1) (xs := acc.map I) (ev_var rfl) (ev_var rfl) m (by simp at hl ⊢; unfold SZ; omega) (Nat.le_refl _))).trans ?_
        rw [ex_nil, set_last]
        simp only [bU, List.map_append, List.map_singleton]
        rfl
      rw [hx _ st]
      simp only
      rcases walk_loop ds0 ds p.1 (acc ++ [p.1]) (some (I d)) hp (by simp at hl ⊢; omega) with ⟨w, μ2, ih⟩ | ⟨l, h', y4', w, ih⟩
      · exact .inl ⟨by rw [w]; rfl, μ2, ih⟩
      · refine .inr ⟨p.1 :: l, h', y4', by rw [w]; rfl, ?_⟩
        rw [ih, List.append_assoc]
        rfl
theorem walk_ok (K : NetOk N) {h : Nat} (hh : h < N.length) {ds : List Nat} (hl : ds.length ≤ 100) (h5 : ∀ x ∈ ds, x ≤ 5) : runF defs (k + 5) 16 [netU N, I h, lU ds] μ = some (wkU (wkL N h ds), μ) := by
  rw [run_walk]
  have pl := wkU_pl (B := 100) (d := 0) N h hl
  have b : ∃ μ2, exL (runF defs (k + 4)) μ.length b_walk [some (netU N), some (I h), some (lU ds), none, none] μ = some (.rt (wkU (wkL N h ds)) (μ ++ [μ2])) := by
    unfold b_walk
    have s0 : ∀ r, exL (runF defs (k + 4)) μ.length [l_walk_0, .ret (.col false .tuple .ex [(.var 3)])] (sK N ds (.ob μ.length) h none) (μ ++ [bU []]) = r → exL (runF defs (k + 4)) μ.length [.ex (.call 6 [(.var 0)]), .ex (.call 9 [(.var 0), (.var 1)]), .ex (.call 11 [(.var 2)]), .set 3 (.lst true []), l_walk_0, .ret (.col false .tuple .ex [(.var 3)])] [some (netU N), some (I h), some (lU ds), none, none] μ = r := fun r hr => by
      refine (ex_seq (ex_ex (ev_call (us := [netU N]) (ev_l1 (ev_var rfl)) (need_net_ok k μ K)))).trans ?_
      refine (ex_seq (ex_ex (ev_call (us := [netU N, I h]) (ev_l2 (ev_var rfl) (ev_var rfl)) (need_house_ok (k + 2) μ K hh)))).trans ?_
      refine (ex_seq (ex_ex (ev_call (us := [lU ds]) (ev_l1 (ev_var rfl)) (need_row_ok (k + 1) μ hl h5)))).trans ?_
      exact (ex_seq (ex_set (u := .ob μ.length) (μ' := μ ++ [bU []]) (ev_lstA ev_lnil (show 0 ≤ SZ by decide)))).trans hr
    have ef : exS (runF defs (k + 4)) μ.length l_walk_0 (sK N ds (.ob μ.length) h none) (μ ++ [bU []]) = forL (fstep (runF defs (k + 4)) μ.length (.slot 4) lb_walk_0) (ds.map I) (sK N ds (.ob μ.length) h none) (μ ++ [bU []]) := ex_for (us := [lU ds]) (ev_l1 (ev_var rfl)) rfl
    rcases walk_loop (k + 4) μ K.toLnk ds ds h [] none hh (by simp; omega) with ⟨w, μ2, e⟩ | ⟨l, h', y4, w, e⟩
    · refine ⟨μ2, s0 _ ?_⟩
      rw [w]
      simp only [exL, ef, e]
      rfl
    · rw [w]
      refine ⟨bU ([] ++ l), s0 _ ((ex_seq (ef.trans e)).trans ?_)⟩
      exact ex_ret (ev_col (us := [.ob μ.length]) (xs := ([] ++ l).map I) (ev_l1 (ev_var rfl)) (by simp [items, asS, asL]) rfl)
  obtain ⟨μ2, b⟩ := b
  exact (if_pos rfl).trans (run_rt b (fin_cut (frz_pl pl _ _ (by decide)) (by simp)))
theorem lwalk_dead (ds0 : List Nat) : ∀ (ds : List Nat) (h : Nat) (y4 : Option U), ∃ y4', forL (fstep (runF defs k) μ.length (.slot 4) lb__law_walk_0) (ds.map I) (sK N ds0 .non h y4) μ = some (.nx (sK N ds0 .non h y4') μ)
  | [], h, y4 => ⟨y4, by simp [forL]⟩
  | d :: ds, h, y4 => by
    obtain ⟨y4', ih⟩ := lwalk_dead ds0 ds h (some (I d))
    refine ⟨y4', ?_⟩
    simp only [List.map_cons, forL]
    have st : fstep (runF defs k) μ.length (.slot 4) lb__law_walk_0 (I d) (sK N ds0 .non h y4) μ = some (.nx (sK N ds0 .non h (some (I d))) μ) := by
      show exL (runF defs k) μ.length lb__law_walk_0 (sK N ds0 .non h (some (I d))) μ = _
      unfold lb__law_walk_0
      exact (ex_seq ((ex_ifF (u := .bl false) (μ1 := μ) (ev_andF (ev_cmp (u := .non) (v := .non) (ev_var rfl) ev_non rfl)) rfl).trans ((ex_seq (ex_set ev_non)).trans ex_nil))).trans ex_nil
    rw [st]
    exact ih
include K in
theorem lwalk_loop (ds0 : List Nat) : ∀ (ds : List Nat) (h : Nat) (acc : List Nat) (y4 : Option U), h < N.length → acc.length + ds.length ≤ 1000 →
    ∃ h' y4', forL (fstep (runF defs k) μ.length (.slot 4) lb__law_walk_0) (ds.map I) (sK N ds0 (lU acc) h y4) μ = some (.nx (sK N ds0 (wkU ((wkL N h ds).map (acc ++ ·))) h' y4') μ)
  | [], h, acc, y4, _, _ => ⟨h, y4, by simp [forL, wkL, wkU]⟩
  | d :: ds, h, acc, y4, hh, hl => by
    have nn : evalE (runF defs k) μ.length (.cmp .isnot (.var 3) .non) (sK N ds0 (lU acc) h (some (I d))) μ = some (.bl true, μ) := ev_cmp (u := lU acc) (v := .non) (ev_var rfl) ev_non rfl
    have c : evalE (runF defs k) μ.length (.cmp .lt (.var 4) (.bi .len [(.idx (.var 0) (.var 1))])) (sK N ds0 (lU acc) h (some (I d))) μ = some (.bl (decide (d < (row N h).length)), μ) := ev_cmp (u := I d) (v := I (row N h).length) (ev_var rfl) (deg_ev hh) lt_I
    have hx : ∀ r, exL (runF defs k) μ.length lb__law_walk_0 (sK N ds0 (lU acc) h (some (I d))) μ = r → fstep (runF defs k) μ.length (.slot 4) lb__law_walk_0 (I d) (sK N ds0 (lU acc) h y4) μ = r := fun r h => h
    simp only [List.map_cons, forL, wkL]
    cases e : (row N h)[d]? with
    | none =>
      rw [decide_eq_false (by have := List.getElem?_eq_none_iff.mp e; omega)] at c
      have st : exL (runF defs k) μ.length lb__law_walk_0 (sK N ds0 (lU acc) h (some (I d))) μ = some (.nx (sK N ds0 .non h (some (I d))) μ) := by
        unfold lb__law_walk_0
        exact (ex_seq ((ex_ifF (ev_andT nn (ev_b1 c)) rfl).trans ((ex_seq (ex_set ev_non)).trans ex_nil))).trans ex_nil
      rw [hx _ st]
      obtain ⟨y4', ih⟩ := lwalk_dead k μ (N := N) ds0 ds h (some (I d))
      exact ⟨h, y4', ih⟩
    | some p =>
      rw [decide_eq_true (List.getElem?_eq_some_iff.mp e).1] at c
      have hp := K.lt (List.mem_of_getElem? e)
      have st : exL (runF defs k) μ.length lb__law_walk_0 (sK N ds0 (lU acc) h (some (I d))) μ = some (.nx (sK N ds0 (lU (acc ++ [p.1])) p.1 (some (I d))) μ) := by
        unfold lb__law_walk_0
        refine (ex_seq ((ex_ifT (ev_andT nn (ev_b1 c)) rfl).trans ((ex_seq (ex_set (goal_ev hh e))).trans ((ex_seq (ex_set (u := lU (acc ++ [p.1])) (μ' := μ) ?_)).trans ex_nil)))).trans ex_nil
        unfold lU
        rw [List.map_append]
        exact ev_addT (ev_var rfl) (ev_tup (us := [I p.1]) (ev_l1 (ev_var rfl)) (show 1 ≤ SZ by decide)) (by simp at hl ⊢; unfold SZ; omega)
      rw [hx _ st]
      obtain ⟨h', y4', ih⟩ := lwalk_loop ds0 ds p.1 (acc ++ [p.1]) (some (I d)) hp (by simp at hl ⊢; omega)
      have ee : (wkL N p.1 ds).map (acc ++ [p.1] ++ ·) = ((wkL N p.1 ds).map (p.1 :: ·)).map (acc ++ ·) := by cases h : wkL N p.1 ds <;> simp [h]
      rw [ee] at ih
      exact ⟨h', y4', ih⟩
theorem law_walk_ok (K : Lnk N) {h : Nat} (hh : h < N.length) {ds : List Nat} (hl : ds.length ≤ 500) : runF defs (k + 1) 39 [netU N, I h, lU ds] μ = some (wkU (wkL N h ds), μ) := by
  rw [run__law_walk]
  have pl := wkU_pl (B := 500) (d := 0) N h hl
  obtain ⟨h', y4, e⟩ := lwalk_loop k μ K ds ds h [] none hh (by simp; omega)
  have b : exL (runF defs k) μ.length b__law_walk [some (netU N), some (I h), some (lU ds), none, none] μ = some (.rt (wkU (wkL N h ds)) μ) := by
    unfold b__law_walk
    refine (ex_seq (ex_set (u := lU []) (μ' := μ) (ev_tup ev_lnil (show 0 ≤ SZ by decide)))).trans ?_
    have ef : exS (runF defs k) μ.length l__law_walk_0 (sK N ds (lU []) h none) μ = forL (fstep (runF defs k) μ.length (.slot 4) lb__law_walk_0) (ds.map I) (sK N ds (lU []) h none) μ := ex_for (us := [lU ds]) (ev_l1 (ev_var rfl)) rfl
    refine (ex_seq (ef.trans e)).trans (ex_ret ?_)
    have : (wkL N h ds).map ([] ++ ·) = wkL N h ds := by cases wkL N h ds <;> simp
    rw [this]
    exact ev_var rfl
  exact (if_pos rfl).trans (run_rt b (fin_cut (frz_pl pl _ _ (by decide)) (by simp)))
end
end K30

set_option Elab.async false
set_option linter.all false
set_option maxRecDepth 100000
set_option maxHeartbeats 4000000
namespace K30
open PySem L2 R
theorem zipIdx_fst {α : Type} : ∀ (l : List α) (i : Nat), (l.zipIdx i).map (·.1) = l
  | [], _ => rfl
  | a :: l, i => by rw [List.zipIdx_cons, List.map_cons, zipIdx_fst l (i + 1)]
theorem zipIdx_snd {α : Type} : ∀ (l : List α) (i : Nat), (l.zipIdx i).map (fun p => I p.2) = (List.range l.length).map fun j => I (i + j)
  | [], _ => rfl
  | a :: l, i => by
    rw [List.zipIdx_cons, List.map_cons, zipIdx_snd l (i + 1), List.length_cons, List.range_succ_eq_map, List.map_cons, List.map_map]
    congr 1
    apply List.map_congr_left
    intro j _
    show I (i + 1 + j) = I (i + (j + 1))
    rw [show i + 1 + j = i + (j + 1) by omega]
abbrev nmU (L : List Nat) : U := .dk (L.map kI) ((List.range L.length).map I)
section
variable (k : Nat) (μ : Mu) {N : Net} (K : NetOk N) {M : List Nat} (hM : M.length = N.length) {s : Nat} (hs : s < N.length)
abbrev sT (N : Net) (M : List Nat) (s : Nat) (nm d4 : Option U) (ob : U) (y6 y7 y8 : Option U) : R.Env := [some (netU N), some (lU M), some (I s), nm, d4, some ob, y6, y7, y8, none, none]
include K hM hs
theorem told_in_ok : runF defs (k + 1) 13 [netU N, lU M, I s] μ = some (.tup [netU (tN N s), lU (tM N s M)], μ) := by
  rw [run_told_in]
  have n10 := K.n10
  have T := tN_ok K hs
  have ol := ord_len K hs
  have nd := ord_nd K hs
  have om : ∀ x, x < N.length → x ∈ ordr N s := fun x hx => ord_mem K hs hx
  have olt : ∀ x, x ∈ ordr N s → x < N.length := fun x hx => ord_lt K hs hx
  obtain ⟨a, y3, y4, e⟩ := order_all k μ K.toLnk (lU M) (I s) hs μ.length (Nat.le_refl _) none none
  have eo : bfs N s N.length = ordr N s := rfl
  rw [eo] at e
  have eT : netU (tN N s) = .tup ((ordr N s).map fun o => rU ((row N o).map fun p => (pos (ordr N s) p.1, p.2))) := by
    show U.tup _ = U.tup _
    unfold tN
    rw [List.map_map]
    rfl
  have eM : lU (tM N s M) = .tup ((ordr N s).map fun o => I (mk M o)) := by
    show U.tup _ = U.tup _
    unfold tM
    rw [List.map_map]
    rfl
  rw [eT, eM]
  generalize ordr N s = L at e ol nd om olt
  have m : (μ ++ [bU L])[μ.length]? = some (bU L) := by simp
  have wk : walk (μ ++ [bU L]) .ex [.ob μ.length] = some (.inr (false, μ.length)) := by simp only [walk, m]
  have wke : walk (μ ++ [bU L]) .enm [.ob μ.length] = some (.inr (true, μ.length)) := by simp only [walk, m]
  have c4 : evalE (runF defs k) μ.length (.col false (.dict false) .ex [c_told_in_4]) (sT N M s none none (.ob μ.length) (some (I a)) y3 y4) (μ ++ [bU L]) = some (nmU L, μ ++ [bU L]) := by
    have cv := compV_enm (step := cstep (runF defs k) μ.length (.tup [(.slot 10), (.slot 9)]) (.bl true) (.tup [(.var 9), (.var 10)]) [10, 9] (sT N M s none none (.ob μ.length) (some (I a)) y3 y4)) (enc := I) (g := fun j x => .tup [I x, I j]) (μ := μ ++ [bU L]) (i := μ.length) (xs := L) m (fun j x hx => cs_yes rfl (ev_tup (us := [I x, I j]) (ev_l2 (ev_var rfl) (ev_var rfl)) (show 2 ≤ SZ by decide))) (by unfold SZ; omega) (f := FU) (k := 0) (acc := []) (Nat.zero_le _) (by unfold FU; omega) (Nat.le_refl _)
    rw [List.drop_zero, List.nil_append] at cv
    have ce : evalE (runF defs k) μ.length c_told_in_4 (sT N M s none none (.ob μ.length) (some (I a)) y3 y4) (μ ++ [bU L]) = some (.lst ((L.zipIdx).map fun p => .tup [I p.1, I p.2]), μ ++ [bU L]) := (ev_compVe (us := [.ob μ.length]) (ev_l1 (ev_var rfl)) wke cv).trans rfl
    refine ev_col (us := [.lst ((L.zipIdx).map fun p => .tup [I p.1, I p.2])]) (xs := (L.zipIdx).map fun p => .tup [I p.1, I p.2]) (ev_l1 ce) rfl ?_
    have mp : mapO pairKV ((L.zipIdx).map fun p : Nat × Nat => U.tup [I p.1, I p.2]) = some ((L.zipIdx).map fun p => (I p.1, I p.2)) := mapO_map (g := fun p : Nat × Nat => U.tup [I p.1, I p.2]) (h := fun p => (I p.1, I p.2)) fun p _ => rfl
    have mg := merge_nd ((L.zipIdx).map fun p => (p.1, I p.2)) [] [] (by rw [List.nil_append, List.map_map]; show ((L.zipIdx).map (·.1)).Nodup; rw [zipIdx_fst]; exact nd) (by simp; omega)
    have z1 : ((L.zipIdx).map fun p : Nat × Nat => (p.1, I p.2)).map (·.1) = L := by
      rw [List.map_map]
      exact zipIdx_fst L 0
    have z2 : ((L.zipIdx).map fun p : Nat × Nat => (p.1, I p.2)).map (·.2) = (List.range L.length).map I := by
      rw [List.map_map]
      have := zipIdx_snd L 0
      simp only [Nat.zero_add] at this
      exact this
    rw [List.nil_append, z1, List.nil_append, z2, List.map_map] at mg
    simp only [evCol, mp]
    have mg' : mergeU false ((L.zipIdx).map fun p => (I p.1, I p.2)) (.dk [] []) = some (nmU L) := mg
    rw [mg']
    rfl
  have look7 : ∀ {x : Nat} {y9 y10 d4 : Option U} {q8 : U}, x < N.length → evalE (runF defs k) μ.length (.idx (.var 3) (.var 7)) [some (netU N), some (lU M), some (I s), some (nmU L), d4, some (.ob μ.length), some (I a), some (I x), some q8, y9, y10] (μ ++ [bU L]) = some (I (pos L x), μ ++ [bU L]) := fun {x y9 y10 d4 q8} hx => by
    refine ev_idxK (ks := L.map kI) (vs := (List.range L.length).map I) (q := kI x) (ev_var rfl) (ev_var rfl) rfl rfl ?_
    rw [lk_pos (om x hx), List.getElem?_map, List.getElem?_range (pos_lt (om x hx))]
    rfl
  have c6 : evalE (runF defs k) μ.length (.col false .tuple .ex [c_told_in_6]) (sT N M s (some (nmU L)) none (.ob μ.length) (some (I a)) y3 y4) (μ ++ [bU L]) = some (.tup (L.map fun o => rU ((row N o).map fun p => (pos L p.1, p.2))), μ ++ [bU L]) := by
    have cv := compV_all (step := cstep (runF defs k) μ.length (.slot 9) (.bl true) (.col false .tuple .ex [c_told_in_5]) [9] (sT N M s (some (nmU L)) none (.ob μ.length) (some (I a)) y3 y4)) (enc := I) (g := fun o => rU ((row N o).map fun p => (pos L p.1, p.2))) (μ := μ ++ [bU L]) (i := μ.length) (xs := L) m (fun o ho => cs_yes rfl ?_) (by unfold SZ; omega) (f := FU) (k := 0) (acc := []) (Nat.zero_le _) (by unfold FU; omega) (Nat.le_refl _)
    · rw [List.drop_zero, List.nil_append] at cv
      exact ev_col (us := [.lst (L.map fun o => rU ((row N o).map fun p => (pos L p.1, p.2)))]) (ev_l1 ((ev_compV (us := [.ob μ.length]) (ev_l1 (ev_var rfl)) wk cv).trans rfl)) rfl rfl
    · have hh := olt o ho
      have six := K.six hh
      have ca := compL_all (step := cstep (runF defs k) μ.length (.tup [(.slot 7), (.slot 8)]) (.bl true) (.tup [(.idx (.var 3) (.var 7)), (.var 8)]) [7, 8] [some (netU N), some (lU M), some (I s), some (nmU L), none, some (.ob μ.length), some (I a), y3, y4, some (I o), none]) (enc := pU) (g := fun p => pU (pos L p.1, p.2)) (μ := μ ++ [bU L]) (xs := row N o) (acc := []) (fun p hp => cs_yes rfl (ev_tup (us := [I (pos L p.1), I p.2]) (ev_l2 (look7 (K.lt hp)) (ev_var rfl)) (show 2 ≤ SZ by decide))) (by simp; unfold SZ; omega)
      refine ev_col (us := [.lst ((row N o).map fun p => pU (pos L p.1, p.2))]) (ev_l1 ((ev_comp (us := [rU (row N o)]) (μ1 := μ ++ [bU L]) (xs := (row N o).map pU) (ev_l1 (ev_idxT (ev_var rfl) (ev_var rfl) (net_at hh))) rfl ca).trans rfl)) rfl ?_
      unfold rU
      rw [List.map_map]
      rfl
  have c7 : ∀ d4, evalE (runF defs k) μ.length (.col false .tuple .ex [c_told_in_7]) (sT N M s (some (nmU L)) d4 (.ob μ.length) (some (I a)) y3 y4) (μ ++ [bU L]) = some (.tup (L.map fun o => I (mk M o)), μ ++ [bU L]) := fun d4 => by
    have cv := compV_all (step := cstep (runF defs k) μ.length (.slot 9) (.bl true) (.idx (.var 1) (.var 9)) [9] (sT N M s (some (nmU L)) d4 (.ob μ.length) (some (I a)) y3 y4)) (enc := I) (g := fun o => I (mk M o)) (μ := μ ++ [bU L]) (i := μ.length) (xs := L) m (fun o ho => cs_yes rfl (ev_idxT (ev_var rfl) (ev_var rfl) (mk_at (by have := olt o ho; omega)))) (by unfold SZ; omega) (f := FU) (k := 0) (acc := []) (Nat.zero_le _) (by unfold FU; omega) (Nat.le_refl _)
    rw [List.drop_zero, List.nil_append] at cv
    exact ev_col (us := [.lst (L.map fun o => I (mk M o))]) (ev_l1 ((ev_compV (us := [.ob μ.length]) (ev_l1 (ev_var rfl)) wk cv).trans rfl)) rfl rfl
  have b : exL (runF defs k) μ.length b_told_in [some (netU N), some (lU M), some (I s), none, none, none, none, none, none, none, none] μ = some (.rt (.tup [.tup (L.map fun o => rU ((row N o).map fun p => (pos L p.1, p.2))), .tup (L.map fun o => I (mk M o))]) (μ ++ [bU L])) := by
    unfold b_told_in
    refine (ex_seq (ex_par (us := [.ob μ.length, I 0]) (μ' := μ ++ [bU [s]]) (σ' := sO (lU M) (I s) (netU N) (.ob μ.length) 0 none none) (ev_l2 (ev_lstA (ev_l1 (ev_var rfl)) (show 1 ≤ SZ by decide)) ev_int) rfl)).trans ?_
    refine (ex_seq e).trans ?_
    refine (ex_seq (ex_set c4)).trans ?_
    refine (ex_seq (ex_set c6)).trans ?_
    exact ex_ret (ev_tup (ev_l2 (ev_var rfl) (c7 _)) (show 2 ≤ SZ by decide))
  refine (if_pos rfl).trans (run_rt b (fin_cut (frz_pl (B := 10) (d := 4) (.tup (by simp) fun u hu => ?_) _ _ (by decide)) (by simp)))
  simp only [List.mem_cons, List.not_mem_nil, or_false] at hu
  rcases hu with rfl | rfl
  · refine .tup (by rw [List.length_map]; omega) fun u hu => ?_
    obtain ⟨o, ho, rfl⟩ := List.mem_map.mp hu
    exact pl_row (by decide) (by rw [List.length_map]; have := K.six (olt o ho); omega)
  · refine .tup (by rw [List.length_map]; omega) fun u hu => ?_
    obtain ⟨o, ho, rfl⟩ := List.mem_map.mp hu
    exact .int _ _
theorem told_from_ok (h9 : ∀ x ∈ M, x ≤ 9) : runF defs (k + 6) 19 [netU N, lU M, I s] μ = some (.tup [netU (tN N s), lU (tM N s M)], μ) := by
  rw [run_told_from]
  have t := told_in_ok (k + 4) μ K hM hs
  have T := tN_ok K hs
  have tl := tN_len K hs
  have tm : (tM N s M).length = N.length := by unfold tM; rw [List.length_map]; exact ord_len K hs
  have n10 := K.n10
  refine (if_pos rfl).trans (run_rt (μ1 := μ) (u := .tup [netU (tN N s), lU (tM N s M)]) ?_ (fin_cut (frz_pl (B := 10) (d := 4) (.tup (by simp) fun u hu => ?_) _ _ (by decide)) (by simp)))
  · unfold b_told_from
    refine (ex_seq (ex_ex (ev_call (us := [netU N, lU M]) (ev_l2 (ev_var rfl) (ev_var rfl)) (need_both_ok k μ K hM h9)))).trans ?_
    refine (ex_seq (ex_ex (ev_call (us := [netU N, I s]) (ev_l2 (ev_var rfl) (ev_var rfl)) (need_house_ok (k + 3) μ K hs)))).trans ?_
    exact ex_ret (ev_call (us := [netU N, lU M, I s]) (ev_lcons (ev_var rfl) (ev_l2 (ev_var rfl) (ev_var rfl))) t)
  · simp only [List.mem_cons, List.not_mem_nil, or_false] at hu
    rcases hu with rfl | rfl
    · exact pl_netU T.toLnk (by decide)
    · exact pl_lU (by omega)
end
end K30

set_option Elab.async false
set_option linter.all false
set_option maxRecDepth 100000
set_option maxHeartbeats 4000000
namespace K30
open PySem L2 R
/-! ### what is told is one with the net -/
theorem pos_app {L t : List Nat} {x : Nat} (h : x ∈ L) : pos (L ++ t) x = pos L x := by
  induction L with
  | nil => cases h
  | cons a l ih =>
    rw [List.cons_append, pos, pos]
    split
    · rfl
    · rename_i e
      rcases List.mem_cons.mp h with z | z
      · exact absurd z.symm e
      · rw [ih z]
theorem pos_rng {n x : Nat} (h : x < n) : pos (List.range n) x = x := pos_at List.nodup_range (List.getElem?_range h)
theorem lk_rng {n x : Nat} {vs : List U} (h : x < n) : lk ((List.range n).map kI) vs (kI x) = vs[x]? := by
  rw [lk_pos (by simpa using h), pos_rng h]
theorem lk_not {vs : List U} {x : Nat} : ∀ {L : List Nat}, x ∉ L → lk (L.map kI) vs (kI x) = none := by
  intro L
  induction L generalizing vs with
  | nil => intro _; cases vs <;> rfl
  | cons a l ih =>
    intro h
    cases vs with
    | nil => rfl
    | cons v vs =>
      have ne : kI a ≠ kI x := fun z => h (by injection z with z; simp; omega)
      simp only [List.map_cons, lk]
      rw [if_neg ne]
      exact ih fun z => h (by simp [z])
abbrev dkR (L : List Nat) : U := .dk ((List.range L.length).map kI) (L.map I)
theorem put_R (L : List Nat) (g : Nat) : U.dk (ptk ((List.range L.length).map kI) (kI L.length)) (pt ((List.range L.length).map kI) (L.map I) (kI L.length) (I g)) = dkR (L ++ [g]) := by
  have hn : kI L.length ∉ (List.range L.length).map kI := fun z => by
    have := kI_mem.mp z
    simp at this
  unfold ptk pt
  rw [if_neg hn, if_neg hn]
  simp [dkR, List.range_succ]
section
variable (A B A' B' : U) (μ : Mu)
theorem w2a : (μ ++ [A, B])[μ.length]? = some A := by simp
theorem w2b : (μ ++ [A, B])[μ.length + 1]? = some B := by simp
theorem w2s : (μ ++ [A, B]).set μ.length A' = μ ++ [A', B] := by simp
theorem w2t : (μ ++ [A, B]).set (μ.length + 1) B' = μ ++ [A, B'] := by simp
end
theorem in_dkR {μ : Mu} {i : Nat} {L : List Nat} (h : μ[i]? = some (dkR L)) (x : Nat) : evCmp μ .notin (I x) (.ob i) = some (!decide (x < L.length)) := by
  have c : cont μ (.ob i) = some (dkR L) := h
  simp only [evCmp, evIn, c, dget, sky]
  by_cases hx : x < L.length
  · have := lk_rng (vs := L.map I) hx
    rw [List.getElem?_map, List.getElem?_eq_getElem hx] at this
    rw [show (Sum.inl ((x : Nat) : Int) : Key) = kI x from rfl, this, decide_eq_true hx]
    rfl
  · rw [show (Sum.inl ((x : Nat) : Int) : Key) = kI x from rfl, lk_not (by simp; omega), decide_eq_false hx]
    rfl
section
variable (k : Nat) (μ : Mu) {N : Net} (K : NetOk N) {M : List Nat} (hM : M.length = N.length) {s : Nat} (hs : s < N.length)
abbrev tdU (N : Net) (M : List Nat) (s : Nat) : U := .tup [netU (tN N s), lU (tM N s M)]
abbrev sB (N : Net) (M : List Nat) (s m : Nat) (y4 y9 y10 y11 y12 : Option U) : R.Env := [some (netU N), some (lU M), some (I s), some (tdU N M s), y4, some (netU (tN N s)), some (lU (tM N s M)), some (.ob m), some (.ob (m + 1)), y9, y10, y11, y12]
include K hs in
theorem told_step {Lc t : List Nat} (hl : Lc.length ≤ 10) (j : Nat) (p : Nat × Nat) (ht : ordr N s = insN Lc p.1 ++ t) :
    exL (runF defs k) μ.length lb__law_is_told_0 (sB N M s μ.length (some (I j)) (some (I (pos (ordr N s) p.1))) (some (I p.2)) (some (I p.1)) (some (I p.2))) (μ ++ [dkR Lc, bU (List.range Lc.length)]) = some (.nx (sB N M s μ.length (some (I j)) (some (I (pos (ordr N s) p.1))) (some (I p.2)) (some (I p.1)) (some (I p.2))) (μ ++ [dkR (insN Lc p.1), bU (List.range (insN Lc p.1).length)])) := by
  have nd := ord_nd K hs
  have ma := w2a (dkR Lc) (bU (List.range Lc.length)) μ
  have mb := w2b (dkR Lc) (bU (List.range Lc.length)) μ
  have ni := ev_cmp (cal := runF defs k) (n0 := μ.length) (op := .notin) (ev_var (σ := sB N M s μ.length (some (I j)) (some (I (pos (ordr N s) p.1))) (some (I p.2)) (some (I p.1)) (some (I p.2))) (μ := μ ++ [dkR Lc, bU (List.range Lc.length)]) (i := 9) rfl) (ev_var (i := 7) rfl) (in_dkR ma (pos (ordr N s) p.1))
  -- the last test, when the dict is right
  have last : ∀ {L2 : List Nat} {B : U}, L2[pos (ordr N s) p.1]? = some p.1 → evalE (runF defs k) μ.length (.bool false [(.cmp .ne (.idx (.var 7) (.var 9)) (.var 11)), (.cmp .ne (.var 10) (.var 12))]) (sB N M s μ.length (some (I j)) (some (I (pos (ordr N s) p.1))) (some (I p.2)) (some (I p.1)) (some (I p.2))) (μ ++ [dkR L2, B]) = some (.bl false, μ ++ [dkR L2, B]) := fun {L2 B} h2 => by
    have hx := (List.getElem?_eq_some_iff.mp h2).1
    have i7 : evalE (runF defs k) μ.length (.idx (.var 7) (.var 9)) (sB N M s μ.length (some (I j)) (some (I (pos (ordr N s) p.1))) (some (I p.2)) (some (I p.1)) (some (I p.2))) (μ ++ [dkR L2, B]) = some (I p.1, μ ++ [dkR L2, B]) := by
      refine ev_idxK (ks := (List.range L2.length).map kI) (vs := L2.map I) (q := kI (pos (ordr N s) p.1)) (ev_var rfl) (ev_var rfl) (w2a (dkR L2) B μ) rfl ?_
      rw [lk_rng hx, List.getElem?_map, h2]
      rfl
    exact ev_orF (ev_cmp (u := I p.1) (v := I p.1) i7 (ev_var rfl) (ne_no rfl)) (ev_b1 (ev_cmp (u := I p.2) (v := I p.2) (ev_var rfl) (ev_var rfl) (ne_no rfl)))
  unfold lb__law_is_told_0
  by_cases hm : p.1 ∈ Lc
  · have ins : insN Lc p.1 = Lc := by unfold insN; rw [if_pos hm]
    rw [ins] at ht ⊢
    have pl : pos (ordr N s) p.1 < Lc.length := by rw [ht, pos_app hm]; exact pos_lt hm
    have pg : Lc[pos (ordr N s) p.1]? = some p.1 := by rw [ht, pos_app hm]; exact pos_get hm
    rw [decide_eq_true pl] at ni
    refine (ex_seq ((ex_ifF ni rfl).trans ex_nil)).trans ?_
    exact (ex_seq ((ex_ifF (last pg) rfl).trans ex_nil)).trans ex_nil
  · have ins : insN Lc p.1 = Lc ++ [p.1] := by unfold insN; rw [if_neg hm]
    rw [ins] at ht ⊢
    have pe : pos (ordr N s) p.1 = Lc.length := pos_at nd (by rw [ht]; simp)
    rw [pe] at ni last ⊢
    rw [decide_eq_false (by omega)] at ni
    have l8 : evalE (runF defs k) μ.length (.cmp .ne (.var 9) (.bi .len [(.var 8)])) (sB N M s μ.length (some (I j)) (some (I Lc.length)) (some (I p.2)) (some (I p.1)) (some (I p.2))) (μ ++ [dkR Lc, bU (List.range Lc.length)]) = some (.bl false, μ ++ [dkR Lc, bU (List.range Lc.length)]) := by
      refine ev_cmp (u := I Lc.length) (v := I Lc.length) (ev_var rfl) (ev_bi (us := [.ob (μ.length + 1)]) (ev_l1 (ev_var rfl)) ?_) (ne_no rfl)
      have c : cont (μ ++ [dkR Lc, bU (List.range Lc.length)]) (.ob (μ.length + 1)) = some (bU (List.range Lc.length)) := mb
      simp only [evBi, c, List.length_map, List.length_range]
    have s1 : exS (runF defs k) μ.length (.sub (.var 7) (.var 9) (.var 11)) (sB N M s μ.length (some (I j)) (some (I Lc.length)) (some (I p.2)) (some (I p.1)) (some (I p.2))) (μ ++ [dkR Lc, bU (List.range Lc.length)]) = some (.nx (sB N M s μ.length (some (I j)) (some (I Lc.length)) (some (I p.2)) (some (I p.1)) (some (I p.2))) (μ ++ [dkR (Lc ++ [p.1]), bU (List.range Lc.length)])) := by
      have := ex_subK (cal := runF defs k) (n0 := μ.length) (σ := sB N M s μ.length (some (I j)) (some (I Lc.length)) (some (I p.2)) (some (I p.1)) (some (I p.2))) (μ := μ ++ [dkR Lc, bU (List.range Lc.length)]) (a := .var 7) (e := .var 11) (j := .var 9) (i := μ.length) (u := I p.1) (q := kI Lc.length) (v := I Lc.length) (ev_var rfl) (ev_var rfl) (ev_var rfl) rfl ma (by simp; unfold SZ; omega) (Nat.le_refl _)
      rw [put_R, w2s] at this
      exact this
    have mb2 := w2b (dkR (Lc ++ [p.1])) (bU (List.range Lc.length)) μ
    have s2 : exS (runF defs k) μ.length (.ex (.me false .append (.var 8) [(.var 9)])) (sB N M s μ.length (some (I j)) (some (I Lc.length)) (some (I p.2)) (some (I p.1)) (some (I p.2))) (μ ++ [dkR (Lc ++ [p.1]), bU (List.range Lc.length)]) = some (.nx (sB N M s μ.length (some (I j)) (some (I Lc.length)) (some (I p.2)) (some (I p.1)) (some (I p.2))) (μ ++ [dkR (Lc ++ [p.1]), bU (List.range (Lc ++ [p.1]).length)])) := by
      have := ex_append (cal := runF defs k) (n0 := μ.length) (σ := sB N M s μ.length (some (I j)) (some (I Lc.length)) (some (I p.2)) (some (I p.1)) (some (I p.2))) (μ := μ ++ [dkR (Lc ++ [p.1]), bU (List.range Lc.length)]) (al := false) (a := .var 8) (e := .var 9) (i := μ.length + 1) (u := I Lc.length) (xs := (List.range Lc.length).map I) (ev_var rfl) (ev_var rfl) mb2 (by simp; unfold SZ; omega) (Nat.le_succ _)
      rw [w2t] at this
      have e : bU (List.range (Lc ++ [p.1]).length) = .lst ((List.range Lc.length).map I ++ [I Lc.length]) := by
        rw [List.length_append, List.length_singleton, List.range_succ, bU, List.map_append]
        rfl
      rw [e]
      exact this
    refine (ex_seq ((ex_ifT ni rfl).trans ((ex_seq ((ex_ifF l8 rfl).trans ex_nil)).trans ((ex_seq s1).trans ((ex_seq s2).trans ex_nil))))).trans ?_
    exact (ex_seq ((ex_ifF (last (by simp)) rfl).trans ex_nil)).trans ex_nil
include K hs in
theorem look_part {L r : List (Nat × Nat)} {A : List Nat} (i : Nat) : ∃ t, look A r = look A (r.take i) ++ t := by
  obtain ⟨t, e⟩ := look_pre (look A (r.take i)) (r.drop i)
  refine ⟨t, ?_⟩
  rw [← e]
  unfold look
  rw [← List.foldl_append, ← List.map_append, List.take_append_drop]
include K hM hs in
theorem law_told_ok : runF defs (k + 1) 40 [netU N, lU M, I s, tdU N M s] μ = some (.bl true, μ) := by
  rw [run__law_is_told]
  have n10 := K.n10
  have ol := ord_len K hs
  have nd := ord_nd K hs
  have tl := tN_len K hs
  have olt : ∀ x, x ∈ ordr N s → x < N.length := fun x hx => ord_lt K hs hx
  obtain ⟨σ', μ', e, y4, y9, y10, y11, y12, hσ, hμ⟩ := forL_inv0 (step := fstep (runF defs k) μ.length (.slot 4) lb__law_is_told_2) (xs := (List.range N.length).map I)
    (fun j σ ν => ∃ y4 y9 y10 y11 y12, σ = sB N M s μ.length y4 y9 y10 y11 y12 ∧ ν = μ ++ [dkR (bfs N s j), bU (List.range (bfs N s j).length)]) (σ := sB N M s μ.length none none none none none) (μ := μ ++ [dkR [s], bU [0]]) ⟨none, none, none, none, none, rfl, rfl⟩ (fun j x σ ν hx hp => by
      obtain ⟨y4, y9, y10, y11, y12, rfl, rfl⟩ := hp
      obtain ⟨hj, rfl⟩ := rng_at hx
      have bl := K.bfs_len hs j
      have jl : j < (bfs N s j).length := by
        rcases Nat.lt_or_ge j (bfs N s j).length with z | z
        · exact z
        · exfalso
          have := bfs_stop z (N.length - j)
          rw [show j + (N.length - j) = N.length by omega] at this
          have a := K.all hs
          rw [this] at a
          omega
      have eo : (bfs N s j)[j]? = some (bfs N s j)[j] := List.getElem?_eq_getElem jl
      have ho := K.bfs_lt hs j _ (List.getElem_mem jl)
      have es : bfs N s (j + 1) = look (bfs N s j) (row N (bfs N s j)[j]) := by
        rw [bfs]
        unfold bstep
        rw [eo]
      obtain ⟨t1, pre1⟩ : ∃ t, ordr N s = bfs N s (j + 1) ++ t := by
        obtain ⟨t, e⟩ := bfs_pre N s (j + 1) (N.length - (j + 1))
        rw [show j + 1 + (N.length - (j + 1)) = N.length by omega] at e
        exact ⟨t, e⟩
      obtain ⟨t0, pre0⟩ : ∃ t, ordr N s = bfs N s j ++ t := by
        obtain ⟨t, e⟩ := bfs_pre N s j (N.length - j)
        rw [show j + (N.length - j) = N.length by omega] at e
        exact ⟨t, e⟩
      have po : pos (ordr N s) (bfs N s j)[j] = j := pos_at nd (by rw [pre0, List.getElem?_append_left jl, eo])
      generalize (bfs N s j)[j] = o at eo ho es po
      have trow : row (tN N s) j = (row N o).map fun p => (pos (ordr N s) p.1, p.2) := by
        have := tN_row K hs ho
        rw [po] at this
        exact this
      have tmk : mk (tM N s M) j = mk M o := by
        have := tM_at K hs (M := M) ho
        rw [po] at this
        exact this
      have ma := w2a (dkR (bfs N s j)) (bU (List.range (bfs N s j).length)) μ
      have mb := w2b (dkR (bfs N s j)) (bU (List.range (bfs N s j).length)) μ
      have l8 : cont (μ ++ [dkR (bfs N s j), bU (List.range (bfs N s j).length)]) (.ob (μ.length + 1)) = some (bU (List.range (bfs N s j).length)) := mb
      have i7 : evalE (runF defs k) μ.length (.idx (.var 7) (.var 4)) (sB N M s μ.length (some (I j)) y9 y10 y11 y12) (μ ++ [dkR (bfs N s j), bU (List.range (bfs N s j).length)]) = some (I o, μ ++ [dkR (bfs N s j), bU (List.range (bfs N s j).length)]) := by
        refine ev_idxK (ks := (List.range (bfs N s j).length).map kI) (vs := (bfs N s j).map I) (q := kI j) (ev_var rfl) (ev_var rfl) ma rfl ?_
        rw [lk_rng jl, List.getElem?_map, eo]
        rfl
      have i5 : evalE (runF defs k) μ.length (.idx (.var 5) (.var 4)) (sB N M s μ.length (some (I j)) y9 y10 y11 y12) (μ ++ [dkR (bfs N s j), bU (List.range (bfs N s j).length)]) = some (rU (row (tN N s) j), μ ++ [dkR (bfs N s j), bU (List.range (bfs N s j).length)]) := ev_idxT (ev_var rfl) (ev_var rfl) (net_at (by rw [tl]; exact hj))
      have i0 : evalE (runF defs k) μ.length (.idx (.var 0) (.idx (.var 7) (.var 4))) (sB N M s μ.length (some (I j)) y9 y10 y11 y12) (μ ++ [dkR (bfs N s j), bU (List.range (bfs N s j).length)]) = some (rU (row N o), μ ++ [dkR (bfs N s j), bU (List.range (bfs N s j).length)]) := ev_idxT (ev_var rfl) i7 (net_at ho)
      have c1 : evalE (runF defs k) μ.length (.cmp .ge (.var 4) (.bi .len [(.var 8)])) (sB N M s μ.length (some (I j)) y9 y10 y11 y12) (μ ++ [dkR (bfs N s j), bU (List.range (bfs N s j).length)]) = some (.bl false, μ ++ [dkR (bfs N s j), bU (List.range (bfs N s j).length)]) := by
        refine ev_cmp (u := I j) (v := I (bfs N s j).length) (ev_var rfl) (ev_bi (us := [.ob (μ.length + 1)]) (ev_l1 (ev_var rfl)) (by simp only [evBi, l8, List.length_map, List.length_range])) ?_
        simp only [evCmp, evLt, neg?]
        rw [decide_eq_true (by omega)]
        rfl
      have c2 : evalE (runF defs k) μ.length (.cmp .ne (.bi .len [(.idx (.var 5) (.var 4))]) (.bi .len [(.idx (.var 0) (.idx (.var 7) (.var 4)))])) (sB N M s μ.length (some (I j)) y9 y10 y11 y12) (μ ++ [dkR (bfs N s j), bU (List.range (bfs N s j).length)]) = some (.bl false, μ ++ [dkR (bfs N s j), bU (List.range (bfs N s j).length)]) := ev_cmp (u := I (row (tN N s) j).length) (v := I (row N o).length) (ev_bi (us := [rU (row (tN N s) j)]) (ev_l1 i5) (by simp [evBi, cont])) (ev_bi (us := [rU (row N o)]) (ev_l1 i0) (by simp [evBi, cont])) (ne_no (by rw [trow, List.length_map]))
      have tml : (tM N s M).length = N.length := by unfold tM; rw [List.length_map]; exact ol
      have c3 : evalE (runF defs k) μ.length (.cmp .ne (.idx (.var 6) (.var 4)) (.idx (.var 1) (.idx (.var 7) (.var 4)))) (sB N M s μ.length (some (I j)) y9 y10 y11 y12) (μ ++ [dkR (bfs N s j), bU (List.range (bfs N s j).length)]) = some (.bl false, μ ++ [dkR (bfs N s j), bU (List.range (bfs N s j).length)]) := ev_cmp (u := I (mk (tM N s M) j)) (v := I (mk M o)) (ev_idxT (ev_var rfl) (ev_var rfl) (mk_at (by omega))) (ev_idxT (ev_var rfl) i7 (mk_at (by omega))) (ne_no tmk)
      have six := K.six ho
      -- the doors of the house
      obtain ⟨σ2, ν2, e2, z9, z10, z11, z12, hσ2, hν2⟩ := forL_inv0 (step := fstep (runF defs k) μ.length (.tup [(.tup [(.slot 9), (.slot 10)]), (.tup [(.slot 11), (.slot 12)])]) lb__law_is_told_0) (xs := (row N o).map fun p => .tup [pU (pos (ordr N s) p.1, p.2), pU p])
        (fun i σ ν => ∃ z9 z10 z11 z12, σ = sB N M s μ.length (some (I j)) z9 z10 z11 z12 ∧ ν = μ ++ [dkR (look (bfs N s j) ((row N o).take i)), bU (List.range (look (bfs N s j) ((row N o).take i)).length)]) (σ := sB N M s μ.length (some (I j)) y9 y10 y11 y12) (μ := μ ++ [dkR (bfs N s j), bU (List.range (bfs N s j).length)]) ⟨y9, y10, y11, y12, rfl, by simp [look]⟩ (fun i x σ ν hx hp => by
          obtain ⟨z9, z10, z11, z12, rfl, rfl⟩ := hp
          obtain ⟨p, hp, hm, rfl⟩ := map_at hx
          have lt := look_take (L := bfs N s j) hp
          obtain ⟨t2, e2⟩ := look_part (N := N) (s := s) K hs (L := []) (r := row N o) (A := bfs N s j) (i + 1)
          have pre2 : ordr N s = insN (look (bfs N s j) ((row N o).take i)) p.1 ++ (t2 ++ t1) := by
            rw [← lt, ← List.append_assoc, ← e2, ← es, ← pre1]
          have ll : (look (bfs N s j) ((row N o).take i)).length ≤ 10 := by
            obtain ⟨t3, e3⟩ := insN_pre (look (bfs N s j) ((row N o).take i)) p.1
            have := congrArg List.length pre2
            rw [e3] at this
            simp at this
            omega
          have st := told_step (M := M) k μ K hs ll j p pre2
          refine ⟨_, _, .inl st, some (I (pos (ordr N s) p.1)), some (I p.2), some (I p.1), some (I p.2), rfl, ?_⟩
          rw [lt])
      rw [List.length_map, List.take_length, ← es] at hν2
      rw [hσ2, hν2] at e2
      refine ⟨sB N M s μ.length (some (I j)) z9 z10 z11 z12, μ ++ [dkR (bfs N s (j + 1)), bU (List.range (bfs N s (j + 1)).length)], .inl ?_, some (I j), z9, z10, z11, z12, rfl, rfl⟩
      show exL (runF defs k) μ.length lb__law_is_told_2 (sB N M s μ.length (some (I j)) y9 y10 y11 y12) _ = _
      unfold lb__law_is_told_2
      refine (ex_seq ((ex_ifF (ev_orF c1 (ev_orF c2 (ev_b1 c3))) rfl).trans ex_nil)).trans ?_
      refine (ex_seq ((show exS _ _ l__law_is_told_0 _ _ = _ from ex_for (us := [rU (row (tN N s) j), rU (row N o)]) (xs := (row N o).map fun p => .tup [pU (pos (ordr N s) p.1, p.2), pU p]) (ev_l2 i5 i0) ?_).trans e2)).trans ex_nil
      rw [trow]
      simp only [walk, zips]
      rw [List.map_map, show ((row N o).map (pU ∘ fun p => (pos (ordr N s) p.1, p.2))).zip ((row N o).map pU) = (row N o).map fun p => (pU (pos (ordr N s) p.1, p.2), pU p) from List.zip_map', List.map_map]
      rfl)
  rw [List.length_map, List.length_range] at hμ
  rw [hσ, hμ] at e
  have b : exL (runF defs k) μ.length b__law_is_told [some (netU N), some (lU M), some (I s), some (tdU N M s), none, none, none, none, none, none, none, none, none] μ = some (.rt (.bl true) (μ ++ [dkR (bfs N s N.length), bU (List.range (bfs N s N.length).length)])) := by
    unfold b__law_is_told
    refine (ex_seq (ex_asg (u := tdU N M s) (μ' := μ) (σ' := [some (netU N), some (lU M), some (I s), some (tdU N M s), none, some (netU (tN N s)), some (lU (tM N s M)), none, none, none, none, none, none]) (ev_var rfl) rfl)).trans ?_
    refine (ex_seq (ex_par (us := [.ob μ.length, .ob (μ.length + 1)]) (μ' := μ ++ [dkR [s], bU [0]]) (σ' := sB N M s μ.length none none none none none) (ev_l2 (μ1 := μ ++ [dkR [s]]) ?_ ?_) rfl)).trans ?_
    · simp only [evalE, evalL, ev_int]
      rfl
    · have := ev_lstA (cal := runF defs k) (n0 := μ.length) (σ := [some (netU N), some (lU M), some (I s), some (tdU N M s), none, some (netU (tN N s)), some (lU (tM N s M)), none, none, none, none, none, none]) (μ := μ ++ [dkR [s]]) (es := [.int 0]) (us := [.int 0]) (ev_l1 ev_int) (show 1 ≤ SZ by decide)
      refine this.trans ?_
      simp
    · refine (ex_seq ((show exS _ _ l__law_is_told_2 _ _ = _ from ex_for (us := [I N.length]) (xs := (List.range N.length).map I) (ev_l1 (ev_bi (us := [netU N]) (ev_l1 (ev_var rfl)) (by simp [evBi, cont]))) (walk_rng (by omega))).trans e)).trans ?_
      have ev : evalE (runF defs k) μ.length (.vals (.var 7)) (sB N M s μ.length y4 y9 y10 y11 y12) (μ ++ [dkR (bfs N s N.length), bU (List.range (bfs N s N.length).length)]) = some (.lst (((bfs N s N.length).map fun x : Nat => (x : Int)).map U.int), μ ++ [dkR (bfs N s N.length), bU (List.range (bfs N s N.length).length)]) := by
        refine ev_vals (u := .ob μ.length) (ev_var rfl) ?_
        have c : cont (μ ++ [dkR (bfs N s N.length), bU (List.range (bfs N s N.length).length)]) (.ob μ.length) = some (dkR (bfs N s N.length)) := w2a _ _ μ
        simp only [valU, c]
        rw [List.map_map]
        rfl
      have ll : ((bfs N s N.length).map fun x : Nat => (x : Int)).length = N.length := by rw [List.length_map]; exact K.all hs
      have ls := ev_lset ev (by omega)
      have ndI : ((bfs N s N.length).map fun x : Nat => (x : Int)).Nodup := by
        unfold List.Nodup
        rw [List.pairwise_map]
        exact (bfs_nd N s N.length).imp fun h => by omega
      rw [ssrt_nodup.mpr ndI, ll] at ls
      exact ex_ret (ev_cmp (u := I N.length) (v := I N.length) ls (ev_bi (us := [netU N]) (ev_l1 (ev_var rfl)) (by simp [evBi, cont])) (eq_yes rfl))
  exact (if_pos rfl).trans (run_rt b (fin_cut rfl (by simp)))
end
end K30

set_option Elab.async false
set_option linter.all false
set_option maxRecDepth 100000
set_option maxHeartbeats 4000000
namespace K30
open PySem L2 R
/-! ### nets of lines, plainly -/
def dg1 (x : Nat) (p : Nat × Nat) : Nat := (if p.1 = x then 1 else 0) + (if p.2 = x then 1 else 0)
def deg (ls : List (Nat × Nat)) (x : Nat) : Nat := (ls.map (dg1 x)).sum
theorem deg_snoc (ls : List (Nat × Nat)) (p : Nat × Nat) (x : Nat) : deg (ls ++ [p]) x = deg ls x + dg1 x p := by simp [deg]
theorem deg_perm {l l' : List (Nat × Nat)} (h : l.Perm l') (x : Nat) : deg l x = deg l' x := (h.map _).sum_nat
def jst (D : Net) (p : Nat × Nat) : Net :=
  if p.1 = p.2 then D.set p.1 (row D p.1 ++ [(p.1, (row D p.1).length + 1), (p.1, (row D p.1).length)])
  else (D.set p.1 (row D p.1 ++ [(p.2, (row D p.2).length)])).set p.2 (row D p.2 ++ [(p.1, (row D p.1).length)])
def joined (n : Nat) (ls : List (Nat × Nat)) : Net := ls.foldl jst (List.replicate n [])
theorem joined_snoc (n : Nat) (ls : List (Nat × Nat)) (p : Nat × Nat) : joined n (ls ++ [p]) = jst (joined n ls) p := by simp [joined]
theorem jst_len (D : Net) (p : Nat × Nat) : (jst D p).length = D.length := by
  unfold jst
  split <;> simp
theorem row_set {D : Net} {a : Nat} (ha : a < D.length) (r : List (Nat × Nat)) (h : Nat) : row (D.set a r) h = if h = a then r else row D h := by
  unfold row
  rw [List.getElem?_set]
  by_cases e : a = h
  · subst e
    rw [if_pos rfl, if_pos rfl, if_pos ha]
    rfl
  · rw [if_neg e, if_neg (fun z => e z.symm)]
theorem snoc_ind {α : Type} {P : List α → Prop} (h0 : P []) (h1 : ∀ l a, P l → P (l ++ [a])) (l : List α) : P l := by
  have : ∀ l : List α, P l.reverse := fun l => by
    induction l with
    | nil => exact h0
    | cons a l ih => rw [List.reverse_cons]; exact h1 _ _ ih
  have := this l.reverse
  rwa [List.reverse_reverse] at this
theorem joined_len (n : Nat) (ls : List (Nat × Nat)) : (joined n ls).length = n := by
  induction ls using snoc_ind with
  | h0 => simp [joined]
  | h1 ls p ih => rw [joined_snoc, jst_len, ih]
def Links (D : Net) : Prop := ∀ (h i : Nat) (p : Nat × Nat), (row D h)[i]? = some p → (row D p.1)[p.2]? = some (h, i)
section
variable {D : Net} {p : Nat × Nat} (h1 : p.1 < D.length) (h2 : p.2 < D.length)
include h1 h2
theorem jst_same (e : p.1 = p.2) (h : Nat) : row (jst D p) h = if h = p.1 then row D p.1 ++ [(p.1, (row D p.1).length + 1), (p.1, (row D p.1).length)] else row D h := by
  unfold jst
  rw [if_pos e, row_set h1]
theorem jst_two (e : p.1 ≠ p.2) (h : Nat) : row (jst D p) h = if h = p.2 then row D p.2 ++ [(p.1, (row D p.1).length)] else if h = p.1 then row D p.1 ++ [(p.2, (row D p.2).length)] else row D h := by
  unfold jst
  rw [if_neg e, row_set (by rw [List.length_set]; exact h2), row_set h1]
theorem jst_ext (h : Nat) : ∃ t, row (jst D p) h = row D h ++ t := by
  by_cases e : p.1 = p.2
  · rw [jst_same h1 h2 e]
    by_cases c : h = p.1
    · rw [if_pos c, c]; exact ⟨_, rfl⟩
    · rw [if_neg c]; exact ⟨[], by simp⟩
  · rw [jst_two h1 h2 e]
    by_cases c : h = p.2
    · rw [if_pos c, c]; exact ⟨_, rfl⟩
    · rw [if_neg c]
      by_cases c2 : h = p.1
      · rw [if_pos c2, c2]; exact ⟨_, rfl⟩
      · rw [if_neg c2]; exact ⟨[], by simp⟩
theorem jst_old {h i : Nat} {q : Nat × Nat} (e : (row D h)[i]? = some q) : (row (jst D p) h)[i]? = some q := by
  obtain ⟨t, et⟩ := jst_ext h1 h2 h
  rw [et, List.getElem?_append_left (List.getElem?_eq_some_iff.mp e).1, e]
theorem jst_links (L : Links D) : Links (jst D p) := by
  intro h i q hq
  by_cases hi : i < (row D h).length
  · obtain ⟨t, et⟩ := jst_ext h1 h2 h
    rw [et, List.getElem?_append_left hi] at hq
    exact jst_old h1 h2 (L h i q hq)
  · by_cases e : p.1 = p.2
    · rw [jst_same h1 h2 e] at hq
      by_cases c : h = p.1
      · rw [if_pos c] at hq
        rw [c] at hi ⊢
        rw [List.getElem?_append_right (by omega)] at hq
        obtain ⟨d, hd⟩ : ∃ d, i - (row D p.1).length = d := ⟨_, rfl⟩
        rw [hd] at hq
        match d, hq with
        | 0, hq =>
          simp at hq
          subst hq
          have ei : i = (row D p.1).length := by omega
          simp only
          rw [jst_same h1 h2 e, if_pos rfl, List.getElem?_append_right (by omega), ei, show (row D p.1).length + 1 - (row D p.1).length = 1 by omega]
          rfl
        | 1, hq =>
          simp at hq
          subst hq
          have ei : i = (row D p.1).length + 1 := by omega
          simp only
          rw [jst_same h1 h2 e, if_pos rfl, List.getElem?_append_right (by omega), ei, Nat.sub_self]
          rfl
        | d + 2, hq => simp at hq
      · rw [if_neg c, List.getElem?_eq_none_iff.mpr (by omega)] at hq
        cases hq
    · rw [jst_two h1 h2 e] at hq
      by_cases c : h = p.2
      · rw [if_pos c] at hq
        rw [c] at hi ⊢
        rw [List.getElem?_append_right (by omega)] at hq
        obtain ⟨d, hd⟩ : ∃ d, i - (row D p.2).length = d := ⟨_, rfl⟩
        rw [hd] at hq
        match d, hq with
        | 0, hq =>
          simp at hq
          subst hq
          have ei : i = (row D p.2).length := by omega
          simp only
          rw [jst_two h1 h2 e, if_neg e, if_pos rfl, List.getElem?_append_right (by omega), ei, Nat.sub_self]
          rfl
        | d + 1, hq => simp at hq
      · rw [if_neg c] at hq
        by_cases c2 : h = p.1
        · rw [if_pos c2] at hq
          rw [c2] at hi ⊢
          rw [List.getElem?_append_right (by omega)] at hq
          obtain ⟨d, hd⟩ : ∃ d, i - (row D p.1).length = d := ⟨_, rfl⟩
          rw [hd] at hq
          match d, hq with
          | 0, hq =>
            simp at hq
            subst hq
            have ei : i = (row D p.1).length := by omega
            simp only
            rw [jst_two h1 h2 e, if_pos rfl, List.getElem?_append_right (by omega), ei, Nat.sub_self]
            rfl
          | d + 1, hq => simp at hq
        · rw [if_neg c2, List.getElem?_eq_none_iff.mpr (by omega)] at hq
          cases hq
theorem jst_deg (h : Nat) : (row (jst D p) h).length = (row D h).length + dg1 h p := by
  unfold dg1
  by_cases e : p.1 = p.2
  · rw [jst_same h1 h2 e]
    by_cases c : h = p.1
    · rw [if_pos c, c, if_pos rfl, if_pos e.symm]; simp
    · rw [if_neg c, if_neg (fun z => c z.symm), if_neg (fun z => c (by omega))]; rfl
  · rw [jst_two h1 h2 e]
    by_cases c : h = p.2
    · rw [if_pos c, c, if_neg e, if_pos rfl]; simp
    · rw [if_neg c]
      by_cases c2 : h = p.1
      · rw [if_pos c2, c2, if_pos rfl, if_neg (fun z => e z.symm)]; simp
      · rw [if_neg c2, if_neg (fun z => c2 z.symm), if_neg (fun z => c z.symm)]; rfl
theorem jst_edge : (∃ q ∈ row (jst D p) p.1, q.1 = p.2) ∧ ∃ q ∈ row (jst D p) p.2, q.1 = p.1 := by
  by_cases e : p.1 = p.2
  · rw [jst_same h1 h2 e, jst_same h1 h2 e, if_pos rfl, if_pos e.symm]
    exact ⟨⟨(p.1, (row D p.1).length), by simp, e⟩, ⟨(p.1, (row D p.1).length), by simp, rfl⟩⟩
  · rw [jst_two h1 h2 e, jst_two h1 h2 e, if_neg e, if_pos rfl, if_pos rfl]
    exact ⟨⟨(p.2, (row D p.2).length), by simp, rfl⟩, ⟨(p.1, (row D p.1).length), by simp, rfl⟩⟩
end
theorem joined_ok {n : Nat} (ls : List (Nat × Nat)) (hl : ∀ p ∈ ls, p.1 < n ∧ p.2 < n) : Links (joined n ls) ∧ (∀ x, x < n → (row (joined n ls) x).length = deg ls x) ∧ ∀ p ∈ ls, (∃ q ∈ row (joined n ls) p.1, q.1 = p.2) ∧ ∃ q ∈ row (joined n ls) p.2, q.1 = p.1 := by
  induction ls using snoc_ind with
  | h0 =>
    have r : ∀ h, row (joined n []) h = [] := fun h => by
      unfold row joined
      simp only [List.foldl_nil, List.getElem?_replicate]
      split <;> rfl
    refine ⟨fun h i p e => ?_, fun x _ => ?_, fun p hp => by simp at hp⟩
    · rw [r] at e; simp at e
    · rw [r]; rfl
  | h1 ls p ih =>
    obtain ⟨i1, i2, i3⟩ := ih fun q hq => hl q (by simp [hq])
    obtain ⟨p1, p2⟩ := hl p (by simp)
    have jl := joined_len n ls
    have p1' : p.1 < (joined n ls).length := by omega
    have p2' : p.2 < (joined n ls).length := by omega
    rw [joined_snoc]
    refine ⟨jst_links p1' p2' i1, fun x hx => by rw [jst_deg p1' p2', i2 x hx, deg_snoc], fun q hq => ?_⟩
    rcases List.mem_append.mp hq with z | z
    · obtain ⟨⟨a, a1, a2⟩, ⟨b, b1, b2⟩⟩ := i3 q z
      obtain ⟨t, et⟩ := jst_ext p1' p2' q.1
      obtain ⟨u, eu⟩ := jst_ext p1' p2' q.2
      exact ⟨⟨a, by rw [et]; exact List.mem_append_left _ a1, a2⟩, ⟨b, by rw [eu]; exact List.mem_append_left _ b1, b2⟩⟩
    · rw [List.mem_singleton] at z
      subst z
      exact jst_edge p1' p2'
/-- lines that hold a tree and are not too many at a house -/
structure LinesOk (n : Nat) (ls : List (Nat × Nat)) : Prop where
  n1 : 1 ≤ n
  n10 : n ≤ 10
  lt : ∀ p ∈ ls, p.1 < n ∧ p.2 < n
  d6 : ∀ x, x < n → deg ls x ≤ 6
  tree : ∀ h, 1 ≤ h → h < n → ∃ p ∈ ls, p.2 = h ∧ p.1 < h
theorem joined_net {n : Nat} {ls : List (Nat × Nat)} (O : LinesOk n ls) : NetOk (joined n ls) := by
  obtain ⟨i1, i2, i3⟩ := joined_ok ls O.lt
  have jl := joined_len n ls
  have L : Lnk (joined n ls) := ⟨by rw [jl]; exact O.n1, by rw [jl]; exact O.n10, fun r hr => by
    obtain ⟨h, hh⟩ := List.mem_iff_getElem?.mp hr
    have e : row (joined n ls) h = r := by unfold row; rw [hh]; rfl
    have hl := (List.getElem?_eq_some_iff.mp hh).1
    rw [← e, i2 h (by omega)]
    exact O.d6 h (by omega), i1⟩
  refine ⟨L, ?_⟩
  have n0 : 0 < (joined n ls).length := by rw [jl]; exact O.n1
  have c := L.closed n0
  have every : ∀ h, h < n → h ∈ bfs (joined n ls) 0 (joined n ls).length := by
    intro h
    induction h using Nat.strongRecOn with
    | _ h ih =>
      intro hh
      by_cases h0 : h = 0
      · subst h0
        obtain ⟨t, e⟩ := bfs_pre (joined n ls) 0 0 (joined n ls).length
        rw [Nat.zero_add] at e
        rw [e]
        simp [bfs]
      · obtain ⟨p, hp, e2, lt⟩ := O.tree h (by omega) hh
        obtain ⟨⟨q, hq, eq⟩, _⟩ := i3 p hp
        have := c p.1 (ih p.1 lt (by omega)) q hq
        rw [eq, e2] at this
        exact this
  have h1 := L.bfs_len n0 (joined n ls).length
  have h2 := sub_len (l := List.range n) List.nodup_range fun x hx => every x (by simpa using hx)
  rw [List.length_range] at h2
  omega
end K30

set_option Elab.async false
set_option linter.all false
set_option maxRecDepth 100000
set_option maxHeartbeats 4000000
namespace K30
open PySem L2 R
abbrev bL (r : List (Nat × Nat)) : U := .lst (r.map pU)
abbrev dL (D : Net) : U := .lst (D.map bL)
/-! ### nets of lines, evaluated -/
theorem dL_at {D : Net} {h : Nat} (hh : h < D.length) : atI (D.map bL) (h : Int) = some (bL (row D h)) := atI_of (by rw [List.getElem?_map, row_get hh]; rfl)
theorem dL_set (D : Net) (h : Nat) (r : List (Nat × Nat)) : (D.map bL).set h (bL r) = (D.set h r).map bL := by simp [List.map_set]
theorem bL_app (r t : List (Nat × Nat)) : U.lst (r.map pU ++ t.map pU) = bL (r ++ t) := by simp
section
variable (k : Nat) (μ : Mu)
theorem joined_ev {n : Nat} {ls : List (Nat × Nat)} (O : LinesOk n ls) (hls : ls.length ≤ 100) : runF defs (k + 1) 26 [bL ls, I n] μ = some (netU (joined n ls), μ) := by
  rw [run__law_joined]
  have n10 := O.n10
  have K := joined_net O
  obtain ⟨σ', μ', e, y3, y4, y6, y7, hσ, hμ⟩ := forL_inv0 (step := fstep (runF defs k) μ.length (.tup [(.slot 3), (.slot 4)]) lb__law_joined_1) (xs := ls.map pU)
    (fun i σ ν => ∃ y3 y4 y6 y7, σ = [some (bL ls), some (I n), some (.ob μ.length), y3, y4, none, y6, y7, none] ∧ ν = μ ++ [dL (joined n (ls.take i))]) (σ := [some (bL ls), some (I n), some (.ob μ.length), none, none, none, none, none, none]) (μ := μ ++ [dL (joined n [])]) ⟨none, none, none, none, rfl, rfl⟩ (fun i x σ ν hx hp => by
      obtain ⟨y3, y4, y6, y7, rfl, rfl⟩ := hp
      obtain ⟨p, hp, hm, rfl⟩ := map_at hx
      obtain ⟨p1, p2⟩ := O.lt p hm
      have jn : joined n (ls.take (i + 1)) = jst (joined n (ls.take i)) p := by
        rw [List.take_add_one, hp]
        exact joined_snoc n _ p
      have jl := joined_len n (ls.take i)
      have dg : ∀ x, x < n → (row (joined n (ls.take i)) x).length ≤ 1000 := fun x hx => by
        rw [(joined_ok (ls.take i) fun q hq => O.lt q (List.mem_of_mem_take hq)).2.1 x hx]
        have aux : ∀ l : List (Nat × Nat), deg l x ≤ 2 * l.length := by
          intro l
          induction l with
          | nil => simp [deg]
          | cons a l ih =>
            have : dg1 x a ≤ 2 := by unfold dg1; split <;> split <;> omega
            have e : deg (a :: l) x = dg1 x a + deg l x := by simp [deg]
            rw [e, List.length_cons]
            omega
        have := aux (ls.take i)
        rw [List.length_take] at this
        omega
      have d1 := dg p.1 p1
      have d2 := dg p.2 p2
      rw [jn]
      generalize joined n (ls.take i) = D at jl d1 d2
      have m : (μ ++ [dL D])[μ.length]? = some (dL D) := by simp
      have cc : cont (μ ++ [dL D]) (.ob μ.length) = some (dL D) := m
      have i3 : ∀ {y6 y7 : Option U}, evalE (runF defs k) μ.length (.idx (.var 2) (.var 3)) [some (bL ls), some (I n), some (.ob μ.length), some (I p.1), some (I p.2), none, y6, y7, none] (μ ++ [dL D]) = some (bL (row D p.1), μ ++ [dL D]) := ev_idxL1 (ev_var rfl) (ev_var rfl) cc (dL_at (by omega))
      have i4 : ∀ {y6 y7 : Option U}, evalE (runF defs k) μ.length (.idx (.var 2) (.var 4)) [some (bL ls), some (I n), some (.ob μ.length), some (I p.1), some (I p.2), none, y6, y7, none] (μ ++ [dL D]) = some (bL (row D p.2), μ ++ [dL D]) := ev_idxL1 (ev_var rfl) (ev_var rfl) cc (dL_at (by omega))
      have l3 : ∀ {y6 y7 : Option U}, evalE (runF defs k) μ.length (.bi .len [(.idx (.var 2) (.var 3))]) [some (bL ls), some (I n), some (.ob μ.length), some (I p.1), some (I p.2), none, y6, y7, none] (μ ++ [dL D]) = some (I (row D p.1).length, μ ++ [dL D]) := ev_bi (us := [bL (row D p.1)]) (ev_l1 i3) (by simp [evBi, cont])
      have l4 : ∀ {y6 y7 : Option U}, evalE (runF defs k) μ.length (.bi .len [(.idx (.var 2) (.var 4))]) [some (bL ls), some (I n), some (.ob μ.length), some (I p.1), some (I p.2), none, y6, y7, none] (μ ++ [dL D]) = some (I (row D p.2).length, μ ++ [dL D]) := ev_bi (us := [bL (row D p.2)]) (ev_l1 i4) (by simp [evBi, cont])
      have c : evalE (runF defs k) μ.length (.cmp .eq (.var 3) (.var 4)) [some (bL ls), some (I n), some (.ob μ.length), some (I p.1), some (I p.2), none, y6, y7, none] (μ ++ [dL D]) = some (.bl (decide (p.1 = p.2)), μ ++ [dL D]) := ev_cmp (ev_var rfl) (ev_var rfl) eq_I
      by_cases e : p.1 = p.2
      · rw [decide_eq_true e] at c
        refine ⟨[some (bL ls), some (I n), some (.ob μ.length), some (I p.1), some (I p.2), none, y6, y7, none], μ ++ [dL (jst D p)], .inl ?_, _, _, _, _, rfl, rfl⟩
        show exL (runF defs k) μ.length lb__law_joined_1 [some (bL ls), some (I n), some (.ob μ.length), some (I p.1), some (I p.2), none, y6, y7, none] (μ ++ [dL D]) = _
        unfold lb__law_joined_1
        have nw : evalE (runF defs k) μ.length (.bin false .add (.idx (.var 2) (.var 3)) (.lst false [(.tup [(.var 3), (.bin false .add (.bi .len [(.idx (.var 2) (.var 3))]) (.int 1))]), (.tup [(.var 3), (.bi .len [(.idx (.var 2) (.var 3))])])])) [some (bL ls), some (I n), some (.ob μ.length), some (I p.1), some (I p.2), none, y6, y7, none] (μ ++ [dL D]) = some (bL (row D p.1 ++ [(p.1, (row D p.1).length + 1), (p.1, (row D p.1).length)]), μ ++ [dL D]) := by
          rw [← bL_app]
          exact ev_addL i3 (ev_lst (us := [pU (p.1, (row D p.1).length + 1), pU (p.1, (row D p.1).length)]) (ev_l2 (ev_tup (ev_l2 (ev_var rfl) (ev_bm (u := I (row D p.1).length) (v := .int 1) l3 ev_int rfl)) (show 2 ≤ SZ by decide)) (ev_tup (ev_l2 (ev_var rfl) l3) (show 2 ≤ SZ by decide))) (show 2 ≤ SZ by decide)) (by simp; unfold SZ; omega)
        refine (ex_seq ((ex_ifT c rfl).trans ((ex_seq (ex_subL (i := μ.length) (q := p.1) nw (ev_var rfl) (ev_var rfl) m (ixN_nat (by rw [List.length_map]; omega)) (by simp [okw]))).trans ex_nil))).trans ?_
        rw [ex_nil, set_last, dL_set]
        unfold jst
        rw [if_pos e]
      · rw [decide_eq_false e] at c
        refine ⟨[some (bL ls), some (I n), some (.ob μ.length), some (I p.1), some (I p.2), none, some (pU (p.2, (row D p.2).length)), some (pU (p.1, (row D p.1).length)), none], μ ++ [dL (jst D p)], .inl ?_, _, _, _, _, rfl, rfl⟩
        show exL (runF defs k) μ.length lb__law_joined_1 [some (bL ls), some (I n), some (.ob μ.length), some (I p.1), some (I p.2), none, y6, y7, none] (μ ++ [dL D]) = _
        unfold lb__law_joined_1
        have s1 : exS (runF defs k) μ.length (.par [6, 7] [(.tup [(.var 4), (.bi .len [(.idx (.var 2) (.var 4))])]), (.tup [(.var 3), (.bi .len [(.idx (.var 2) (.var 3))])])]) [some (bL ls), some (I n), some (.ob μ.length), some (I p.1), some (I p.2), none, y6, y7, none] (μ ++ [dL D]) = some (.nx [some (bL ls), some (I n), some (.ob μ.length), some (I p.1), some (I p.2), none, some (pU (p.2, (row D p.2).length)), some (pU (p.1, (row D p.1).length)), none] (μ ++ [dL D])) :=
          ex_par (us := [pU (p.2, (row D p.2).length), pU (p.1, (row D p.1).length)]) (ev_l2 (ev_tup (ev_l2 (ev_var rfl) l4) (show 2 ≤ SZ by decide)) (ev_tup (ev_l2 (ev_var rfl) l3) (show 2 ≤ SZ by decide))) rfl
        have n1 : evalE (runF defs k) μ.length (.bin false .add (.idx (.var 2) (.var 3)) (.lst false [(.var 6)])) [some (bL ls), some (I n), some (.ob μ.length), some (I p.1), some (I p.2), none, some (pU (p.2, (row D p.2).length)), some (pU (p.1, (row D p.1).length)), none] (μ ++ [dL D]) = some (bL (row D p.1 ++ [(p.2, (row D p.2).length)]), μ ++ [dL D]) := by
          rw [← bL_app]
          exact ev_addL i3 (ev_lst (us := [pU (p.2, (row D p.2).length)]) (ev_l1 (ev_var rfl)) (show 1 ≤ SZ by decide)) (by simp; unfold SZ; omega)
        have s2 := ex_subL (cal := runF defs k) (n0 := μ.length) (i := μ.length) (q := p.1) (a := .var 2) (j := .var 3) n1 (ev_var rfl) (ev_var rfl) m (ixN_nat (by rw [List.length_map]; omega)) (by simp [okw])
        rw [set_last, dL_set] at s2
        have m2 : (μ ++ [dL (D.set p.1 (row D p.1 ++ [(p.2, (row D p.2).length)]))])[μ.length]? = some (dL (D.set p.1 (row D p.1 ++ [(p.2, (row D p.2).length)]))) := by simp
        have c2 : cont (μ ++ [dL (D.set p.1 (row D p.1 ++ [(p.2, (row D p.2).length)]))]) (.ob μ.length) = some (dL (D.set p.1 (row D p.1 ++ [(p.2, (row D p.2).length)]))) := m2
        have r2 : row (D.set p.1 (row D p.1 ++ [(p.2, (row D p.2).length)])) p.2 = row D p.2 := by rw [row_set (by omega), if_neg (fun z => e z.symm)]
        have n2 : evalE (runF defs k) μ.length (.bin false .add (.idx (.var 2) (.var 4)) (.lst false [(.var 7)])) [some (bL ls), some (I n), some (.ob μ.length), some (I p.1), some (I p.2), none, some (pU (p.2, (row D p.2).length)), some (pU (p.1, (row D p.1).length)), none] (μ ++ [dL (D.set p.1 (row D p.1 ++ [(p.2, (row D p.2).length)]))]) = some (bL (row D p.2 ++ [(p.1, (row D p.1).length)]), μ ++ [dL (D.set p.1 (row D p.1 ++ [(p.2, (row D p.2).length)]))]) := by
          rw [← bL_app]
          refine ev_addL (ev_idxL1 (ev_var rfl) (ev_var rfl) c2 ?_) (ev_lst (us := [pU (p.1, (row D p.1).length)]) (ev_l1 (ev_var rfl)) (show 1 ≤ SZ by decide)) (by simp; unfold SZ; omega)
          rw [dL_at (by rw [List.length_set]; omega), r2]
        have s3 := ex_subL (cal := runF defs k) (n0 := μ.length) (i := μ.length) (q := p.2) (a := .var 2) (j := .var 4) n2 (ev_var rfl) (ev_var rfl) m2 (ixN_nat (by rw [List.length_map, List.length_set]; omega)) (by simp [okw])
        rw [set_last, dL_set] at s3
        refine (ex_seq ((ex_ifF c rfl).trans ((ex_seq s1).trans ((ex_seq s2).trans ((ex_seq s3).trans ex_nil))))).trans ?_
        rw [ex_nil]
        unfold jst
        rw [if_neg e])
  rw [List.length_map, List.take_length] at hμ
  rw [hσ, hμ] at e
  have jl := joined_len n ls
  have c0 : evalE (runF defs k) μ.length c__law_joined_0 [some (bL ls), some (I n), none, none, none, none, none, none, none] μ = some (.ob μ.length, μ ++ [dL (joined n [])]) := by
    refine (ev_comp (us := [I n]) (μ1 := μ) (xs := (List.range n).map I) (ev_l1 (ev_var rfl)) (walk_rng (by omega)) (compL_all (enc := I) (g := fun _ => U.lst []) (xs := List.range n) (fun h hh => cs_yes rfl (ev_lst ev_lnil (show 0 ≤ SZ by decide))) (by simp; unfold SZ; omega))).trans ?_
    simp only [R.fresh, List.nil_append]
    have : (List.range n).map (fun _ => U.lst []) = (joined n []).map bL := by
      simp only [joined, List.foldl_nil, List.map_replicate]
      exact List.eq_replicate_iff.mpr ⟨by simp, fun b hb => by obtain ⟨_, _, rfl⟩ := List.mem_map.mp hb; rfl⟩
    rw [this]
    rfl
  have m : (μ ++ [dL (joined n ls)])[μ.length]? = some (dL (joined n ls)) := by simp
  have c3 : evalE (runF defs k) μ.length c__law_joined_3 [some (bL ls), some (I n), some (.ob μ.length), y3, y4, none, y6, y7, none] (μ ++ [dL (joined n ls)]) = some (.lst ((joined n ls).map rU), μ ++ [dL (joined n ls)]) := by
    have cv := compV_all (step := cstep (runF defs k) μ.length (.slot 8) (.bl true) (.col false .tuple .ex [(.var 8)]) [8] [some (bL ls), some (I n), some (.ob μ.length), y3, y4, none, y6, y7, none]) (enc := bL) (g := rU) (μ := μ ++ [dL (joined n ls)]) (i := μ.length) (xs := joined n ls) m (fun r hr => cs_yes rfl (ev_col (us := [bL r]) (xs := r.map pU) (ev_l1 (ev_var rfl)) rfl rfl)) (by unfold SZ; omega) (f := FU) (k := 0) (acc := []) (Nat.zero_le _) (by unfold FU; omega) (Nat.le_refl _)
    rw [List.drop_zero, List.nil_append] at cv
    exact (ev_compV (us := [.ob μ.length]) (ev_l1 (ev_var rfl)) (by simp only [walk, m]) cv).trans rfl
  have b : exL (runF defs k) μ.length b__law_joined [some (bL ls), some (I n), none, none, none, none, none, none, none] μ = some (.rt (netU (joined n ls)) (μ ++ [dL (joined n ls)])) := by
    unfold b__law_joined
    refine (ex_seq (ex_set c0)).trans ?_
    refine (ex_seq ((show exS _ _ l__law_joined_1 _ _ = _ from ex_for (us := [bL ls]) (ev_l1 (ev_var rfl)) rfl).trans e)).trans ?_
    exact ex_ret (ev_col (us := [.lst ((joined n ls).map rU)]) (ev_l1 c3) rfl rfl)
  exact (if_pos rfl).trans (run_rt b (fin_cut (frz_pl (pl_netU (B := 10) (d := 0) K.toLnk (by decide)) _ _ (by decide)) (by simp)))
end
end K30

set_option Elab.async false
set_option linter.all false
set_option maxRecDepth 100000
set_option maxHeartbeats 4000000
namespace K30
open PySem L2 R
/-! ### lines by lot -/
abbrev eL (n : Nat) (f : Nat → Nat) : U := .lst ((List.range n).map fun x => I (f x))
def inc (f : Nat → Nat) (a : Nat) : Nat → Nat := fun x => f x + if a = x then 1 else 0
theorem eL_at {n : Nat} {f : Nat → Nat} {x : Nat} (h : x < n) : atI ((List.range n).map fun x => I (f x)) (x : Int) = some (I (f x)) := atI_of (by rw [List.getElem?_map, List.getElem?_range h]; rfl)
theorem eL_set (n : Nat) (f : Nat → Nat) (a v : Nat) (hv : v = f a + 1) : ((List.range n).map fun x => I (f x)).set a (I v) = (List.range n).map fun x => I (inc f a x) := by
  apply List.ext_getElem?
  intro i
  rw [List.getElem?_set, List.getElem?_map, List.getElem?_map]
  by_cases e : a = i
  · subst e
    rw [if_pos rfl]
    by_cases hi : a < n
    · rw [if_pos (by simpa using hi), List.getElem?_range hi, hv]
      simp [inc]
    · rw [if_neg (by simpa using hi), List.getElem?_eq_none_iff.mpr (by simp; omega)]
      rfl
  · rw [if_neg e]
    by_cases hi : i < n
    · rw [List.getElem?_range hi]
      simp [inc, e]
    · rw [List.getElem?_eq_none_iff.mpr (by simp; omega)]
      rfl
section
variable (c : U) (ρ : Mu) (A B P A' B' P' : U)
theorem u2a : (c :: (ρ ++ [A, B]))[ρ.length + 1]? = some A := by simp
theorem u2b : (c :: (ρ ++ [A, B]))[ρ.length + 2]? = some B := by simp
theorem u2s : (c :: (ρ ++ [A, B])).set (ρ.length + 1) A' = c :: (ρ ++ [A', B]) := by simp
theorem u2t : (c :: (ρ ++ [A, B])).set (ρ.length + 2) B' = c :: (ρ ++ [A, B']) := by simp
theorem u3a : (c :: (ρ ++ [A, B, P]))[ρ.length + 1]? = some A := by simp
theorem u3c : (c :: (ρ ++ [A, B, P]))[ρ.length + 3]? = some P := by simp
theorem u3s : (c :: (ρ ++ [A, B, P])).set (ρ.length + 1) A' = c :: (ρ ++ [A', B, P]) := by simp
theorem u3u : (c :: (ρ ++ [A, B, P])).set (ρ.length + 3) P' = c :: (ρ ++ [A, B, P']) := by simp
end
theorem min2_I (μ : Mu) (a b : Nat) : evBi μ .min2 [I a, I b] = some (I (min a b)) := by
  simp only [evBi]
  congr 2
  split <;> omega
theorem max2_I (μ : Mu) (a b : Nat) : evBi μ .max2 [I a, I b] = some (I (max a b)) := by
  simp only [evBi]
  congr 2
  split <;> omega
theorem ev_pop1 {cal : Nat → List U → Mu → Option (U × Mu)} {n0 : Nat} {σ : R.Env} {μ μ1 : Mu} {al : Bool} {a e : E} {i j : Nat} {u : U} {xs : List U} (ha : evalE cal n0 a σ μ = some (.ob i, μ)) (hs : (asL μ (.ob i)).isSome = true) (he : evalE cal n0 e σ μ = some (I j, μ1)) (h : μ1[i]? = some (.lst xs)) (hj : j < xs.length) (hj2 : j < 1000) (hx : xs[j]? = some u) :
    evalE cal n0 (.me al .pop1 a [e]) σ μ = some (u, μ1.set i (.lst (xs.eraseIdx j))) := by
  simp only [evalE, evalL, ha, he, okm, hs, evMe, h]
  rw [if_pos (by omega)]
  simp only [L2.ixN]
  rw [if_pos (by omega), if_pos (by omega)]
  simp only [Int.toNat_natCast, hx]
theorem erase_map {α β : Type} (f : α → β) : ∀ (l : List α) (r : Nat), (l.map f).eraseIdx r = (l.eraseIdx r).map f
  | [], _ => rfl
  | _ :: _, 0 => rfl
  | a :: l, r + 1 => by simp [erase_map f l r]
abbrev sX (n more : Nat) (r : Nat) (y3 y4 y5 y8 y9 y10 y11 : Option U) : R.Env := [some (.ob 0), some (I n), some (I more), y3, y4, y5, some (.ob (r + 1)), some (.ob (r + 2)), y8, y9, y10, y11]
structure Tr (n h : Nat) (ls : List (Nat × Nat)) : Prop where
  lt : ∀ p ∈ ls, p.1 < p.2 ∧ p.2 < h
  d4 : ∀ x, deg ls x ≤ 4
  d0 : ∀ x, h ≤ x → deg ls x = 0
  d1 : deg ls (h - 1) ≤ 1
  tree : ∀ x, 1 ≤ x → x < h → ∃ p ∈ ls, p.2 = x ∧ p.1 < x
  len : ls.length + 1 = h
theorem Tr.next {n h o : Nat} {ls : List (Nat × Nat)} (T : Tr n h ls) (ho : o < h) (h4 : deg ls o < 4) : Tr n (h + 1) (ls ++ [(o, h)]) := by
  have z := T.d0 h (Nat.le_refl _)
  refine ⟨fun p hp => ?_, fun x => ?_, fun x hx => ?_, ?_, fun x h1 hx => ?_, by simp [T.len]⟩
  · rcases List.mem_append.mp hp with q | q
    · have := T.lt p q; omega
    · rw [List.mem_singleton] at q; subst q; simp only; omega
  · rw [deg_snoc]
    unfold dg1
    have := T.d4 x
    by_cases c1 : o = x
    · subst c1
      rw [if_pos rfl, if_neg (by simp only; omega)]
      omega
    · rw [if_neg c1]
      by_cases c2 : h = x
      · subst c2
        rw [if_pos rfl]
        omega
      · rw [if_neg c2]
        omega
  · rw [deg_snoc, T.d0 x (by omega)]
    unfold dg1
    rw [if_neg (by simp only; omega), if_neg (by simp only; omega)]
  · rw [Nat.add_sub_cancel, deg_snoc, z]
    unfold dg1
    rw [if_neg (by simp only; omega), if_pos rfl]
    omega
  · by_cases hh : x < h
    · obtain ⟨p, hp, e⟩ := T.tree x h1 hh
      exact ⟨p, List.mem_append_left _ hp, e⟩
    · exact ⟨(o, h), by simp, by simp only; omega, by simp only; omega⟩
theorem deg_inc2 {n : Nat} (ls : List (Nat × Nat)) (a b : Nat) : (fun x => inc (inc (deg ls) a) b x) = deg (ls ++ [(a, b)]) := by
  funext x
  rw [deg_snoc]
  exact Nat.add_assoc _ _ _
theorem bL_one (r : List (Nat × Nat)) (p : Nat × Nat) : U.lst (r.map pU ++ [pU p]) = bL (r ++ [p]) := by simp
theorem lines1 (k : Nat) (ρ : Mu) {c : U} (C : Cup c) {n more : Nat} (hn : n ≤ 7) (hn1 : 1 ≤ n) :
    ∃ c' ls y3 y8 y9, forL (fstep (runF defs (k + 2)) (ρ.length + 1) (.slot 3) lb__law_lines_1) ((List.range (n - 1)).map fun i => I (1 + i)) (sX n more ρ.length none none none none none none none) (c :: (ρ ++ [bL [], eL n (deg [])])) =
      some (.nx (sX n more ρ.length y3 none none y8 y9 none none) (c' :: (ρ ++ [bL ls, eL n (deg ls)]))) ∧ Cup c' ∧ Tr n n ls := by
  obtain ⟨σ', μ', e, y3, y8, y9, c', ls, hσ, hμ, C', T⟩ := forL_inv0 (step := fstep (runF defs (k + 2)) (ρ.length + 1) (.slot 3) lb__law_lines_1) (xs := (List.range (n - 1)).map fun i => I (1 + i))
    (fun i σ μ' => ∃ y3 y8 y9 c ls, σ = sX n more ρ.length y3 none none y8 y9 none none ∧ μ' = c :: (ρ ++ [bL ls, eL n (deg ls)]) ∧ Cup c ∧ Tr n (1 + i) ls)
    (σ := sX n more ρ.length none none none none none none none) (μ := c :: (ρ ++ [bL [], eL n (deg [])]))
    ⟨none, none, none, c, [], rfl, rfl, C, ⟨by simp, fun x => by simp [deg], fun x _ => by simp [deg], by simp [deg], fun x h1 h2 => by omega, rfl⟩⟩ (fun i x σ μ' hx hp => by
      obtain ⟨y3, y8, y9, c, ls, rfl, rfl, C, T⟩ := hp
      obtain ⟨i', h3, _, rfl⟩ := map_at hx
      obtain ⟨h4, h5⟩ := List.getElem?_eq_some_iff.mp h3
      simp only [List.length_range, List.getElem_range] at h4 h5
      subst h5
      have ma := u2a c ρ (bL ls) (eL n (deg ls))
      have mb := u2b c ρ (bL ls) (eL n (deg ls))
      have tl := T.len
      have c0 : evalE (runF defs (k + 2)) (ρ.length + 1) c__law_lines_0 (sX n more ρ.length (some (I (1 + i))) none none y8 y9 none none) (c :: (ρ ++ [bL ls, eL n (deg ls)])) = some (.lst (((List.range (1 + i)).filter fun x => decide (deg ls x < 4)).map I), c :: (ρ ++ [bL ls, eL n (deg ls)])) := by
        have cf := compL_filter (step := cstep (runF defs (k + 2)) (ρ.length + 1) (.slot 9) (.cmp .lt (.idx (.var 7) (.var 9)) (.int 4)) (.var 9) [9] (sX n more ρ.length (some (I (1 + i))) none none y8 y9 none none)) (enc := I) (g := I) (p := fun x => decide (deg ls x < 4)) (μ := c :: (ρ ++ [bL ls, eL n (deg ls)])) (xs := List.range (1 + i)) (acc := []) (fun x hx => ?_) (by simp; unfold SZ; omega)
        · exact (ev_comp (us := [I (1 + i)]) (xs := (List.range (1 + i)).map I) (ev_l1 (ev_var rfl)) (walk_rng (by omega)) cf).trans rfl
        · have hx : x < 1 + i := by simpa using hx
          have e1 : evalE (runF defs (k + 2)) (ρ.length + 1) (.cmp .lt (.idx (.var 7) (.var 9)) (.int 4)) (sX n more ρ.length (some (I (1 + i))) none none y8 (some (I x)) none none) (c :: (ρ ++ [bL ls, eL n (deg ls)])) = some (.bl (decide (deg ls x < 4)), c :: (ρ ++ [bL ls, eL n (deg ls)])) := ev_cmp (u := I (deg ls x)) (v := I 4) (ev_idxL1 (ev_var rfl) (ev_var rfl) mb (eL_at (by omega))) ev_int lt_I
          cases hh : decide (deg ls x < 4) with
          | true => rw [hh] at e1; exact cs_if rfl e1 rfl (ev_var rfl)
          | false => rw [hh] at e1; exact cs_no rfl e1 rfl
      have im : i ∈ (List.range (1 + i)).filter fun x => decide (deg ls x < 4) := by
        rw [List.mem_filter]
        refine ⟨by simp, ?_⟩
        have := T.d1
        rw [show 1 + i - 1 = i by omega] at this
        simp
        omega
      have fl := List.length_filter_le (fun x => decide (deg ls x < 4)) (List.range (1 + i))
      rw [List.length_range] at fl
      obtain ⟨w, c1, es, hw, C1⟩ := some_ok k (ρ ++ [bL ls, eL n (deg ls)]) C (u := .lst (((List.range (1 + i)).filter fun x => decide (deg ls x < 4)).map I)) (xs := ((List.range (1 + i)).filter fun x => decide (deg ls x < 4)).map I) (.inl rfl) (fun _ => trivial) (by rw [List.length_map]; exact List.length_pos_of_mem im) (by rw [List.length_map]; omega) fun x hx c' => by
        obtain ⟨y, _, rfl⟩ := List.mem_map.mp hx
        rfl
      obtain ⟨o, ho, rfl⟩ := List.mem_map.mp hw
      rw [List.mem_filter, decide_eq_true_eq, List.mem_range] at ho
      obtain ⟨ho1, ho2⟩ := ho
      have T' := T.next ho1 ho2
      refine ⟨sX n more ρ.length (some (I (1 + i))) none none (some (.lst (((List.range (1 + i)).filter fun x => decide (deg ls x < 4)).map I))) (some (I o)) none none, c1 :: (ρ ++ [bL (ls ++ [(o, 1 + i)]), eL n (deg (ls ++ [(o, 1 + i)]))]), .inl ?_, _, _, _, c1, ls ++ [(o, 1 + i)], rfl, rfl, C1, by rw [show 1 + (i + 1) = 1 + i + 1 by omega]; exact T'⟩
      show exL (runF defs (k + 2)) (ρ.length + 1) lb__law_lines_1 (sX n more ρ.length (some (I (1 + i))) none none y8 y9 none none) (c :: (ρ ++ [bL ls, eL n (deg ls)])) = _
      unfold lb__law_lines_1
      refine (ex_seq (ex_set c0)).trans ?_
      refine (ex_seq (ex_set (u := I o) (μ' := c1 :: (ρ ++ [bL ls, eL n (deg ls)])) (ev_call (us := [.ob 0, .lst (((List.range (1 + i)).filter fun x => decide (deg ls x < 4)).map I)]) (ev_l2 (ev_var rfl) (ev_var rfl)) es))).trans ?_
      have ma1 := u2a c1 ρ (bL ls) (eL n (deg ls))
      refine (ex_seq (ex_append (i := ρ.length + 1) (u := pU (o, 1 + i)) (xs := ls.map pU) (ev_var rfl) (ev_tup (ev_l2 (ev_var rfl) (ev_var rfl)) (show 2 ≤ SZ by decide)) ma1 (by rw [List.length_map]; unfold SZ; omega) (Nat.le_refl _))).trans ?_
      rw [u2s, bL_one]
      have mb2 := u2b c1 ρ (bL (ls ++ [(o, 1 + i)])) (eL n (deg ls))
      have mb3 := u2b c1 ρ (bL (ls ++ [(o, 1 + i)])) (eL n (inc (deg ls) o))
      have e9 : evalE (runF defs (k + 2)) (ρ.length + 1) (.bin false .add (.idx (.var 7) (.var 9)) (.int 1)) (sX n more ρ.length (some (I (1 + i))) none none (some (.lst (((List.range (1 + i)).filter fun x => decide (deg ls x < 4)).map I))) (some (I o)) none none) (c1 :: (ρ ++ [bL (ls ++ [(o, 1 + i)]), eL n (deg ls)])) = some (I (deg ls o + 1), c1 :: (ρ ++ [bL (ls ++ [(o, 1 + i)]), eL n (deg ls)])) := ev_bm (u := I (deg ls o)) (v := .int 1) (ev_idxL1 (ev_var rfl) (ev_var rfl) mb2 (eL_at (by omega))) ev_int rfl
      have e3 : evalE (runF defs (k + 2)) (ρ.length + 1) (.bin false .add (.idx (.var 7) (.var 3)) (.int 1)) (sX n more ρ.length (some (I (1 + i))) none none (some (.lst (((List.range (1 + i)).filter fun x => decide (deg ls x < 4)).map I))) (some (I o)) none none) (c1 :: (ρ ++ [bL (ls ++ [(o, 1 + i)]), eL n (deg ls)])) = some (I (deg ls (1 + i) + 1), c1 :: (ρ ++ [bL (ls ++ [(o, 1 + i)]), eL n (deg ls)])) := ev_bm (u := I (deg ls (1 + i))) (v := .int 1) (ev_idxL1 (ev_var rfl) (ev_var rfl) mb2 (eL_at (by omega))) ev_int rfl
      refine (ex_seq (ex_sub2 (μ3 := c1 :: (ρ ++ [bL (ls ++ [(o, 1 + i)]), eL n (inc (deg ls) o)])) (μ4 := c1 :: (ρ ++ [bL (ls ++ [(o, 1 + i)]), eL n (deg (ls ++ [(o, 1 + i)]))])) e9 e3 ((sto (i := ρ.length + 2) (ev_var rfl) (ev_var rfl) mb2 (ixN_nat (by simp; omega)) (by simp [okw, nomut])).trans ?_) ((sto (i := ρ.length + 2) (ev_var rfl) (ev_var rfl) mb3 (ixN_nat (by simp; omega)) (by simp [okw, nomut])).trans ?_))).trans ex_nil
      · rw [u2t, eL_set n (deg ls) o _ rfl]
      · rw [u2t, eL_set n (inc (deg ls) o) (1 + i) _ (by unfold inc; rw [if_neg (by omega)])]
        have := deg_inc2 (n := n) ls o (1 + i)
        simp only [eL]
        rw [← this])
  rw [List.length_map, List.length_range, show 1 + (n - 1) = n by omega] at T
  exact ⟨c', ls, y3, y8, y9, by rw [e, hσ, hμ], C', T⟩
/-- more lines -/
structure Mo (n : Nat) (ls : List (Nat × Nat)) (m : Nat) : Prop where
  lt : ∀ p ∈ ls, p.1 < n ∧ p.2 < n
  d5 : ∀ x, deg ls x ≤ 5
  tree : ∀ x, 1 ≤ x → x < n → ∃ p ∈ ls, p.2 = x ∧ p.1 < x
  len : ls.length ≤ m
theorem deg_mm (ls : List (Nat × Nat)) (a b : Nat) : (fun x => inc (inc (deg ls) a) b x) = deg (ls ++ [(min a b, max a b)]) := by
  funext x
  rw [deg_snoc]
  unfold inc dg1
  simp only
  rcases Nat.le_total a b with h | h
  · rw [Nat.min_eq_left h, Nat.max_eq_right h, Nat.add_assoc]
  · rw [Nat.min_eq_right h, Nat.max_eq_left h, Nat.add_assoc, Nat.add_comm (if a = x then 1 else 0)]
theorem Mo.next {n m a b : Nat} {ls : List (Nat × Nat)} (T : Mo n ls m) (ha : a < n) (hb : b < n) (h1 : deg ls a < 5) (h2 : deg ls b < 5) (h3 : a ≠ b ∨ deg ls a < 4) : Mo n (ls ++ [(min a b, max a b)]) (m + 1) := by
  refine ⟨fun p hp => ?_, fun x => ?_, fun x g1 g2 => ?_, by have := T.len; simp; omega⟩
  · rcases List.mem_append.mp hp with q | q
    · exact T.lt p q
    · rw [List.mem_singleton] at q; subst q; simp only; omega
  · rw [← deg_mm]
    unfold inc
    show deg ls x + (if a = x then 1 else 0) + (if b = x then 1 else 0) ≤ 5
    have := T.d5 x
    by_cases c1 : a = x
    · subst c1
      rw [if_pos rfl]
      by_cases c2 : b = a
      · rw [if_pos c2]; omega
      · rw [if_neg c2]; omega
    · rw [if_neg c1]
      by_cases c2 : b = x
      · subst c2; rw [if_pos rfl]; omega
      · rw [if_neg c2]; omega
  · obtain ⟨p, hp, e⟩ := T.tree x g1 g2
    exact ⟨p, List.mem_append_left _ hp, e⟩
theorem lines3 (k : Nat) (ρ : Mu) {c : U} (C : Cup c) {n more : Nat} (hn : n ≤ 7) (hn1 : 1 ≤ n) (hm : more ≤ 20) {ls0 : List (Nat × Nat)} (T0 : Mo n ls0 n) (x3 x8 x9 : Option U) :
    ∃ c' ls y4 y10 y11, forL (fstep (runF defs (k + 1)) (ρ.length + 1) (.slot 4) lb__law_lines_3) ((List.range more).map I) (sX n more ρ.length x3 none none x8 x9 none none) (c :: (ρ ++ [bL ls0, eL n (deg ls0)])) =
      some (.nx (sX n more ρ.length x3 y4 none x8 x9 y10 y11) (c' :: (ρ ++ [bL ls, eL n (deg ls)]))) ∧ Cup c' ∧ Mo n ls (n + more) := by
  obtain ⟨σ', μ', e, y4, y10, y11, c', ls, hσ, hμ, C', T⟩ := forL_inv0 (step := fstep (runF defs (k + 1)) (ρ.length + 1) (.slot 4) lb__law_lines_3) (xs := (List.range more).map I)
    (fun i σ μ' => ∃ y4 y10 y11 c ls, σ = sX n more ρ.length x3 y4 none x8 x9 y10 y11 ∧ μ' = c :: (ρ ++ [bL ls, eL n (deg ls)]) ∧ Cup c ∧ Mo n ls (n + i))
    (σ := sX n more ρ.length x3 none none x8 x9 none none) (μ := c :: (ρ ++ [bL ls0, eL n (deg ls0)]))
    ⟨none, none, none, c, ls0, rfl, rfl, C, T0⟩ (fun i x σ μ' hx hp => by
      obtain ⟨y4, y10, y11, c, ls, rfl, rfl, C, T⟩ := hp
      obtain ⟨hi, rfl⟩ := rng_at hx
      obtain ⟨a, c1, ea, ha, C1⟩ := roll_ok k (ρ ++ [bL ls, eL n (deg ls)]) C (many := n) hn1 (by omega)
      obtain ⟨b, c2, eb, hb, C2⟩ := roll_ok k (ρ ++ [bL ls, eL n (deg ls)]) C1 (many := n) hn1 (by omega)
      have ma := u2a c2 ρ (bL ls) (eL n (deg ls))
      have mb := u2b c2 ρ (bL ls) (eL n (deg ls))
      have tl := T.len
      have s0 : exS (runF defs (k + 1)) (ρ.length + 1) (.par [10, 11] [(.call 21 [(.var 0), (.var 1)]), (.call 21 [(.var 0), (.var 1)])]) (sX n more ρ.length x3 (some (I i)) none x8 x9 y10 y11) (c :: (ρ ++ [bL ls, eL n (deg ls)])) = some (.nx (sX n more ρ.length x3 (some (I i)) none x8 x9 (some (I a)) (some (I b))) (c2 :: (ρ ++ [bL ls, eL n (deg ls)]))) :=
        ex_par (us := [I a, I b]) (ev_l2 (ev_call (us := [.ob 0, I n]) (ev_l2 (ev_var rfl) (ev_var rfl)) ea) (ev_call (us := [.ob 0, I n]) (ev_l2 (ev_var rfl) (ev_var rfl)) eb)) rfl
      have i10 : ∀ {j : Nat}, evalE (runF defs (k + 1)) (ρ.length + 1) (.cmp .lt (.idx (.var 7) (.var 10)) (.int (j : Int))) (sX n more ρ.length x3 (some (I i)) none x8 x9 (some (I a)) (some (I b))) (c2 :: (ρ ++ [bL ls, eL n (deg ls)])) = some (.bl (decide (deg ls a < j)), c2 :: (ρ ++ [bL ls, eL n (deg ls)])) := fun {j} => ev_cmp (u := I (deg ls a)) (v := I j) (ev_idxL1 (ev_var rfl) (ev_var rfl) mb (eL_at ha)) ev_int lt_I
      have i11 : evalE (runF defs (k + 1)) (ρ.length + 1) (.cmp .lt (.idx (.var 7) (.var 11)) (.int 5)) (sX n more ρ.length x3 (some (I i)) none x8 x9 (some (I a)) (some (I b))) (c2 :: (ρ ++ [bL ls, eL n (deg ls)])) = some (.bl (decide (deg ls b < 5)), c2 :: (ρ ++ [bL ls, eL n (deg ls)])) := ev_cmp (u := I (deg ls b)) (v := I 5) (ev_idxL1 (ev_var rfl) (ev_var rfl) mb (eL_at hb)) ev_int lt_I
      have ne : evalE (runF defs (k + 1)) (ρ.length + 1) (.cmp .ne (.var 10) (.var 11)) (sX n more ρ.length x3 (some (I i)) none x8 x9 (some (I a)) (some (I b))) (c2 :: (ρ ++ [bL ls, eL n (deg ls)])) = some (.bl (decide (a ≠ b)), c2 :: (ρ ++ [bL ls, eL n (deg ls)])) := ev_cmp (u := I a) (v := I b) (ev_var rfl) (ev_var rfl) ne_I
      have cond : evalE (runF defs (k + 1)) (ρ.length + 1) (.bool true [(.cmp .lt (.idx (.var 7) (.var 10)) (.int 5)), (.cmp .lt (.idx (.var 7) (.var 11)) (.int 5)), (.bool false [(.cmp .ne (.var 10) (.var 11)), (.cmp .lt (.idx (.var 7) (.var 10)) (.int 4))])]) (sX n more ρ.length x3 (some (I i)) none x8 x9 (some (I a)) (some (I b))) (c2 :: (ρ ++ [bL ls, eL n (deg ls)])) = some (.bl (decide (deg ls a < 5) && (decide (deg ls b < 5) && (decide (a ≠ b) || decide (deg ls a < 4)))), c2 :: (ρ ++ [bL ls, eL n (deg ls)])) := by
        have w := i10 (j := 5)
        cases h5 : decide (deg ls a < 5) with
        | false => rw [h5] at w; exact ev_andF w
        | true => rw [h5] at w; rw [Bool.true_and]; exact ev_andT w (ev_and2 i11 (ev_or2 ne (i10 (j := 4))))
      cases hc : decide (deg ls a < 5) && (decide (deg ls b < 5) && (decide (a ≠ b) || decide (deg ls a < 4))) with
      | false =>
        rw [hc] at cond
        refine ⟨sX n more ρ.length x3 (some (I i)) none x8 x9 (some (I a)) (some (I b)), c2 :: (ρ ++ [bL ls, eL n (deg ls)]), .inl ?_, _, _, _, c2, ls, rfl, rfl, C2, ⟨T.lt, T.d5, T.tree, by omega⟩⟩
        show exL (runF defs (k + 1)) (ρ.length + 1) lb__law_lines_3 (sX n more ρ.length x3 (some (I i)) none x8 x9 y10 y11) (c :: (ρ ++ [bL ls, eL n (deg ls)])) = _
        unfold lb__law_lines_3
        exact (ex_seq s0).trans ((ex_seq ((ex_ifF cond rfl).trans ex_nil)).trans ex_nil)
      | true =>
        rw [hc] at cond
        simp only [Bool.and_eq_true, Bool.or_eq_true, decide_eq_true_eq] at hc
        have T' := T.next ha hb hc.1 hc.2.1 hc.2.2
        refine ⟨sX n more ρ.length x3 (some (I i)) none x8 x9 (some (I a)) (some (I b)), c2 :: (ρ ++ [bL (ls ++ [(min a b, max a b)]), eL n (deg (ls ++ [(min a b, max a b)]))]), .inl ?_, _, _, _, c2, ls ++ [(min a b, max a b)], rfl, rfl, C2, T'⟩
        show exL (runF defs (k + 1)) (ρ.length + 1) lb__law_lines_3 (sX n more ρ.length x3 (some (I i)) none x8 x9 y10 y11) (c :: (ρ ++ [bL ls, eL n (deg ls)])) = _
        unfold lb__law_lines_3
        refine (ex_seq s0).trans ?_
        have s1 := ex_append (cal := runF defs (k + 1)) (n0 := ρ.length + 1) (σ := sX n more ρ.length x3 (some (I i)) none x8 x9 (some (I a)) (some (I b))) (al := false) (a := .var 6) (i := ρ.length + 1) (u := pU (min a b, max a b)) (xs := ls.map pU) (ev_var rfl) (ev_tup (us := [I (min a b), I (max a b)]) (ev_l2 (ev_bi (ev_l2 (ev_var (i := 10) rfl) (ev_var (i := 11) rfl)) (min2_I _ _ _)) (ev_bi (ev_l2 (ev_var (i := 10) rfl) (ev_var (i := 11) rfl)) (max2_I _ _ _))) (show 2 ≤ SZ by decide)) ma (by rw [List.length_map]; unfold SZ; omega) (Nat.le_refl _)
        rw [u2s, bL_one] at s1
        have mb2 := u2b c2 ρ (bL (ls ++ [(min a b, max a b)])) (eL n (deg ls))
        have mb3 := u2b c2 ρ (bL (ls ++ [(min a b, max a b)])) (eL n (inc (deg ls) a))
        have v2 : evalE (runF defs (k + 1)) (ρ.length + 1) (.bin false .add (.idx (.var 7) (.var 10)) (.int 1)) (sX n more ρ.length x3 (some (I i)) none x8 x9 (some (I a)) (some (I b))) (c2 :: (ρ ++ [bL (ls ++ [(min a b, max a b)]), eL n (deg ls)])) = some (I (deg ls a + 1), c2 :: (ρ ++ [bL (ls ++ [(min a b, max a b)]), eL n (deg ls)])) := ev_bm (u := I (deg ls a)) (v := .int 1) (ev_idxL1 (ev_var rfl) (ev_var rfl) mb2 (eL_at ha)) ev_int rfl
        have v3 : evalE (runF defs (k + 1)) (ρ.length + 1) (.bin false .add (.idx (.var 7) (.var 11)) (.int 1)) (sX n more ρ.length x3 (some (I i)) none x8 x9 (some (I a)) (some (I b))) (c2 :: (ρ ++ [bL (ls ++ [(min a b, max a b)]), eL n (inc (deg ls) a)])) = some (I (inc (deg ls) a b + 1), c2 :: (ρ ++ [bL (ls ++ [(min a b, max a b)]), eL n (inc (deg ls) a)])) := ev_bm (u := I (inc (deg ls) a b)) (v := .int 1) (ev_idxL1 (ev_var rfl) (ev_var rfl) mb3 (eL_at hb)) ev_int rfl
        have s2 := ex_subL (cal := runF defs (k + 1)) (n0 := ρ.length + 1) (i := ρ.length + 2) (q := a) (a := .var 7) (j := .var 10) v2 (ev_var rfl) (ev_var rfl) mb2 (ixN_nat (by simp; exact ha)) (by simp [okw])
        rw [u2t, eL_set n (deg ls) a _ rfl] at s2
        have s3 := ex_subL (cal := runF defs (k + 1)) (n0 := ρ.length + 1) (i := ρ.length + 2) (q := b) (a := .var 7) (j := .var 11) v3 (ev_var rfl) (ev_var rfl) mb3 (ixN_nat (by simp; exact hb)) (by simp [okw])
        rw [u2t, eL_set n (inc (deg ls) a) b _ rfl] at s3
        have dm := deg_mm ls a b
        have ee : U.lst ((List.range n).map fun x => I (inc (inc (deg ls) a) b x)) = eL n (deg (ls ++ [(min a b, max a b)])) := by
          simp only [eL]
          rw [← dm]
        rw [ee] at s3
        exact (ex_seq ((ex_ifT cond rfl).trans ((ex_seq s1).trans ((ex_seq s2).trans ((ex_seq s3).trans ex_nil))))).trans ex_nil)
  rw [List.length_map, List.length_range] at T
  exact ⟨c', ls, y4, y10, y11, by rw [e, hσ, hμ], C', T⟩
theorem lines5 (k : Nat) (ρ : Mu) {c : U} (C : Cup c) {n more : Nat} {ls0 : List (Nat × Nat)} (hl : ls0.length ≤ 100) (E : U) (x3 x4 x8 x9 x10 x11 : Option U) :
    ∃ c' ls y4, forL (fstep (runF defs (k + 1)) (ρ.length + 1) (.slot 4) lb__law_lines_5) ((List.range ls0.length).map I) (sX n more ρ.length x3 x4 (some (.ob (ρ.length + 3))) x8 x9 x10 x11) (c :: (ρ ++ [bL ls0, E, bL []])) =
      some (.nx (sX n more ρ.length x3 y4 (some (.ob (ρ.length + 3))) x8 x9 x10 x11) (c' :: (ρ ++ [bL [], E, bL ls]))) ∧ Cup c' ∧ ls.Perm ls0 := by
  obtain ⟨σ', μ', e, y4, c', l, m, hσ, hμ, C', h1, h2⟩ := forL_inv0 (step := fstep (runF defs (k + 1)) (ρ.length + 1) (.slot 4) lb__law_lines_5) (xs := (List.range ls0.length).map I)
    (fun i σ μ' => ∃ y4 c l m, σ = sX n more ρ.length x3 y4 (some (.ob (ρ.length + 3))) x8 x9 x10 x11 ∧ μ' = c :: (ρ ++ [bL l, E, bL m]) ∧ Cup c ∧ l.length + i = ls0.length ∧ (l ++ m).Perm ls0)
    (σ := sX n more ρ.length x3 x4 (some (.ob (ρ.length + 3))) x8 x9 x10 x11) (μ := c :: (ρ ++ [bL ls0, E, bL []]))
    ⟨x4, c, ls0, [], rfl, rfl, C, rfl, by simp⟩ (fun i x σ μ' hx hp => by
      obtain ⟨y4, c, l, m, rfl, rfl, C, h1, h2⟩ := hp
      obtain ⟨hi, rfl⟩ := rng_at hx
      obtain ⟨r, c', er, hr, C'⟩ := roll_ok k (ρ ++ [bL l, E, bL m]) C (many := l.length) (by omega) (by omega)
      have pm : (l.eraseIdx r ++ (m ++ [l[r]])).Perm (l ++ m) := by
        have e1 : l = l.take r ++ l[r] :: l.drop (r + 1) := by rw [← List.drop_eq_getElem_cons hr, List.take_append_drop]
        have e2 : l.eraseIdx r = l.take r ++ l.drop (r + 1) := List.eraseIdx_eq_take_drop_succ ..
        rw [e2]
        conv => rhs; rw [e1]
        rw [← List.append_assoc]
        refine (List.perm_append_comm).trans ?_
        refine (List.Perm.trans (by rw [List.singleton_append]) (?_ : (l[r] :: (l.take r ++ l.drop (r + 1) ++ m)).Perm _))
        simp only [List.append_assoc, List.cons_append]
        exact List.perm_middle.symm
      have ml := h2.length_eq
      rw [List.length_append] at ml
      refine ⟨sX n more ρ.length x3 (some (I i)) (some (.ob (ρ.length + 3))) x8 x9 x10 x11, c' :: (ρ ++ [bL (l.eraseIdx r), E, bL (m ++ [l[r]])]), .inl ?_, some (I i), c', l.eraseIdx r, m ++ [l[r]], rfl, rfl, C', by rw [List.length_eraseIdx_of_lt hr]; omega, pm.trans h2⟩
      show exL (runF defs (k + 1)) (ρ.length + 1) lb__law_lines_5 (sX n more ρ.length x3 (some (I i)) (some (.ob (ρ.length + 3))) x8 x9 x10 x11) (c :: (ρ ++ [bL l, E, bL m])) = _
      unfold lb__law_lines_5
      have a1 := u3a c ρ (bL l) E (bL m)
      have b1 := u3c c ρ (bL l) E (bL m)
      have pop := ev_pop1 (cal := runF defs (k + 1)) (n0 := ρ.length + 1) (σ := sX n more ρ.length x3 (some (I i)) (some (.ob (ρ.length + 3))) x8 x9 x10 x11) (μ := c :: (ρ ++ [bL l, E, bL m])) (μ1 := c' :: (ρ ++ [bL l, E, bL m])) (al := false) (a := .var 6) (e := .call 21 [(.var 0), (.bi .len [(.var 6)])]) (i := ρ.length + 1) (j := r) (u := pU l[r]) (xs := l.map pU) (ev_var rfl) (by simp only [asL, a1]; rfl) (ev_call (us := [.ob 0, I l.length]) (ev_l2 (ev_var rfl) (ev_bi (ev_l1 (ev_var rfl)) (by simp only [evBi, cont, a1, List.length_map]))) er) (u3a c' ρ (bL l) E (bL m)) (by simpa using hr) (by omega) (by simp [hr])
      rw [u3s] at pop
      refine (ex_seq (ex_appendA (ev_var rfl) (by simp only [asL, b1]; rfl) pop (u3c c' ρ _ E (bL m)) (by rw [List.length_map]; unfold SZ; omega) (by simp [okw, nomut, nomuts]))).trans ?_
      rw [u3u, ex_nil, bL_one]
      simp only [bL, erase_map])
  rw [List.length_map, List.length_range] at h1
  have hl0 : l = [] := List.eq_nil_of_length_eq_zero (by omega)
  subst hl0
  exact ⟨c', m, y4, by rw [e, hσ, hμ], C', by simpa using h2⟩
end K30

set_option Elab.async false
set_option linter.all false
set_option maxRecDepth 100000
set_option maxHeartbeats 4000000
namespace K30
open PySem L2 R
/-! ### bent values -/
abbrev someL : List U := [.non, .bl true, .bl false, .int 0, .int 1, .int 2, .int 3, .int (-1), .int 9, .int 10, .str "", .tup [], .lst [], .tup [.int 0], .tup [.int 0, .int 0], .tup [.int 1, .int 0], .tup [.tup [.int 0, .int 0]]]
theorem pl_ints2 {B d : Nat} (hB : 2 ≤ B) (xs : List U) (hl : xs.length ≤ 2) (h : ∀ u ∈ xs, ∃ i, u = .int i) : Pl B (d + 1) (.tup xs) := .tup (by omega) fun u hu => by obtain ⟨i, rfl⟩ := h u hu; exact .int _ _
theorem someL_pl {B d : Nat} (hB : 2 ≤ B) : ∀ u ∈ someL, Pl B (d + 2) u := by
  have i2 : ∀ i j : Int, ∀ {d : Nat}, Pl B (d + 1) (.tup [.int i, .int j]) := fun i j d => pl_ints2 hB _ (by simp) fun u hu => by
    simp only [List.mem_cons, List.not_mem_nil, or_false] at hu
    rcases hu with h | h <;> exact ⟨_, h⟩
  intro u hu
  simp only [someL, List.mem_cons, List.not_mem_nil, or_false] at hu
  rcases hu with rfl | rfl | rfl | rfl | rfl | rfl | rfl | rfl | rfl | rfl | rfl | rfl | rfl | rfl | rfl | rfl | rfl
  · exact .non _
  · exact .bl _ _
  · exact .bl _ _
  · exact .int _ _
  · exact .int _ _
  · exact .int _ _
  · exact .int _ _
  · exact .int _ _
  · exact .int _ _
  · exact .int _ _
  · exact .str _ _
  · exact .tup (Nat.zero_le _) fun u hu => by simp at hu
  · exact .lst (Nat.zero_le _) fun u hu => by simp at hu
  · exact pl_ints2 hB _ (by simp) fun u hu => by simp at hu; exact ⟨_, hu⟩
  · exact i2 0 0
  · exact i2 1 0
  · refine .tup (by simp; omega) fun u hu => ?_
    rw [List.mem_singleton] at hu
    subst hu
    exact i2 0 0
theorem someL_ev {cal : Nat → List U → Mu → Option (U × Mu)} {n0 : Nat} {σ : R.Env} {μ : Mu} : evalE cal n0 (.lst false [.non, (.bl true), (.bl false), (.int 0), (.int 1), (.int 2), (.int 3), (.neg (.int 1)), (.int 9), (.int 10), (.str ""), (.tup []), (.lst false []), (.tup [(.int 0)]), (.tup [(.int 0), (.int 0)]), (.tup [(.int 1), (.int 0)]), (.tup [(.tup [(.int 0), (.int 0)])])]) σ μ = some (.lst someL, μ) := by
  refine ev_lst (us := someL) ?_ (show 17 ≤ SZ by decide)
  exact ev_lcons ev_non (ev_lcons ev_bl (ev_lcons ev_bl (ev_lcons ev_int (ev_lcons ev_int (ev_lcons ev_int (ev_lcons ev_int (ev_lcons (ev_neg ev_int) (ev_lcons ev_int (ev_lcons ev_int (ev_lcons ev_str (ev_lcons (ev_tup ev_lnil (show 0 ≤ SZ by decide)) (ev_lcons (ev_lst ev_lnil (show 0 ≤ SZ by decide)) (ev_lcons (ev_tup (ev_l1 ev_int) (show 1 ≤ SZ by decide)) (ev_lcons (ev_tup (ev_l2 ev_int ev_int) (show 2 ≤ SZ by decide)) (ev_l2 (ev_tup (ev_l2 ev_int ev_int) (show 2 ≤ SZ by decide)) (ev_tup (ev_l1 (ev_tup (ev_l2 ev_int ev_int) (show 2 ≤ SZ by decide))) (show 1 ≤ SZ by decide)))))))))))))))))
def extra : U → List U
  | .int i => (List.replicate 5 [U.int (i + 1), U.int (i - 1)]).flatten
  | _ => []
theorem extra_ok (k : Nat) {B d : Nat} {v : U} (h : Pl B d v) (μ : Mu) {n0 : Nat} {σ : R.Env} (hv : evalE (runF defs (k + 1)) n0 (.var 1) σ μ = some (v, μ)) :
    evalE (runF defs (k + 1)) n0 (.ite (.cmp .eq (.call 23 [(.var 1)]) (.int 2)) (.bin false .mul (.lst false [(.bin false .add (.var 1) (.int 1)), (.bin false .sub (.var 1) (.int 1))]) (.int 5)) (.lst false [])) σ μ = some (.lst (extra v), μ) ∧ (extra v).length ≤ 10 ∧ ∀ u ∈ extra v, Pl 0 0 u := by
  have c : evalE (runF defs (k + 1)) n0 (.cmp .eq (.call 23 [(.var 1)]) (.int 2)) σ μ = some (.bl (decide (srtU v = 2)), μ) := ev_cmp (ev_call (ev_l1 hv) (sort_pl k h μ)) ev_int (by simp only [evCmp, eq_int])
  have no : srtU v ≠ 2 → extra v = [] → evalE (runF defs (k + 1)) n0 (.ite (.cmp .eq (.call 23 [(.var 1)]) (.int 2)) (.bin false .mul (.lst false [(.bin false .add (.var 1) (.int 1)), (.bin false .sub (.var 1) (.int 1))]) (.int 5)) (.lst false [])) σ μ = some (.lst (extra v), μ) ∧ (extra v).length ≤ 10 ∧ ∀ u ∈ extra v, Pl 0 0 u := fun h1 h2 => by
    rw [decide_eq_false h1] at c
    rw [h2]
    exact ⟨ev_iteF c rfl (ev_lst ev_lnil (show 0 ≤ SZ by decide)), by simp, by simp⟩
  cases h with
  | int d i =>
    rw [decide_eq_true (by rfl)] at c
    refine ⟨ev_iteT c rfl (ev_bin (ev_lst (ev_l2 (ev_bin hv ev_int rfl) (ev_bin hv ev_int rfl)) (show 2 ≤ SZ by decide)) ev_int ?_), by simp [extra, List.replicate], fun u hu => ?_⟩
    · simp only [evBin, asL]
      rw [if_pos (by simp [SZ])]
      rfl
    · simp [extra, List.replicate] at hu
      rcases hu with rfl | rfl | rfl | rfl | rfl | rfl | rfl | rfl | rfl | rfl <;> exact .int _ _
  | _ => exact no (by simp [srtU]) rfl
theorem eq_nilT (μ : Mu) {B d : Nat} {xs : List U} (h : ∀ u ∈ xs, Pl B d u) (hd : d + 1 ≤ D0) : evCmp μ .eq (.tup xs) (.tup []) = some xs.isEmpty := by
  have m := mapO_map (f := dat μ 11) (g := id) (h := tp) (xs := xs) fun x hx => dat_tp μ (h x hx) (by unfold D0 at hd; omega)
  rw [List.map_id] at m
  simp only [evCmp, evEq, show D0 = 11 + 1 from rfl, dat, m, mapO]
  cases xs with
  | nil => rfl
  | cons x xs => simp [PyData.eqv, PyData.eqvAll]
theorem bent_ok {B : Nat} (hB : 2 ≤ B) (hB2 : B ≤ 1000) (ρ : Mu) {d : Nat} {v : U} (h : Pl B d v) : ∀ (k : Nat) {c : U}, Cup c → d ≤ 8 → ∃ v' c', runF defs (k + d + 3) 36 [.ob 0, v] (c :: ρ) = some (v', c' :: ρ) ∧ Pl (B + 1) (d + 2) v' ∧ Cup c' := by
  have leaf : ∀ {d : Nat} {v : U}, Pl B d v → d ≤ 8 → ∀ (k : Nat) {c0 c : U}, Cup c → evalE (runF defs (k + 2)) (ρ.length + 1) (.bool false [(.not (.isi (.var 1) .tuple)), (.cmp .eq (.var 1) (.tup [])), (.cmp .eq (.call 21 [(.var 0), (.int 7)]) (.int 0))]) [some (.ob 0), some v, none, none, none] (c0 :: ρ) = some (.bl true, c :: ρ) →
      ∃ v' c', runF defs (k + 3) 36 [.ob 0, v] (c0 :: ρ) = some (v', c' :: ρ) ∧ Pl (B + 1) (d + 2) v' ∧ Cup c' := fun {d v} h hd k c0 c C hc => by
    obtain ⟨e1, e2, e3⟩ := extra_ok (k + 1) h (c :: ρ) (n0 := ρ.length + 1) (σ := [some (.ob 0), some v, some (.lst someL), none, none]) (ev_var rfl)
    have hp : ∀ x ∈ someL ++ extra v, Pl (B + 1) (d + 2) x := fun x hx => by
      rcases List.mem_append.mp hx with z | z
      · exact someL_pl (by omega) x z
      · exact (e3 x z).up (by omega) (by omega)
    obtain ⟨w, c', es, hw, C'⟩ := some_ok k ρ C (u := .lst (someL ++ extra v)) (xs := someL ++ extra v) (.inl rfl) (fun _ => trivial) (by simp) (by simp; omega) fun x hx c' => frz_pl (hp x hx) _ _ (by unfold D0; omega)
    refine ⟨w, c', ?_, hp w hw, C'⟩
    rw [run__law_bent]
    have b : exL (runF defs (k + 2)) (ρ.length + 1) b__law_bent [some (.ob 0), some v, none, none, none] (c0 :: ρ) = some (.rt w (c' :: ρ)) := by
      unfold b__law_bent
      have s1 : exS (runF defs (k + 2)) (ρ.length + 1) (.iff (.bool false [(.not (.isi (.var 1) .tuple)), (.cmp .eq (.var 1) (.tup [])), (.cmp .eq (.call 21 [(.var 0), (.int 7)]) (.int 0))]) [.set 2 (.lst false [.non, (.bl true), (.bl false), (.int 0), (.int 1), (.int 2), (.int 3), (.neg (.int 1)), (.int 9), (.int 10), (.str ""), (.tup []), (.lst false []), (.tup [(.int 0)]), (.tup [(.int 0), (.int 0)]), (.tup [(.int 1), (.int 0)]), (.tup [(.tup [(.int 0), (.int 0)])])]), .ret (.call 22 [(.var 0), (.bin false .add (.var 2) (.ite (.cmp .eq (.call 23 [(.var 1)]) (.int 2)) (.bin false .mul (.lst false [(.bin false .add (.var 1) (.int 1)), (.bin false .sub (.var 1) (.int 1))]) (.int 5)) (.lst false [])))])] []) [some (.ob 0), some v, none, none, none] (c0 :: ρ) = some (.rt w (c' :: ρ)) := by
        refine (ex_ifT hc rfl).trans ?_
        refine (ex_seq (ex_set (someL_ev))).trans ?_
        refine ex_ret (ev_call (ev_l2 (ev_var rfl) (ev_addL (ev_var rfl) e1 (by simp; unfold SZ; omega))) es)
      simp only [exL, s1]
    exact (if_pos rfl).trans (run_rt b (fin_cut (frz_pl (hp w hw) _ _ (by unfold D0; omega)) (by simp)))
  have flat : ∀ {d : Nat} {v : U}, Pl B d v → d ≤ 8 → (∀ xs, v ≠ .tup xs) → ∀ (k : Nat) {c : U}, Cup c → ∃ v' c', runF defs (k + d + 3) 36 [.ob 0, v] (c :: ρ) = some (v', c' :: ρ) ∧ Pl (B + 1) (d + 2) v' ∧ Cup c' := fun {d v} h hd hn k c C => by
    refine leaf h hd (k + d) C (ev_orT (ev_not (d := false) (ev_isi (r := false) (ev_var rfl) ?_) rfl))
    cases h with
    | tup hz h => exact absurd rfl (hn _)
    | _ => rfl
  induction h with
  | non d => intro k c C hd; exact flat (.non d) hd (fun xs z => by cases z) k C
  | bl d b => intro k c C hd; exact flat (.bl d b) hd (fun xs z => by cases z) k C
  | int d i => intro k c C hd; exact flat (.int d i) hd (fun xs z => by cases z) k C
  | str d x => intro k c C hd; exact flat (.str d x) hd (fun xs z => by cases z) k C
  | lst hz h ih => intro k c C hd; exact flat (.lst hz h) hd (fun xs z => by cases z) k C
  | @tup d xs hz h ih =>
    intro k c C hd
    have t1 : evalE (runF defs (k + (d + 1) + 2)) (ρ.length + 1) (.not (.isi (.var 1) .tuple)) [some (.ob 0), some (.tup xs), none, none, none] (c :: ρ) = some (.bl false, c :: ρ) := ev_not (d := true) (ev_isi (r := true) (ev_var rfl) rfl) rfl
    have t2 : evalE (runF defs (k + (d + 1) + 2)) (ρ.length + 1) (.cmp .eq (.var 1) (.tup [])) [some (.ob 0), some (.tup xs), none, none, none] (c :: ρ) = some (.bl xs.isEmpty, c :: ρ) := ev_cmp (ev_var rfl) (ev_tup ev_lnil (show 0 ≤ SZ by decide)) (eq_nilT _ h (by unfold D0; omega))
    cases hxs : xs.isEmpty with
    | true =>
      rw [hxs] at t2
      exact leaf (.tup hz h) hd (k + (d + 1)) C (ev_orF t1 (ev_orT t2))
    | false =>
      rw [hxs] at t2
      obtain ⟨r7, c1, e7, _, C1⟩ := roll_ok (k + (d + 1) + 1) ρ C (many := 7) (by omega) (by omega)
      have t3 : evalE (runF defs (k + (d + 1) + 2)) (ρ.length + 1) (.cmp .eq (.call 21 [(.var 0), (.int 7)]) (.int 0)) [some (.ob 0), some (.tup xs), none, none, none] (c :: ρ) = some (.bl (decide (r7 = 0)), c1 :: ρ) := ev_cmp (u := I r7) (v := I 0) (ev_call (us := [.ob 0, I 7]) (ev_l2 (ev_var rfl) ev_int) e7) ev_int eq_I
      by_cases h7 : r7 = 0
      · rw [decide_eq_true h7] at t3
        exact leaf (.tup hz h) hd (k + (d + 1)) C1 (ev_orF t1 (ev_orF t2 (ev_b1 t3)))
      · rw [decide_eq_false h7] at t3
        have hpos : 1 ≤ xs.length := by
          cases xs with
          | nil => simp at hxs
          | cons => simp
        obtain ⟨at_, c2, ea, ha, C2⟩ := roll_ok (k + (d + 1) + 1) ρ C1 (many := xs.length) hpos (by omega)
        obtain ⟨way, c3, ew, hw, C3⟩ := roll_ok (k + (d + 1) + 1) ρ C2 (many := 12) (by omega) (by omega)
        obtain ⟨v4, c4, e4, p4, C4⟩ := ih xs[at_] (List.getElem_mem ha) k C3 (by omega)
        let σ : R.Env := [some (.ob 0), some (.tup xs), none, some (I at_), some (I way)]
        have head : ∀ {ss : List S}, exL (runF defs (k + (d + 1) + 2)) (ρ.length + 1) (.iff (.bool false [(.not (.isi (.var 1) .tuple)), (.cmp .eq (.var 1) (.tup [])), (.cmp .eq (.call 21 [(.var 0), (.int 7)]) (.int 0))]) [.set 2 (.lst false [.non, (.bl true), (.bl false), (.int 0), (.int 1), (.int 2), (.int 3), (.neg (.int 1)), (.int 9), (.int 10), (.str ""), (.tup []), (.lst false []), (.tup [(.int 0)]), (.tup [(.int 0), (.int 0)]), (.tup [(.int 1), (.int 0)]), (.tup [(.tup [(.int 0), (.int 0)])])]), .ret (.call 22 [(.var 0), (.bin false .add (.var 2) (.ite (.cmp .eq (.call 23 [(.var 1)]) (.int 2)) (.bin false .mul (.lst false [(.bin false .add (.var 1) (.int 1)), (.bin false .sub (.var 1) (.int 1))]) (.int 5)) (.lst false [])))])] [] :: .par [3, 4] [(.call 21 [(.var 0), (.bi .len [(.var 1)])]), (.call 21 [(.var 0), (.int 12)])] :: ss) [some (.ob 0), some (.tup xs), none, none, none] (c :: ρ) = exL (runF defs (k + (d + 1) + 2)) (ρ.length + 1) ss σ (c3 :: ρ) := by
          intro ss
          refine (ex_seq ((ex_ifF (u := .bl false) (μ1 := c1 :: ρ) (ev_orF t1 (ev_orF t2 (ev_b1 t3))) rfl).trans ex_nil)).trans ?_
          exact ex_seq (ex_par (us := [I at_, I way]) (ev_l2 (ev_call (us := [.ob 0, I xs.length]) (ev_l2 (ev_var rfl) (ev_bi (ev_l1 (ev_var rfl)) rfl)) ea) (ev_call (us := [.ob 0, I 12]) (ev_l2 (ev_var rfl) ev_int) ew)) rfl)
        have wj : ∀ j : Nat, evalE (runF defs (k + (d + 1) + 2)) (ρ.length + 1) (.cmp .eq (.var 4) (.int (j : Int))) σ (c3 :: ρ) = some (.bl (decide (way = j)), c3 :: ρ) := fun j => ev_cmp (u := I way) (v := I j) (ev_var rfl) ev_int eq_I
        have to : evalE (runF defs (k + (d + 1) + 2)) (ρ.length + 1) (.slc false (.var 1) .non (.var 3)) σ (c3 :: ρ) = some (.tup (xs.take at_), c3 :: ρ) := by
          rw [← cutU_to]; exact ev_slcT (ev_var rfl) ev_non (ev_var rfl) rfl rfl
        have to1 : evalE (runF defs (k + (d + 1) + 2)) (ρ.length + 1) (.slc false (.var 1) .non (.bin false .add (.var 3) (.int 1))) σ (c3 :: ρ) = some (.tup (xs.take (at_ + 1)), c3 :: ρ) := by
          rw [← cutU_to]; exact ev_slcT (h := I (at_ + 1)) (ev_var rfl) ev_non (ev_bin (ev_var rfl) ev_int rfl) rfl rfl
        have fr : ∀ {c' : U}, evalE (runF defs (k + (d + 1) + 2)) (ρ.length + 1) (.slc false (.var 1) (.var 3) .non) σ (c' :: ρ) = some (.tup (xs.drop at_), c' :: ρ) := fun {c'} => by
          rw [← cutU_from]; exact ev_slcT (ev_var rfl) (ev_var rfl) ev_non rfl rfl
        have fr1 : ∀ {c' : U}, evalE (runF defs (k + (d + 1) + 2)) (ρ.length + 1) (.slc false (.var 1) (.bin false .add (.var 3) (.int 1)) .non) σ (c' :: ρ) = some (.tup (xs.drop (at_ + 1)), c' :: ρ) := fun {c'} => by
          rw [← cutU_from]; exact ev_slcT (l := I (at_ + 1)) (ev_var rfl) (ev_bin (ev_var rfl) ev_int rfl) ev_non rfl rfl
        have pt : ∀ m, ∀ u ∈ xs.take m, Pl B d u := fun m u hu => h u (List.mem_of_mem_take hu)
        have pd : ∀ m, ∀ u ∈ xs.drop m, Pl B d u := fun m u hu => h u (List.mem_of_mem_drop hu)
        have fin : ∀ {w : U} {c' : U}, exL (runF defs (k + (d + 1) + 2)) (ρ.length + 1) b__law_bent [some (.ob 0), some (.tup xs), none, none, none] (c :: ρ) = some (.rt w (c' :: ρ)) → Pl (B + 1) (d + 1 + 2) w → Cup c' → ∃ v' c', runF defs (k + (d + 1) + 3) 36 [.ob 0, .tup xs] (c :: ρ) = some (v', c' :: ρ) ∧ Pl (B + 1) (d + 1 + 2) v' ∧ Cup c' := fun {w c'} b p C' => by
          refine ⟨w, c', ?_, p, C'⟩
          rw [run__law_bent]
          exact (if_pos rfl).trans (run_rt b (fin_cut (frz_pl p _ _ (by unfold D0; omega)) (by simp)))
        have lt := List.length_take_le at_ xs
        by_cases w0 : way = 0
        · refine fin (w := .tup (xs.take at_ ++ xs.drop (at_ + 1))) (c' := c3) ?_ (.tup (by simp; omega) fun u hu => ?_) C3
          · unfold b__law_bent
            refine head.trans ?_
            have := wj 0
            rw [decide_eq_true w0] at this
            exact ex_bad this (ev_addT to fr1 (by simp; unfold SZ; omega))
          · rcases List.mem_append.mp hu with z | z
            · exact (pt _ u z).up (by omega) (by omega)
            · exact (pd _ u z).up (by omega) (by omega)
        have w0' := wj 0
        rw [decide_eq_false w0] at w0'
        by_cases w1 : way = 1
        · refine fin (w := .tup (xs.take (at_ + 1) ++ xs.drop at_)) (c' := c3) ?_ (.tup (by simp; omega) fun u hu => ?_) C3
          · unfold b__law_bent
            refine head.trans ((ex_seq ((ex_ifF w0' rfl).trans ex_nil)).trans ?_)
            have := wj 1
            rw [decide_eq_true w1] at this
            exact ex_bad this (ev_addT to1 fr (by simp; unfold SZ; omega))
          · rcases List.mem_append.mp hu with z | z
            · exact (pt _ u z).up (by omega) (by omega)
            · exact (pd _ u z).up (by omega) (by omega)
        have w1' := wj 1
        rw [decide_eq_false w1] at w1'
        by_cases w2 : way = 2
        · refine fin (w := .lst xs) (c' := c3) ?_ (.lst (by omega) fun u hu => (h u hu).up (by omega) (by omega)) C3
          unfold b__law_bent
          refine head.trans ((ex_seq ((ex_ifF w0' rfl).trans ex_nil)).trans ((ex_seq ((ex_ifF w1' rfl).trans ex_nil)).trans ?_))
          have := wj 2
          rw [decide_eq_true w2] at this
          exact ex_bad this (ev_col (ev_l1 (ev_var rfl)) (xs := xs) rfl rfl)
        have w2' := wj 2
        rw [decide_eq_false w2] at w2'
        by_cases w3 : way = 3
        · refine fin (w := .tup xs.reverse) (c' := c3) ?_ (.tup (by simp; omega) fun u hu => (h u (by simpa using hu)).up (by omega) (by omega)) C3
          unfold b__law_bent
          refine head.trans ((ex_seq ((ex_ifF w0' rfl).trans ex_nil)).trans ((ex_seq ((ex_ifF w1' rfl).trans ex_nil)).trans ((ex_seq ((ex_ifF w2' rfl).trans ex_nil)).trans ?_)))
          have := wj 3
          rw [decide_eq_true w3] at this
          exact ex_bad this (ev_revT (ev_var rfl))
        have w3' := wj 3
        rw [decide_eq_false w3] at w3'
        refine fin (w := .tup (xs.take at_ ++ [v4] ++ xs.drop (at_ + 1))) (c' := c4) ?_ (.tup (by simp; omega) fun u hu => ?_) C4
        · unfold b__law_bent
          refine head.trans ((ex_seq ((ex_ifF w0' rfl).trans ex_nil)).trans ((ex_seq ((ex_ifF w1' rfl).trans ex_nil)).trans ((ex_seq ((ex_ifF w2' rfl).trans ex_nil)).trans ((ex_seq ((ex_ifF w3' rfl).trans ex_nil)).trans ?_))))
          refine ex_ret (ev_addT (ev_addT to (ev_tup (ev_l1 (ev_call (us := [.ob 0, xs[at_]]) (ev_l2 (ev_var rfl) (ev_idxT (ev_var rfl) (ev_var rfl) (atI_of (by simp [ha])))) ?_)) (show 1 ≤ SZ by decide)) (by simp; unfold SZ; omega)) fr1 (by simp; unfold SZ; omega))
          rw [show k + (d + 1) + 2 = k + d + 3 by omega]
          exact e4
        · rcases List.mem_append.mp hu with z | z
          · rcases List.mem_append.mp z with z | z
            · exact (pt _ u z).up (by omega) (by omega)
            · rw [List.mem_singleton] at z
              subst z
              exact p4.up (by omega) (by omega)
          · exact (pd _ u z).up (by omega) (by omega)
end K30

set_option Elab.async false
set_option linter.all false
set_option maxRecDepth 100000
set_option maxHeartbeats 4000000
namespace K30
open PySem L2 R
section
variable (k : Nat) (ρ : Mu) {n : Nat}
theorem lines_ok {c : U} (C : Cup c) {more : Nat} (hn : n ≤ 7) (hn1 : 1 ≤ n) (hm : more ≤ 20) : ∃ c' ls, runF defs (k + 3) 27 [.ob 0, I n, I more] (c :: ρ) = some (bL ls, c' :: ρ) ∧ Cup c' ∧ LinesOk n ls ∧ ls.length ≤ 30 := by
  obtain ⟨c1, l1, y3, y8, y9, e1, C1, T1⟩ := lines1 k ρ C (more := more) hn hn1
  have M0 : Mo n l1 n := ⟨fun p hp => by have := T1.lt p hp; omega, fun x => by have := T1.d4 x; omega, T1.tree, by have := T1.len; omega⟩
  obtain ⟨c2, l2, y4, y10, y11, e2, C2, T2⟩ := lines3 (k + 1) ρ C1 hn hn1 hm M0 y3 y8 y9
  have tl := T2.len
  obtain ⟨c3, l3, z4, e3, C3, pm⟩ := lines5 (k + 1) ρ C2 (n := n) (more := more) (ls0 := l2) (by omega) (eL n (deg l2)) y3 y4 y8 y9 y10 y11
  have pl := pm.length_eq
  have O : LinesOk n l3 := ⟨hn1, by omega, fun p hp => T2.lt p (pm.mem_iff.mp hp), fun x _ => by rw [deg_perm pm]; have := T2.d5 x; omega, fun x h1 h2 => by
    obtain ⟨p, hp, e⟩ := T2.tree x h1 h2
    exact ⟨p, pm.mem_iff.mpr hp, e⟩⟩
  refine ⟨c3, l3, ?_, C3, O, by omega⟩
  rw [run__law_lines]
  have b : exL (runF defs (k + 2)) (ρ.length + 1) b__law_lines [some (.ob 0), some (I n), some (I more), none, none, none, none, none, none, none, none, none] (c :: ρ) = some (.rt (.ob (ρ.length + 3)) (c3 :: (ρ ++ [bL [], eL n (deg l2), bL l3]))) := by
    unfold b__law_lines
    refine (ex_seq (ex_asg (u := .tup [.ob (ρ.length + 1), .ob (ρ.length + 2)]) (μ' := c :: (ρ ++ [bL [], eL n (deg [])])) (σ' := sX n more ρ.length none none none none none none none) (ev_tup (ev_l2 (μ1 := c :: (ρ ++ [bL []])) ?_ ?_) (show 2 ≤ SZ by decide)) rfl)).trans ?_
    · exact ev_lstA ev_lnil (show 0 ≤ SZ by decide)
    · refine ev_bin (u := .lst [.int 0]) (v := I n) (ev_lst (ev_l1 ev_int) (show 1 ≤ SZ by decide)) (ev_var rfl) ?_
      simp only [evBin, asL]
      rw [if_pos ⟨by omega, by omega, by rw [Int.toNat_natCast]; simp; unfold SZ; omega⟩, Int.toNat_natCast]
      have : (List.replicate n [U.int 0]).flatten = (List.range n).map fun x => I (deg [] x) := by
        apply List.ext_getElem?
        intro i
        have e : (List.replicate n [U.int 0]).flatten = List.replicate n (U.int 0) := by simp
        rw [e, List.getElem?_replicate, List.getElem?_map]
        by_cases hi : i < n
        · rw [if_pos hi, List.getElem?_range hi]; rfl
        · rw [if_neg hi, List.getElem?_eq_none_iff.mpr (by simp; omega)]; rfl
      rw [this]
      simp [R.fresh]
    refine (ex_seq ((show exS _ _ l__law_lines_1 _ _ = _ from ex_for (us := [.int 1, I n]) (xs := (List.range (n - 1)).map fun i => I (1 + i)) (ev_l2 ev_int (ev_var rfl)) (walk_1 (by omega))).trans e1)).trans ?_
    refine (ex_seq ((show exS _ _ l__law_lines_3 _ _ = _ from ex_for (us := [I more]) (xs := (List.range more).map I) (ev_l1 (ev_var rfl)) (walk_rng (by omega))).trans e2)).trans ?_
    refine (ex_seq (ex_set (u := .ob (ρ.length + 3)) (μ' := c2 :: (ρ ++ [bL l2, eL n (deg l2), bL []])) ?_)).trans ?_
    · refine (ev_lstA ev_lnil (show 0 ≤ SZ by decide)).trans ?_
      simp
    have m6 := u3a c2 ρ (bL l2) (eL n (deg l2)) (bL [])
    refine (ex_seq ((show exS _ _ l__law_lines_5 _ _ = _ from ex_for (us := [I l2.length]) (xs := (List.range l2.length).map I) (ev_l1 (ev_bi (us := [.ob (ρ.length + 1)]) (ev_l1 (ev_var rfl)) (by simp only [evBi, cont, m6, List.length_map]))) (walk_rng (by omega))).trans e3)).trans ?_
    exact ex_ret (ev_var rfl)
  refine (if_pos rfl).trans (run_rt b (fin_cut (v := bL l3) ?_ (by simp)))
  refine frz_ob (u3c _ _ _ _ _) (by simp) ?_
  have := mapO_map (f := frz (ρ.length + 1) (c3 :: (ρ ++ [bL [], eL n (deg l2), bL l3])) 11) (g := pU) (h := pU) (xs := l3) fun p _ => frz_pl (pl_pU (B := 2) (d := 0) p (by decide)) _ _ (by decide)
  exact this
theorem net_ok {c : U} (C : Cup c) (hn : n ≤ 7) (hn1 : 1 ≤ n) : ∃ c' N, runF defs (k + 4) 28 [.ob 0, I n] (c :: ρ) = some (netU N, c' :: ρ) ∧ Cup c' ∧ NetOk N ∧ N.length = n := by
  obtain ⟨r, c1, er, hr, C1⟩ := roll_ok (k + 2) ρ C (many := 4) (by omega) (by omega)
  obtain ⟨c2, ls, el, C2, O, hl⟩ := lines_ok k ρ C1 (more := r) hn hn1 (by omega)
  have K := joined_net O
  have j := joined_ev (k + 2) (c2 :: ρ) O (by omega)
  refine ⟨c2, joined n ls, ?_, C2, K, joined_len n ls⟩
  rw [run__law_net]
  refine (if_pos rfl).trans (run_rt (μ1 := c2 :: ρ) (u := netU (joined n ls)) ?_ (fin_cut (frz_pl (pl_netU (B := 10) (d := 0) K.toLnk (by decide)) _ _ (by decide)) (by simp)))
  exact ex_ret (ev_call (us := [bL ls, I n]) (ev_l2 (ev_call (us := [.ob 0, I n, I r]) (ev_lcons (ev_var rfl) (ev_l2 (ev_var rfl) (ev_call (us := [.ob 0, I 4]) (ev_l2 (ev_var rfl) ev_int) er))) el) (ev_var rfl)) j)
theorem ints_of {b : Nat} : ∀ {ys : List U}, (∀ y ∈ ys, ∃ m, m < b ∧ y = I m) → ∃ M : List Nat, ys = M.map I ∧ ∀ x ∈ M, x < b
  | [], _ => ⟨[], rfl, by simp⟩
  | y :: ys, h => by
    obtain ⟨m, hm, rfl⟩ := h y (by simp)
    obtain ⟨M, rfl, hM⟩ := ints_of (ys := ys) fun z hz => h z (by simp [hz])
    refine ⟨m :: M, rfl, fun x hx => ?_⟩
    rcases List.mem_cons.mp hx with rfl | hx
    · exact hm
    · exact hM x hx
theorem marks_lot {c : U} (C : Cup c) {most : Nat} (h1 : 1 ≤ most) (h2 : most ≤ 100) (hn : n ≤ 1000) : ∃ c' M, runF defs (k + 2) 33 [.ob 0, I n, I most] (c :: ρ) = some (lU M, c' :: ρ) ∧ Cup c' ∧ M.length = n ∧ ∀ x ∈ M, x < most := by
  obtain ⟨ys, μ', e, ⟨c', rfl, C'⟩, hl, hy⟩ := compL_ex (step := cstep (runF defs (k + 1)) (ρ.length + 1) (.slot 3) (.bl true) (.call 21 [(.var 0), (.var 2)]) [3] [some (.ob 0), some (I n), some (I most), none]) (Inv := fun μ => ∃ c, μ = c :: ρ ∧ Cup c) (P := fun _ y => ∃ m, m < most ∧ y = I m) (xs := (List.range n).map I) (acc := []) (μ := c :: ρ) ⟨c, rfl, C⟩ (fun x hx μ hi => by
    obtain ⟨c, rfl, C⟩ := hi
    obtain ⟨h, _, rfl⟩ := List.mem_map.mp hx
    obtain ⟨r, c', er, hr, C'⟩ := roll_ok k ρ C h1 (by omega : most < _)
    exact ⟨I r, c' :: ρ, cs_yes rfl (ev_call (us := [.ob 0, I most]) (ev_l2 (ev_var rfl) (ev_var rfl)) er), ⟨c', rfl, C'⟩, r, hr, rfl⟩) (by simp; unfold SZ; omega)
  obtain ⟨M, rfl, hM⟩ := ints_of (b := most) fun y h => by
    obtain ⟨_, _, p⟩ := hy y h
    exact p
  simp only [List.length_map, List.length_range] at hl
  refine ⟨c', M, ?_, C', hl, hM⟩
  rw [run__law_marks]
  refine (if_pos rfl).trans (run_rt (μ1 := c' :: ρ) (u := lU M) ?_ (fin_cut (frz_pl (pl_lU (B := 1000) (d := 0) (l := M) (by omega)) _ _ (by decide)) (by simp)))
  refine ex_ret (ev_col (us := [.lst (M.map I)]) (ev_l1 ?_) rfl rfl)
  exact (ev_comp (us := [I n]) (μ1 := c :: ρ) (xs := (List.range n).map I) (ev_l1 (ev_var rfl)) (walk_rng (by omega)) e).trans rfl
theorem ne_nilT (μ : Mu) {B d : Nat} {xs : List U} (h : ∀ u ∈ xs, Pl B d u) (hd : d + 1 ≤ D0) : evCmp μ .ne (.tup xs) (.tup []) = some (!xs.isEmpty) := by
  have := eq_nilT μ h hd
  simp only [evCmp] at this ⊢
  rw [this]
  rfl
/-- a row of doors by lot -/
theorem row_lot {N : Net} (K : NetOk N) {c : U} (C : Cup c) {s : Nat} (hs : s < N.length) {many : Nat} (hm : many ≤ 60) : ∃ c' ds, runF defs (k + 3) 38 [.ob 0, netU N, I s, I many] (c :: ρ) = some (lU ds, c' :: ρ) ∧ Cup c' ∧ ds.length ≤ 62 ∧ ∀ x ∈ ds, x ≤ 5 := by
  obtain ⟨σ', μ', e, h2, ds, y5, c', hσ, hμ, C', hh, hl, h5⟩ := forL_inv0 (step := fstep (runF defs (k + 2)) (ρ.length + 1) (.slot 5) lb__law_row_0) (xs := (List.range many).map I)
    (fun i σ μ' => ∃ (h : Nat) (ds : List Nat) (y5 : Option U) (c : U), σ = [some (.ob 0), some (netU N), some (I h), some (I many), some (lU ds), y5] ∧ μ' = c :: ρ ∧ Cup c ∧ h < N.length ∧ ds.length ≤ i ∧ ∀ x ∈ ds, x ≤ 5)
    (σ := [some (.ob 0), some (netU N), some (I s), some (I many), some (lU []), none]) (μ := c :: ρ) ⟨s, [], none, c, rfl, rfl, C, hs, Nat.le_refl _, by simp⟩ (fun i x σ μ' hx hp => by
      obtain ⟨h, ds, y5, c, rfl, rfl, C, hh, hl, h5⟩ := hp
      obtain ⟨hi, rfl⟩ := rng_at hx
      have six := K.six hh
      have ih : ∀ {y : U}, evalE (runF defs (k + 2)) (ρ.length + 1) (.idx (.var 1) (.var 2)) [some (.ob 0), some (netU N), some (I h), some (I many), some y, some (I i)] (c :: ρ) = some (rU (row N h), c :: ρ) := ev_idxT (ev_var rfl) (ev_var rfl) (net_at hh)
      have cn : evalE (runF defs (k + 2)) (ρ.length + 1) (.cmp .ne (.idx (.var 1) (.var 2)) (.tup [])) [some (.ob 0), some (netU N), some (I h), some (I many), some (lU ds), some (I i)] (c :: ρ) = some (.bl (!((row N h).map pU).isEmpty), c :: ρ) := ev_cmp ih (ev_tup ev_lnil (show 0 ≤ SZ by decide)) (ne_nilT _ (B := 2) (d := 1) (fun u hu => by obtain ⟨p, _, rfl⟩ := List.mem_map.mp hu; exact pl_pU p (by decide)) (by decide))
      by_cases he : (row N h).length = 0
      · have : row N h = [] := List.eq_nil_of_length_eq_zero he
        rw [this] at cn
        refine ⟨_, _, .inl ?_, h, ds, some (I i), c, rfl, rfl, C, hh, by omega, h5⟩
        show exL (runF defs (k + 2)) (ρ.length + 1) lb__law_row_0 [some (.ob 0), some (netU N), some (I h), some (I many), some (lU ds), some (I i)] (c :: ρ) = _
        unfold lb__law_row_0
        exact (ex_seq ((ex_ifF cn rfl).trans ex_nil)).trans ex_nil
      · have e1 : ((row N h).map pU).isEmpty = false := by
          cases hr : row N h with
          | nil => rw [hr] at he; exact absurd rfl he
          | cons a l => rfl
        rw [e1] at cn
        obtain ⟨r, c1, er, hr, C1⟩ := roll_ok (k + 1) ρ C (many := (row N h).length) (by omega) (by omega)
        have hp : (row N h)[r]? = some (row N h)[r] := List.getElem?_eq_getElem hr
        have hg := K.lt (List.getElem_mem hr)
        generalize (row N h)[r] = p at hp hg
        refine ⟨[some (.ob 0), some (netU N), some (I p.1), some (I many), some (lU (ds ++ [r])), some (I i)], c1 :: ρ, .inl ?_, p.1, ds ++ [r], some (I i), c1, rfl, rfl, C1, hg, by simp; omega, fun x hx => ?_⟩
        · show exL (runF defs (k + 2)) (ρ.length + 1) lb__law_row_0 [some (.ob 0), some (netU N), some (I h), some (I many), some (lU ds), some (I i)] (c :: ρ) = _
          unfold lb__law_row_0
          have ad : evalE (runF defs (k + 2)) (ρ.length + 1) (.bin false .add (.var 4) (.tup [(.call 21 [(.var 0), (.bi .len [(.idx (.var 1) (.var 2))])])])) [some (.ob 0), some (netU N), some (I h), some (I many), some (lU ds), some (I i)] (c :: ρ) = some (lU (ds ++ [r]), c1 :: ρ) := by
            unfold lU
            rw [List.map_append]
            exact ev_addT (ev_var rfl) (ev_tup (us := [I r]) (ev_l1 (ev_call (us := [.ob 0, I (row N h).length]) (ev_l2 (ev_var rfl) (ev_bi (us := [rU (row N h)]) (ev_l1 ih) (by simp [evBi, cont]))) er)) (show 1 ≤ SZ by decide)) (by simp; unfold SZ; omega)
          have go : evalE (runF defs (k + 2)) (ρ.length + 1) (.idx (.idx (.idx (.var 1) (.var 2)) (.idx (.var 4) (.neg (.int 1)))) (.int 0)) [some (.ob 0), some (netU N), some (I h), some (I many), some (lU (ds ++ [r])), some (I i)] (c1 :: ρ) = some (I p.1, c1 :: ρ) := by
            refine ev_idxT (xs := [I p.1, I p.2]) (ev_idxT (xs := (row N h).map pU) (j := (r : Int)) (ev_idxT (ev_var rfl) (ev_var rfl) (net_at hh)) (ev_idxT (xs := (ds ++ [r]).map I) (ev_var rfl) (ev_neg ev_int) ?_) (row_at' hp)) ev_int (atI_of (j := 0) rfl)
            rw [List.map_append]
            exact atI_last _ _
          exact (ex_seq ((ex_ifT cn rfl).trans ((ex_seq (ex_set ad)).trans ((ex_seq (ex_set go)).trans ex_nil)))).trans ex_nil
        · rcases List.mem_append.mp hx with z | z
          · exact h5 x z
          · rw [List.mem_singleton] at z; subst z; omega)
  rw [List.length_map, List.length_range] at hl
  obtain ⟨w, c2, es, hw, C2⟩ := some_ok k ρ C' (u := .lst [lU [], lU [], lU [5], lU [0, 1]]) (xs := [lU [], lU [], lU [5], lU [0, 1]]) (.inl rfl) (fun _ => trivial) (by simp) (by simp) fun x hx c' => by
    simp only [List.mem_cons, List.not_mem_nil, or_false] at hx
    rcases hx with rfl | rfl | rfl | rfl <;> exact frz_pl (pl_lU (B := 2) (d := 0) (by decide)) _ _ (by decide)
  obtain ⟨t, ht, h5t, rfl⟩ : ∃ t : List Nat, t.length ≤ 2 ∧ (∀ x ∈ t, x ≤ 5) ∧ w = lU t := by
    simp only [List.mem_cons, List.not_mem_nil, or_false] at hw
    rcases hw with rfl | rfl | rfl | rfl
    · exact ⟨[], by decide, by decide, rfl⟩
    · exact ⟨[], by decide, by decide, rfl⟩
    · exact ⟨[5], by decide, by decide, rfl⟩
    · exact ⟨[0, 1], by decide, by decide, rfl⟩
  refine ⟨c2, ds ++ t, ?_, C2, by simp; omega, fun x hx => (List.mem_append.mp hx).elim (h5 x) (h5t x)⟩
  rw [run__law_row]
  have b : exL (runF defs (k + 2)) (ρ.length + 1) b__law_row [some (.ob 0), some (netU N), some (I s), some (I many), none, none] (c :: ρ) = some (.rt (lU (ds ++ t)) (c2 :: ρ)) := by
    unfold b__law_row
    refine (ex_seq (ex_set (u := lU []) (μ' := c :: ρ) (ev_tup ev_lnil (show 0 ≤ SZ by decide)))).trans ?_
    refine (ex_seq ((show exS _ _ l__law_row_0 _ _ = _ from ex_for (us := [I many]) (xs := (List.range many).map I) (ev_l1 (ev_var rfl)) (walk_rng (by omega))).trans e)).trans ?_
    rw [hσ, hμ]
    refine ex_ret ?_
    unfold lU
    rw [List.map_append]
    refine ev_addT (ev_var rfl) (ev_call (us := [.ob 0, .lst [lU [], lU [], lU [5], lU [0, 1]]]) (ev_l2 (ev_var rfl) (ev_lst (us := [lU [], lU [], lU [5], lU [0, 1]]) (ev_lcons (ev_tup ev_lnil (show 0 ≤ SZ by decide)) (ev_lcons (ev_tup ev_lnil (show 0 ≤ SZ by decide)) (ev_l2 (ev_tup (ev_l1 ev_int) (show 1 ≤ SZ by decide)) (ev_tup (ev_l2 ev_int ev_int) (show 2 ≤ SZ by decide))))) (show 4 ≤ SZ by decide))) es) (by simp; unfold SZ; omega)
  exact (if_pos rfl).trans (run_rt b (fin_cut (frz_pl (pl_lU (B := 100) (d := 0) (by simp; omega)) _ _ (by decide)) (by simp)))
/-- a row changed in many ways -/
theorem changed_ok {c : U} (C : Cup c) {ds : List Nat} (hl : ds.length ≤ 62) : ∃ c' us, runF defs (k + 2) 37 [.ob 0, lU ds, I 6] (c :: ρ) = some (.lst us, c' :: ρ) ∧ Cup c' ∧ us.length = 19 ∧ ∀ u ∈ us, Pl 200 2 u := by
  obtain ⟨r, c1, er, hr, C1⟩ := roll_ok k ρ C (many := ds.length + 1) (by omega) (by omega)
  have n1 : evalE (runF defs (k + 1)) (ρ.length + 1) (.bin false .add (.bi .len [(.var 1)]) (.int 1)) [some (.ob 0), some (lU ds), some (I 6), none, none, none] (c :: ρ) = some (I (ds.length + 1), c :: ρ) := ev_bm (u := I ds.length) (v := .int 1) (ev_bi (us := [lU ds]) (ev_l1 (ev_var rfl)) (by simp [evBi, cont])) ev_int rfl
  have T : ∀ {y4 y5 : Option U}, TpE (runF defs (k + 1)) (ρ.length + 1) [some (.ob 0), some (lU ds), some (I 6), some (I r), y4, y5] (c1 :: ρ) 200 1 62 (.var 1) := tp_var rfl (by simpa using hl) fun u hu => by
    obtain ⟨x, _, rfl⟩ := List.mem_map.mp hu
    exact .int _ _
  have at_ : ∀ {y4 y5 : Option U}, evalE (runF defs (k + 1)) (ρ.length + 1) (.var 3) [some (.ob 0), some (lU ds), some (I 6), some (I r), y4, y5] (c1 :: ρ) = some (I r, c1 :: ρ) := ev_var rfl
  have at1 : ∀ {y4 y5 : Option U}, evalE (runF defs (k + 1)) (ρ.length + 1) (.bin false .add (.var 3) (.int 1)) [some (.ob 0), some (lU ds), some (I 6), some (I r), y4, y5] (c1 :: ρ) = some (I (r + 1), c1 :: ρ) := ev_bm (u := I r) (v := .int 1) (ev_var rfl) ev_int rfl
  have to : ∀ {y4 y5 : Option U}, TpE (runF defs (k + 1)) (ρ.length + 1) [some (.ob 0), some (lU ds), some (I 6), some (I r), y4, y5] (c1 :: ρ) 200 1 62 (.slc false (.var 1) .non (.var 3)) := T.slc ev_non at_ rfl rfl
  have fr : ∀ {y4 y5 : Option U}, TpE (runF defs (k + 1)) (ρ.length + 1) [some (.ob 0), some (lU ds), some (I 6), some (I r), y4, y5] (c1 :: ρ) 200 1 62 (.slc false (.var 1) (.var 3) .non) := T.slc at_ ev_non rfl rfl
  have fr1 : ∀ {y4 y5 : Option U}, TpE (runF defs (k + 1)) (ρ.length + 1) [some (.ob 0), some (lU ds), some (I 6), some (I r), y4, y5] (c1 :: ρ) 200 1 62 (.slc false (.var 1) (.bin false .add (.var 3) (.int 1)) .non) := T.slc at1 ev_non rfl rfl
  have mid : ∀ {y4 y5 : Option U}, TpE (runF defs (k + 1)) (ρ.length + 1) [some (.ob 0), some (lU ds), some (I 6), some (I r), y4, y5] (c1 :: ρ) 200 1 62 (.slc false (.var 1) (.var 3) (.bin false .add (.var 3) (.int 1))) := T.slc at_ at1 rfl rfl
  have p1 : PlL (runF defs (k + 1)) (ρ.length + 1) [some (.ob 0), some (lU ds), some (I 6), some (I r), none, none] (c1 :: ρ) 200 2 [(.var 1), (.rev false (.var 1)), (.col false .list .ex [(.var 1)]), (.slc false (.var 1) .non (.neg (.int 1))), (.slc false (.var 1) (.int 1) .non), (.bin false .add (.var 1) (.slc false (.var 1) (.neg (.int 1)) .non)), (.tup []), .non, (.bin false .add (.slc false (.var 1) .non (.var 3)) (.slc false (.var 1) (.bin false .add (.var 3) (.int 1)) .non)), (.bin false .add (.bin false .add (.slc false (.var 1) .non (.var 3)) (.slc false (.var 1) (.var 3) (.bin false .add (.var 3) (.int 1)))) (.slc false (.var 1) (.var 3) .non))] := by
    refine pll (T.pl (by decide)) ?_
    refine pll (T.rev.pl (by decide)) ?_
    refine pll (T.col (by decide)) ?_
    refine pll ((T.slc (l' := none) ev_non (ev_neg ev_int) rfl rfl).pl (by decide)) ?_
    refine pll ((T.slc (h' := none) ev_int ev_non rfl rfl).pl (by decide)) ?_
    refine pll ((T.add (T.slc (h' := none) (ev_neg ev_int) ev_non rfl rfl) (by decide)).pl (by decide)) ?_
    refine pll ((tp_nil (B := 200) (d := 1)).pl (by decide)) ?_
    refine pll (ple ev_non (.non _)) ?_
    refine pll ((to.add fr1 (by decide)).pl (by decide)) ?_
    exact pll (((to.add mid (by decide)).add fr (by decide)).pl (by decide)) pll_nil
  obtain ⟨us1, e1, l1, q1⟩ := p1
  have l1' : us1.length = 10 := l1
  let odds : List U := [.int 0, .int 1, I 6, .int (-1), .bl true, .bl false, .non, .str "0", .tup [.int 0]]
  have po : ∀ u ∈ odds, Pl 200 1 u := fun u hu => by
    simp only [odds, List.mem_cons, List.not_mem_nil, or_false] at hu
    rcases hu with rfl | rfl | rfl | rfl | rfl | rfl | rfl | rfl | rfl
    · exact .int _ _
    · exact .int _ _
    · exact .int _ _
    · exact .int _ _
    · exact .bl _ _
    · exact .bl _ _
    · exact .non _
    · exact .str _ _
    · exact pl_ints2 (by decide) _ (by simp) fun u hu => by simp at hu; exact ⟨_, hu⟩
  have c0 : evalE (runF defs (k + 1)) (ρ.length + 1) c__law_changed_0 [some (.ob 0), some (lU ds), some (I 6), some (I r), some (.lst us1), none] (c1 :: ρ) = some (.lst (odds.map fun u => .tup ((ds.map I).take r ++ [u] ++ (ds.map I).drop (r + 1))), c1 :: ρ) := by
    have ca := compL_all (step := cstep (runF defs (k + 1)) (ρ.length + 1) (.slot 5) (.bl true) (.bin false .add (.bin false .add (.slc false (.var 1) .non (.var 3)) (.tup [(.var 5)])) (.slc false (.var 1) (.bin false .add (.var 3) (.int 1)) .non)) [5] [some (.ob 0), some (lU ds), some (I 6), some (I r), some (.lst us1), none]) (enc := id) (g := fun u => .tup ((ds.map I).take r ++ [u] ++ (ds.map I).drop (r + 1))) (μ := c1 :: ρ) (xs := odds) (acc := []) (fun u _ => cs_yes (σ' := [some (.ob 0), some (lU ds), some (I 6), some (I r), some (.lst us1), some u]) rfl ?_) (by decide)
    · rw [List.map_id] at ca
      have t9 : evalE (runF defs (k + 1)) (ρ.length + 1) (.tup [(.int 0)]) [some (.ob 0), some (lU ds), some (I 6), some (I r), some (.lst us1), none] (c1 :: ρ) = some (.tup [.int 0], c1 :: ρ) := ev_tup (ev_l1 ev_int) (show 1 ≤ SZ by decide)
      have tt : evalE (runF defs (k + 1)) (ρ.length + 1) (.tup [(.int 0), (.int 1), (.var 2), (.neg (.int 1)), (.bl true), (.bl false), .non, (.str "0"), (.tup [(.int 0)])]) [some (.ob 0), some (lU ds), some (I 6), some (I r), some (.lst us1), none] (c1 :: ρ) = some (.tup odds, c1 :: ρ) :=
        ev_tup (us := odds) (ev_lcons ev_int (ev_lcons ev_int (ev_lcons (ev_var rfl) (ev_lcons (ev_neg ev_int) (ev_lcons ev_bl (ev_lcons ev_bl (ev_lcons ev_non (ev_l2 ev_str t9)))))))) (show 9 ≤ SZ by decide)
      exact (ev_comp (us := [.tup odds]) (μ1 := c1 :: ρ) (xs := odds) (ev_l1 tt) rfl ca).trans rfl
    · have t1 : evalE (runF defs (k + 1)) (ρ.length + 1) (.slc false (.var 1) .non (.var 3)) [some (.ob 0), some (lU ds), some (I 6), some (I r), some (.lst us1), some u] (c1 :: ρ) = some (.tup ((ds.map I).take r), c1 :: ρ) := by
        rw [← cutU_to]; exact ev_slcT (ev_var rfl) ev_non (ev_var rfl) rfl rfl
      have t2 : evalE (runF defs (k + 1)) (ρ.length + 1) (.slc false (.var 1) (.bin false .add (.var 3) (.int 1)) .non) [some (.ob 0), some (lU ds), some (I 6), some (I r), some (.lst us1), some u] (c1 :: ρ) = some (.tup ((ds.map I).drop (r + 1)), c1 :: ρ) := by
        rw [← cutU_from]; exact ev_slcT (l := I (r + 1)) (ev_var rfl) at1 ev_non rfl rfl
      exact ev_addT (ev_addT t1 (ev_tup (ev_l1 (ev_var rfl)) (show 1 ≤ SZ by decide)) (by simp; unfold SZ; omega)) t2 (by simp; unfold SZ; omega)
  have pg : ∀ u ∈ odds.map fun u => U.tup ((ds.map I).take r ++ [u] ++ (ds.map I).drop (r + 1)), Pl 200 2 u := fun u hu => by
    obtain ⟨o, ho, rfl⟩ := List.mem_map.mp hu
    refine .tup (by simp; omega) fun v hv => ?_
    rcases List.mem_append.mp hv with z | z
    · rcases List.mem_append.mp z with z | z
      · obtain ⟨x, _, rfl⟩ := List.mem_map.mp (List.mem_of_mem_take z)
        exact .int _ _
      · rw [List.mem_singleton] at z
        exact z ▸ po o ho
    · obtain ⟨x, _, rfl⟩ := List.mem_map.mp (List.mem_of_mem_drop z)
      exact .int _ _
  have pall : ∀ u ∈ us1 ++ odds.map fun u => U.tup ((ds.map I).take r ++ [u] ++ (ds.map I).drop (r + 1)), Pl 200 2 u := fun u hu => (List.mem_append.mp hu).elim (q1 u) (pg u)
  refine ⟨c1, us1 ++ odds.map fun u => U.tup ((ds.map I).take r ++ [u] ++ (ds.map I).drop (r + 1)), ?_, C1, by simp [l1', odds], pall⟩
  rw [run__law_changed]
  have b : exL (runF defs (k + 1)) (ρ.length + 1) b__law_changed [some (.ob 0), some (lU ds), some (I 6), none, none, none] (c :: ρ) = some (.rt (.lst (us1 ++ odds.map fun u => U.tup ((ds.map I).take r ++ [u] ++ (ds.map I).drop (r + 1)))) (c1 :: ρ)) := by
    unfold b__law_changed
    refine (ex_seq (ex_set (u := I r) (μ' := c1 :: ρ) (ev_call (us := [.ob 0, I (ds.length + 1)]) (ev_l2 (ev_var rfl) n1) er))).trans ?_
    refine (ex_seq (ex_set (ev_lst e1 (by rw [l1']; decide)))).trans ?_
    exact ex_ret (ev_addL (ev_var rfl) c0 (by simp [l1', odds]; decide))
  refine (if_pos rfl).trans (run_rt b (fin_cut (frz_pl (B := 200) (d := 3) (.lst (by simp [l1', odds]) pall) _ _ (by decide)) (by simp)))
end
end K30

set_option Elab.async false
set_option linter.all false
set_option maxRecDepth 100000
set_option maxHeartbeats 4000000
namespace K30
open PySem L2 R
/-! ### the judge of one net -/
theorem tM_len {N : Net} (K : NetOk N) {s : Nat} (hs : s < N.length) (M : List Nat) : (tM N s M).length = N.length := by
  unfold tM
  rw [List.length_map]
  exact ord_len K hs
theorem tM_9 {N : Net} (K : NetOk N) {s : Nat} (hs : s < N.length) {M : List Nat} (hM : M.length = N.length) (h9 : ∀ x ∈ M, x ≤ 9) : ∀ x ∈ tM N s M, x ≤ 9 := fun x hx => by
  obtain ⟨o, ho, rfl⟩ := List.mem_map.mp hx
  have := ord_lt K hs ho
  unfold mk
  rw [List.getElem?_eq_getElem (by omega)]
  exact h9 _ (List.getElem_mem _)
theorem pl_tdU {N : Net} (K : NetOk N) {s : Nat} (hs : s < N.length) (M : List Nat) : Pl 1000 4 (tdU N M s) := .tup (by simp) fun u hu => by
  have n10 := K.n10
  simp only [List.mem_cons, List.not_mem_nil, or_false] at hu
  rcases hu with rfl | rfl
  · exact pl_netU (tN_ok K hs).toLnk (by decide)
  · exact pl_lU (by rw [tM_len K hs]; omega)
section
variable (k : Nat) (ρ : Mu) {N : Net} (K : NetOk N) {M : List Nat} (hM : M.length = N.length) (h9 : ∀ x ∈ M, x ≤ 9)
abbrev sR (N : Net) (M : List Nat) (y3 y4 y5 y6 : Option U) (a b : Nat) (y9 y10 : Option U) : R.Env := [some (.ob 0), some (netU N), some (lU M), y3, y4, y5, y6, some (I a), some (I b), y9, y10]
include K hM h9 in
theorem right0 {c : U} (n0 : Nat) {a b : Nat} (ha : a < N.length) (hb : b < N.length) (y3 y4 y6 y10 : Option U) : ∀ {xs : List U} {y5 y9 : Option U}, (∀ u ∈ xs, Pl 1000 2 u) →
    ∃ y5' y9', forL (fstep (runF defs (k + 8)) n0 (.slot 5) lb__law_right_0) xs (sR N M y3 y4 y5 y6 a b y9 y10) (c :: ρ) = some (.nx (sR N M y3 y4 y5' y6 a b y9' y10) (c :: ρ))
  | [], y5, y9, _ => ⟨y5, y9, by simp [forL]⟩
  | u :: xs, y5, y9, h => by
    have pu := h u (by simp)
    obtain ⟨y5', y9', ih⟩ := right0 (c := c) n0 ha hb y3 y4 y6 y10 (xs := xs) (y5 := some u) (y9 := some (.bl (apB N M a b u))) fun v hv => h v (by simp [hv])
    refine ⟨y5', y9', ?_⟩
    have st : fstep (runF defs (k + 8)) n0 (.slot 5) lb__law_right_0 u (sR N M y3 y4 y5 y6 a b y9 y10) (c :: ρ) = some (.nx (sR N M y3 y4 (some u) y6 a b (some (.bl (apB N M a b u))) y10) (c :: ρ)) := by
      show exL (runF defs (k + 8)) n0 lb__law_right_0 (sR N M y3 y4 (some u) y6 a b y9 y10) (c :: ρ) = _
      unfold lb__law_right_0
      have d := due_ev (k + 4) (c :: ρ) K hM (B := 1000) (d := 2) (by decide) (by decide) ha hb pu (n0 := n0) (σ := sR N M y3 y4 (some u) y6 a b y9 y10) rfl rfl rfl rfl rfl
      refine (ex_seq (ex_set d)).trans ?_
      have t := apart_ok (k + 2) (c :: ρ) K hM h9 (B := 1000) (d := 2) (by decide) ha hb pu
      have l := like_pl (B := 1000) (by decide) (Pl.bl 0 (apB N M a b u)) (k + 6) (c :: ρ) (by decide)
      exact (ex_seq ((ex_ifF (u := .bl false) (μ1 := c :: ρ) (ev_not (d := true) (ev_call (us := [.bl (apB N M a b u), .bl (apB N M a b u)]) (ev_l2 (ev_call (us := [netU N, lU M, I a, I b, u]) (ev_lcons (ev_var rfl) (ev_lcons (ev_var rfl) (ev_lcons (ev_var rfl) (ev_l2 (ev_var rfl) (ev_var rfl))))) t) (ev_var rfl)) l) rfl) rfl).trans ex_nil)).trans ex_nil
    simp only [forL, st]
    exact ih
include K hM in
theorem right2 {c : U} (C : Cup c) (n0 : Nat) (hn0 : n0 = ρ.length + 1) {a b : Nat} (y3 y4 y5 y9 y10 : Option U) :
    ∃ σ' c', forL (fstep (runF defs (k + 8)) n0 (.slot 6) lb__law_right_2) ((List.range 4).map I) (sR N M y3 y4 y5 none a b y9 y10) (c :: ρ) = some (.nx σ' (c' :: ρ)) ∧ Cup c' := by
  have n10 := K.n10
  obtain ⟨σ', μ', e, c', y5', y6', y10', hσ, hμ, C'⟩ := forL_inv0 (step := fstep (runF defs (k + 8)) n0 (.slot 6) lb__law_right_2) (xs := (List.range 4).map I)
    (fun i σ μ' => ∃ c y5 y6 y10, σ = sR N M y3 y4 y5 y6 a b y9 y10 ∧ μ' = c :: ρ ∧ Cup c) (σ := sR N M y3 y4 y5 none a b y9 y10) (μ := c :: ρ) ⟨c, y5, none, y10, rfl, rfl, C⟩ (fun i x σ μ' hx hp => by
      obtain ⟨c, y5, y6, y10, rfl, rfl, C⟩ := hp
      obtain ⟨v, c1, e1, pv, C1⟩ := bent_ok (B := 10) (by decide) (by decide) ρ (pl_netU (B := 10) (d := 0) K.toLnk (by decide)) (k + 2) C (by decide)
      obtain ⟨w, c2, e2, pw, C2⟩ := bent_ok (B := 10) (by decide) (by decide) ρ (pl_lU (B := 10) (d := 0) (l := M) (by omega)) (k + 4) C1 (by decide)
      have j14 := is_net_ok (k + 4) (c2 :: ρ) (show 5 ≤ 10 by decide) pv
      have j15 := are_marks_ok (k + 3) (c2 :: ρ) K (show 11 ≤ 1000 by decide) pw
      have j31 := law_net_ok (k + 5) (c2 :: ρ) (show 11 ≤ 1000 by decide) (show 5 ≤ 10 by decide) pv
      have j32 := law_marks_ok (k + 5) (c2 :: ρ) (show 11 ≤ 1000 by decide) (show 3 ≤ 10 by decide) N pw
      have l := like_pl (B := 10) (by decide) (Pl.lst (B := 10) (d := 0) (xs := [.bl (okNet v), .bl (okM N.length w)]) (by simp) fun u hu => by
        simp only [List.mem_cons, List.not_mem_nil, or_false] at hu
        rcases hu with rfl | rfl <;> exact .bl _ _) (k + 5) (c2 :: ρ) (by decide)
      refine ⟨sR N M y3 y4 (some v) (some x) a b y9 (some w), c2 :: ρ, .inl ?_, c2, some v, some x, some w, rfl, rfl, C2⟩
      show exL (runF defs (k + 8)) n0 lb__law_right_2 (sR N M y3 y4 y5 (some x) a b y9 y10) (c :: ρ) = _
      unfold lb__law_right_2
      refine (ex_seq (ex_par (us := [v, w]) (σ' := sR N M y3 y4 (some v) (some x) a b y9 (some w)) (ev_l2 (ev_call (us := [.ob 0, netU N]) (ev_l2 (ev_var rfl) (ev_var rfl)) e1) (ev_call (us := [.ob 0, lU M]) (ev_l2 (ev_var rfl) (ev_var rfl)) e2)) rfl)).trans ?_
      exact (ex_seq ((ex_ifF (u := .bl false) (μ1 := c2 :: ρ) (ev_not (d := true) (ev_call (us := [.lst [.bl (okNet v), .bl (okM N.length w)], .lst [.bl (okNet v), .bl (okM N.length w)]]) (ev_l2 (ev_lst (ev_l2 (ev_call (us := [v]) (ev_l1 (ev_var rfl)) j14) (ev_call (us := [netU N, w]) (ev_l2 (ev_var rfl) (ev_var rfl)) j15)) (show 2 ≤ SZ by decide)) (ev_lst (ev_l2 (ev_call (us := [v, I 10]) (ev_l2 (ev_var rfl) ev_int) j31) (ev_call (us := [netU N, w]) (ev_l2 (ev_var rfl) (ev_var rfl)) j32)) (show 2 ≤ SZ by decide))) l) rfl) rfl).trans ex_nil)).trans ex_nil)
  exact ⟨σ', c', by rw [e, hμ], C'⟩
include K hM h9 in
theorem right_ok {c : U} (C : Cup c) : ∃ c', runF defs (k + 9) 41 [.ob 0, netU N, lU M] (c :: ρ) = some (.bl true, c' :: ρ) ∧ Cup c' := by
  have n1 := K.n1
  have n10 := K.n10
  obtain ⟨a, c1, ea, ha, C1⟩ := roll_ok (k + 7) ρ C (many := N.length) (by omega) (by omega)
  obtain ⟨b, c2, eb, hb, C2⟩ := roll_ok (k + 7) ρ C1 (many := N.length) (by omega) (by omega)
  obtain ⟨mw, c3, em, hm, C3⟩ := some_ok (k + 6) ρ C2 (u := .lst [I 0, I 1, I 3, I 9, I 60]) (xs := [I 0, I 1, I 3, I 9, I 60]) (.inl rfl) (fun _ => trivial) (by simp) (by simp) fun x hx c' => by
    simp only [List.mem_cons, List.not_mem_nil, or_false] at hx
    rcases hx with rfl | rfl | rfl | rfl | rfl <;> rfl
  obtain ⟨many, h60, rfl⟩ : ∃ m, m ≤ 60 ∧ mw = I m := by
    simp only [List.mem_cons, List.not_mem_nil, or_false] at hm
    rcases hm with rfl | rfl | rfl | rfl | rfl
    · exact ⟨0, by omega, rfl⟩
    · exact ⟨1, by omega, rfl⟩
    · exact ⟨3, by omega, rfl⟩
    · exact ⟨9, by omega, rfl⟩
    · exact ⟨60, by omega, rfl⟩
  obtain ⟨c4, ds, er, C4, dl, d5⟩ := row_lot (k + 5) ρ K C3 ha h60
  have T := tN_ok K ha
  have tl := tN_len K ha
  have tml := tM_len K ha M
  have t9 := tM_9 K ha hM h9
  have t0 : 0 < (tN N a).length := T.n1
  have td := told_from_ok (k + 2) (c4 :: ρ) K hM ha h9
  have td2 := told_from_ok (k + 2) (c4 :: ρ) T (M := tM N a M) (by omega) t0 t9
  rw [tN_again K ha, tM_again K ha] at td2
  have j14 := is_net_ok (k + 4) (c4 :: ρ) (B := 1000) (d := 3) (by decide) (pl_netU K.toLnk (by decide))
  rw [okNet_net K] at j14
  have j15 := are_marks_ok (k + 3) (c4 :: ρ) K (B := 1000) (d := 1) (by decide) (pl_lU (l := M) (by omega))
  have okm : okM N.length (lU M) = true := okW_lU hM h9
  rw [okm] at j15
  have j16 := walk_ok (k + 3) (c4 :: ρ) K ha (ds := ds) (by omega) d5
  have j17 := story_ok (k + 2) (c4 :: ρ) K hM h9 ha (ds := ds) (by omega) d5
  have j39 := law_walk_ok (k + 7) (c4 :: ρ) K.toLnk ha (ds := ds) (by omega)
  have j35 := law_story_ok (k + 7) (c4 :: ρ) K.toLnk hM ha (ds := ds) (by omega)
  have ps := story_pl (B := 1000) (d := 0) N M a (ds := ds) (by omega)
  have l4 := like_pl (B := 1000) (by decide) (Pl.lst (B := 1000) (d := 2) (xs := [.bl true, .bl true, wkU (wkL N a ds), story N M a ds]) (by simp) fun u hu => by
    simp only [List.mem_cons, List.not_mem_nil, or_false] at hu
    rcases hu with rfl | rfl | rfl | rfl
    · exact .bl _ _
    · exact .bl _ _
    · exact wkU_pl (d := 1) N a (by omega)
    · exact ps) (k + 3) (c4 :: ρ) (by decide)
  have j31 := law_net_ok (k + 5) (c4 :: ρ) (B := 1000) (d := 3) (by decide) (by decide) (pl_netU T.toLnk (by decide))
  rw [okNet_net T] at j31
  have j32 := law_marks_ok (k + 5) (c4 :: ρ) (B := 1000) (d := 1) (by decide) (by decide) N (pl_lU (l := tM N a M) (by omega))
  rw [show okM N.length (lU (tM N a M)) = true from okW_lU tml t9] at j32
  have j40 := law_told_ok (k + 7) (c4 :: ρ) K hM ha
  have j35t := law_story_ok (k + 7) (c4 :: ρ) T.toLnk (M := tM N a M) (by omega) t0 (ds := ds) (by omega)
  rw [story_told K ha M ds] at j35t
  have lt := like_pl (B := 1000) (by decide) (pl_tdU K ha M) (k + 2) (c4 :: ρ) (by decide)
  obtain ⟨c5, us, ec, C5, ul, up⟩ := changed_ok (k + 6) ρ C4 (ds := ds) dl
  obtain ⟨us2, e2, l2, p2⟩ : PlL (runF defs (k + 8)) (ρ.length + 1) (sR N M (some (lU ds)) (some (tdU N M a)) none none a b none none) (c5 :: ρ) 1000 2 [(.bin false .mul (.var 3) (.int 12)), (.bin false .mul (.tup [(.int 0)]) (.int 100)), (.bin false .mul (.tup [(.int 0)]) (.int 101)), (.tup [(.int 5)]), (.tup [])] := by
    have T3 : TpE (runF defs (k + 8)) (ρ.length + 1) (sR N M (some (lU ds)) (some (tdU N M a)) none none a b none none) (c5 :: ρ) 1000 1 62 (.var 3) := tp_var rfl (by simpa using dl) fun u hu => by
      obtain ⟨x, _, rfl⟩ := List.mem_map.mp hu
      exact .int _ _
    have one : ∀ i : Int, TpE (runF defs (k + 8)) (ρ.length + 1) (sR N M (some (lU ds)) (some (tdU N M a)) none none a b none none) (c5 :: ρ) 1000 1 1 (.tup [.int i]) := fun i => (pll (ple ev_int (.int _ _)) pll_nil).tp (by simp)
    refine pll ((T3.mul (e := .int 12) (j := 12) ev_int (by decide) (by decide)).pl (by decide)) ?_
    refine pll (((one 0).mul (e := .int 100) (j := 100) ev_int (by decide) (by decide)).pl (by decide)) ?_
    refine pll (((one 0).mul (e := .int 101) (j := 101) ev_int (by decide) (by decide)).pl (by decide)) ?_
    refine pll ((one 5).pl (by decide)) ?_
    exact pll ((tp_nil (B := 1000) (d := 1)).pl (by decide)) pll_nil
  have l2' : us2.length = 5 := l2
  obtain ⟨y5', y9', e0⟩ := right0 k ρ K hM h9 (c := c5) (ρ.length + 1) ha hb (some (lU ds)) (some (tdU N M a)) none none (xs := us ++ us2) (y5 := none) (y9 := none) (fun u hu => (List.mem_append.mp hu).elim (fun z => (up u z).up (by decide) (Nat.le_refl _)) (p2 u))
  obtain ⟨σ', c6, e6, C6⟩ := right2 k ρ K hM C5 (ρ.length + 1) rfl (a := a) (b := b) (some (lU ds)) (some (tdU N M a)) y5' y9' none
  refine ⟨c6, ?_, C6⟩
  rw [run__law_right]
  have b : exL (runF defs (k + 8)) (ρ.length + 1) b__law_right [some (.ob 0), some (netU N), some (lU M), none, none, none, none, none, none, none, none] (c :: ρ) = some (.rt (.bl true) (c6 :: ρ)) := by
    unfold b__law_right
    have ln : ∀ {y7 y8 : Option U} {cc : U}, evalE (runF defs (k + 8)) (ρ.length + 1) (.bi .len [(.var 1)]) [some (.ob 0), some (netU N), some (lU M), none, none, none, none, y7, y8, none, none] (cc :: ρ) = some (I N.length, cc :: ρ) := ev_bi (us := [netU N]) (ev_l1 (ev_var rfl)) (by simp [evBi, cont])
    refine (ex_seq (ex_par (us := [I a, I b]) (μ' := c2 :: ρ) (σ' := sR N M none none none none a b none none) (ev_l2 (ev_call (us := [.ob 0, I N.length]) (ev_l2 (ev_var rfl) ln) ea) (ev_call (us := [.ob 0, I N.length]) (ev_l2 (ev_var rfl) ln) eb)) rfl)).trans ?_
    refine (ex_seq (ex_set (u := lU ds) (μ' := c4 :: ρ) (ev_call (us := [.ob 0, netU N, I a, I many]) (ev_lcons (ev_var rfl) (ev_lcons (ev_var rfl) (ev_l2 (ev_var rfl) (ev_call (us := [.ob 0, .lst [I 0, I 1, I 3, I 9, I 60]]) (ev_l2 (ev_var rfl) (ev_lst (us := [I 0, I 1, I 3, I 9, I 60]) (ev_lcons ev_int (ev_lcons ev_int (ev_lcons ev_int (ev_l2 ev_int ev_int)))) (show 5 ≤ SZ by decide))) em)))) er))).trans ?_
    refine (ex_seq (ex_set (u := tdU N M a) (μ' := c4 :: ρ) (ev_call (us := [netU N, lU M, I a]) (ev_lcons (ev_var rfl) (ev_l2 (ev_var rfl) (ev_var rfl))) td))).trans ?_
    refine (ex_seq ((ex_ifF (u := .bl false) (μ1 := c4 :: ρ) (ev_not (d := true) (ev_call (us := [.lst [.bl true, .bl true, wkU (wkL N a ds), story N M a ds], .lst [.bl true, .bl true, wkU (wkL N a ds), story N M a ds]]) (ev_l2 (ev_lst (ev_lcons (ev_call (us := [netU N]) (ev_l1 (ev_var rfl)) j14) (ev_lcons (ev_call (us := [netU N, lU M]) (ev_l2 (ev_var rfl) (ev_var rfl)) j15) (ev_l2 (ev_call (us := [netU N, I a, lU ds]) (ev_lcons (ev_var rfl) (ev_l2 (ev_var rfl) (ev_var rfl))) j16) (ev_call (us := [netU N, lU M, I a, lU ds]) (ev_lcons (ev_var rfl) (ev_lcons (ev_var rfl) (ev_l2 (ev_var rfl) (ev_var rfl)))) j17)))) (show 4 ≤ SZ by decide))
      (ev_lst (ev_lcons ev_bl (ev_lcons ev_bl (ev_l2 (ev_call (us := [netU N, I a, lU ds]) (ev_lcons (ev_var rfl) (ev_l2 (ev_var rfl) (ev_var rfl))) j39) (ev_call (us := [netU N, lU M, I a, lU ds]) (ev_lcons (ev_var rfl) (ev_lcons (ev_var rfl) (ev_l2 (ev_var rfl) (ev_var rfl)))) j35)))) (show 4 ≤ SZ by decide))) l4) rfl) rfl).trans ex_nil)).trans ?_
    have i0 : evalE (runF defs (k + 8)) (ρ.length + 1) (.idx (.var 4) (.int 0)) (sR N M (some (lU ds)) (some (tdU N M a)) none none a b none none) (c4 :: ρ) = some (netU (tN N a), c4 :: ρ) := ev_idxT (ev_var rfl) ev_int (atI_of (j := 0) rfl)
    have i1 : evalE (runF defs (k + 8)) (ρ.length + 1) (.idx (.var 4) (.int 1)) (sR N M (some (lU ds)) (some (tdU N M a)) none none a b none none) (c4 :: ρ) = some (lU (tM N a M), c4 :: ρ) := ev_idxT (ev_var rfl) ev_int (atI_of (j := 1) rfl)
    refine (ex_seq ((ex_ifF (u := .bl false) (μ1 := c4 :: ρ) (ev_orF (μ1 := c4 :: ρ) (ev_not (d := true) (ev_call (us := [netU (tN N a), I 10]) (ev_l2 i0 ev_int) j31) rfl) (ev_orF (μ1 := c4 :: ρ) (ev_not (d := true) (ev_call (us := [netU N, lU (tM N a M)]) (ev_l2 (ev_var rfl) i1) j32) rfl) (ev_b1 (ev_not (d := true) (ev_call (us := [netU N, lU M, I a, tdU N M a]) (ev_lcons (ev_var rfl) (ev_lcons (ev_var rfl) (ev_l2 (ev_var rfl) (ev_var rfl)))) j40) rfl)))) rfl).trans ex_nil)).trans ?_
    have nes : evCmp (c4 :: ρ) .ne (story N M a ds) (story N M a ds) = some false := by rw [ne_pl _ ps ps (by decide), eqv_refl ps]; rfl
    refine (ex_seq ((ex_ifF (u := .bl false) (μ1 := c4 :: ρ) (ev_orF (μ1 := c4 :: ρ) (ev_cmp (u := story N M a ds) (v := story N M a ds) (ev_call (us := [netU (tN N a), lU (tM N a M), I 0, lU ds]) (ev_lcons i0 (ev_lcons i1 (ev_l2 ev_int (ev_var rfl)))) j35t) (ev_call (us := [netU N, lU M, I a, lU ds]) (ev_lcons (ev_var rfl) (ev_lcons (ev_var rfl) (ev_l2 (ev_var rfl) (ev_var rfl)))) j35) nes) (ev_b1 (ev_not (d := true) (ev_call (us := [tdU N M a, tdU N M a]) (ev_l2 (ev_call (us := [netU (tN N a), lU (tM N a M), I 0]) (ev_lcons i0 (ev_l2 i1 ev_int)) td2) (ev_var rfl)) lt) rfl))) rfl).trans ex_nil)).trans ?_
    refine (ex_seq ((show exS _ _ l__law_right_0 _ _ = _ from ex_for (us := [.lst (us ++ us2)]) (μ1 := c5 :: ρ) (ev_l1 (ev_addL (ev_call (us := [.ob 0, lU ds, I 6]) (ev_lcons (ev_var rfl) (ev_l2 (ev_var rfl) ev_int)) ec) (ev_lst e2 (by rw [l2']; decide)) (by rw [ul, l2']; decide))) rfl).trans e0)).trans ?_
    refine (ex_seq ((show exS _ _ l__law_right_2 _ _ = _ from ex_for (us := [I 4]) (xs := (List.range 4).map I) (ev_l1 ev_int) (walk_rng (by omega))).trans e6)).trans ?_
    exact ex_ret ev_bl
  exact (if_pos rfl).trans (run_rt b (fin_cut rfl (by simp)))
end
end K30

set_option Elab.async false
set_option linter.all false
set_option maxRecDepth 100000
set_option maxHeartbeats 4000000
namespace K30
open PySem L2 R
/-! ### rings -/
def ringN (n : Nat) : Net := (List.range n).map fun h => [((h + 1) % n, 1), ((h + n - 1) % n, 0)]
def netOkB (N : Net) : Bool := decide (1 ≤ N.length) && decide (N.length ≤ 10) && N.all (fun r => decide (r.length ≤ 6)) && linksB N && decide ((bfs N 0 N.length).length = N.length)
theorem netOkB_ok {N : Net} (h : netOkB N = true) : NetOk N := by
  unfold netOkB at h
  simp only [Bool.and_eq_true, decide_eq_true_eq, List.all_eq_true] at h
  obtain ⟨⟨⟨⟨h1, h2⟩, h3⟩, h4⟩, h5⟩ := h
  exact ⟨⟨h1, h2, h3, linksB_iff.mp h4⟩, h5⟩
theorem ring_all : ∀ n, n < 11 → 2 ≤ n → netOkB (ringN n) = true := by decide +kernel
theorem ring_ok {n : Nat} (h2 : 2 ≤ n) (hn : n ≤ 10) : NetOk (ringN n) := netOkB_ok (ring_all n (by omega) h2)
theorem ring_len (n : Nat) : (ringN n).length = n := by simp [ringN]
theorem ring_row {n h : Nat} (hh : h < n) : row (ringN n) h = [((h + 1) % n, 1), ((h + n - 1) % n, 0)] := by
  unfold row ringN
  rw [List.getElem?_map, List.getElem?_range hh]
  rfl
theorem mod_I {μ : Mu} (a n : Nat) (hn : 0 < n) : evBin false μ .mod (I a) (I n) = some (I (a % n), μ) := by
  simp only [evBin]
  rw [if_pos (by omega), ← Int.natCast_emod]
theorem law_ring_ok (k : Nat) (μ : Mu) {n : Nat} (h1 : 1 ≤ n) (hn : n ≤ 20) : runF defs (k + 1) 29 [I n] μ = some (netU (ringN n), μ) := by
  rw [run__law_ring]
  have e : netU (ringN n) = .tup ((List.range n).map fun h => rU [((h + 1) % n, 1), ((h + n - 1) % n, 0)]) := by
    show U.tup _ = U.tup _
    unfold ringN
    rw [List.map_map]
    rfl
  rw [e]
  refine (if_pos rfl).trans (run_rt (μ1 := μ) (u := .tup ((List.range n).map fun h => rU [((h + 1) % n, 1), ((h + n - 1) % n, 0)])) ?_ (fin_cut (frz_pl (B := 20) (d := 3) (.tup (by simpa using hn) fun u hu => ?_) _ _ (by decide)) (by simp)))
  · refine ex_ret (ev_col (us := [.lst ((List.range n).map fun h => rU [((h + 1) % n, 1), ((h + n - 1) % n, 0)])]) (ev_l1 ?_) rfl rfl)
    refine (ev_comp (us := [I n]) (μ1 := μ) (xs := (List.range n).map I) (ev_l1 (ev_var rfl)) (walk_rng (by omega)) (compL_all (enc := I) (xs := List.range n) (fun h hh => cs_yes rfl (ev_tup (us := [pU ((h + 1) % n, 1), pU ((h + n - 1) % n, 0)]) (ev_l2 (ev_tup (us := [I ((h + 1) % n), I 1]) (ev_l2 (ev_bm (u := I (h + 1)) (v := I n) (ev_bi (us := [I (h + 1)]) (ev_l1 (ev_bm (u := I h) (v := .int 1) (ev_var rfl) ev_int rfl)) rfl) (ev_var rfl) (mod_I _ _ h1)) ev_int) (show 2 ≤ SZ by decide)) (ev_tup (us := [I ((h + n - 1) % n), I 0]) (ev_l2 (ev_bm (u := .int ((h : Int) - 1)) (v := I n) (ev_bi (us := [.int ((h : Int) - 1)]) (ev_l1 (ev_bm (u := I h) (v := .int 1) (ev_var rfl) ev_int rfl)) rfl) (ev_var rfl) ?_) ev_int) (show 2 ≤ SZ by decide))) (show 2 ≤ SZ by decide))) (by simp; unfold SZ; omega))).trans rfl
    simp only [evBin]
    rw [if_pos (by omega)]
    have hh' : h < n := by simpa using hh
    congr 3
    rw [← Int.add_emod_right ((h : Int) - 1) n, show (h : Int) - 1 + n = ((h + n - 1 : Nat) : Int) by omega, ← Int.natCast_emod]
  · obtain ⟨h, _, rfl⟩ := List.mem_map.mp hu
    exact pl_row (by decide) (by simp)
def plcs (n : Nat) : Nat → List Nat → List Nat
  | _, [] => []
  | h, d :: ds => (if d = 0 then (h + 1) % n else (h + n - 1) % n) :: plcs n (if d = 0 then (h + 1) % n else (h + n - 1) % n) ds
theorem wk_ring {n : Nat} (hn : 0 < n) : ∀ (ds : List Nat) (h : Nat), h < n → (∀ d ∈ ds, d ≤ 1) → wkL (ringN n) h ds = some (plcs n h ds)
  | [], h, _, _ => rfl
  | d :: ds, h, hh, h1 => by
    have hd := h1 d (by simp)
    simp only [wkL, plcs]
    rw [ring_row hh]
    have lt1 := Nat.mod_lt (h + 1) hn
    have lt2 := Nat.mod_lt (h + n - 1) hn
    match d, hd with
    | 0, _ =>
      simp only [List.getElem?_cons_zero, if_true]
      rw [wk_ring hn ds _ lt1 fun x hx => h1 x (by simp [hx])]
      rfl
    | 1, _ =>
      simp only [List.getElem?_cons_succ, List.getElem?_cons_zero, Nat.one_ne_zero, if_false]
      rw [wk_ring hn ds _ lt2 fun x hx => h1 x (by simp [hx])]
      rfl
def mks (n : Nat) : List Nat := (List.range n).map fun x => if x = 0 then 1 else 0
theorem mks_at {n x : Nat} (h : x < n) : mk (mks n) x = if x = 0 then 1 else 0 := by
  unfold mk mks
  rw [List.getElem?_map, List.getElem?_range h]
  rfl
theorem st_ring {n : Nat} (hn : 0 < n) : ∀ (m h : Nat), h < n → stL (ringN n) (mks n) h (List.replicate m 0) = (List.range m).map fun j => seeU 1 (if (h + j + 1) % n = 0 then 1 else 0) 2
  | 0, h, _ => rfl
  | m + 1, h, hh => by
    have lt1 := Nat.mod_lt (h + 1) hn
    rw [List.replicate_succ]
    simp only [stL]
    rw [ring_row hh]
    simp only [List.getElem?_cons_zero]
    rw [st_ring hn m _ lt1, mks_at lt1, ring_row lt1, List.range_succ_eq_map, List.map_cons, List.map_map]
    refine congr (congrArg List.cons ?_) ?_
    · simp
    · apply List.map_congr_left
      intro j _
      show seeU 1 _ 2 = seeU 1 _ 2
      rw [show (h + 1) % n + j + 1 = (h + 1) % n + (j + 1) by omega, Nat.mod_add_mod, show h + 1 + (j + 1) = h + (j + 1) + 1 by omega]
theorem last0 : ∀ n, n < 11 → 2 ≤ n → ∀ h, h < n → (plcs n h (List.replicate n 0)).getLast? = some h := by decide +kernel
theorem last1 : ∀ n, n < 11 → 2 ≤ n → ∀ h, h < n → (plcs n h (List.replicate 50 [0, 1]).flatten).getLast? = some h := by decide +kernel
theorem idx_last {cal : Nat → List U → Mu → Option (U × Mu)} {n0 : Nat} {σ : R.Env} {μ μ1 : Mu} {e : E} {l : List Nat} {h : Nat} (he : evalE cal n0 e σ μ = some (lU l, μ1)) (hl : l.getLast? = some h) : evalE cal n0 (.idx e (.neg (.int 1))) σ μ = some (I h, μ1) := by
  obtain ⟨l', rfl⟩ : ∃ l', l = l' ++ [h] := by
    obtain ⟨ys, e⟩ := List.getLast?_eq_some_iff.mp hl
    exact ⟨ys, e⟩
  refine ev_idxT1 (xs := (l' ++ [h]).map I) he (ev_neg ev_int) ?_
  rw [List.map_append]
  exact atI_last _ _
theorem rep_I {cal : Nat → List U → Mu → Option (U × Mu)} {n0 : Nat} {σ : R.Env} {μ : Mu} {e a : E} {l : List Nat} {m : Nat} (ha : evalE cal n0 a σ μ = some (lU l, μ)) (he : evalE cal n0 e σ μ = some (I m, μ)) (hm : m ≤ 200) (hl : l.length ≤ 10) : evalE cal n0 (.bin false .mul a e) σ μ = some (lU (List.replicate m l).flatten, μ) := by
  refine ev_bm ha he ?_
  simp only [evBin]
  have : l.length * m ≤ 10 * 200 := Nat.mul_le_mul hl hm
  rw [if_pos ⟨by omega, by omega, by rw [Int.toNat_natCast, List.length_map]; unfold SZ; omega⟩, Int.toNat_natCast]
  congr 2
  show U.tup _ = U.tup _
  rw [List.map_flatten, List.map_replicate]
theorem rep_one (m x : Nat) : (List.replicate m [x]).flatten = List.replicate m x := by simp
section
variable (k : Nat) (ρ : Mu)
abbrev sG (many : Nat) (y2 y3 y4 y5 y6 : Option U) (net house y9 y10 : Option U) : R.Env := [some (.ob 0), some (I many), y2, y3, y4, y5, y6, net, house, y9, y10, none, none]
theorem place_loop {c : U} (n0 : Nat) {n : Nat} (hn : 2 ≤ n) (hn2 : n ≤ 10) (y2 y3 : Option U) (net hs : Option U) : ∀ (ds : List Nat) (h : Nat) (acc : List Nat) (y4 : Option U), h < n → (∀ d ∈ ds, d ≤ 1) → acc.length + ds.length ≤ 1000 →
    ∃ h' y4', forL (fstep (runF defs k) n0 (.slot 4) lb__law_great_right_2) (ds.map I) (sG n y2 y3 y4 none none net hs (some (I h)) (some (lU acc))) (c :: ρ) = some (.nx (sG n y2 y3 y4' none none net hs (some (I h')) (some (lU (acc ++ plcs n h ds)))) (c :: ρ))
  | [], h, acc, y4, _, _, _ => ⟨h, y4, by simp [forL, plcs]⟩
  | d :: ds, h, acc, y4, hh, h1, hl => by
    have hd := h1 d (by simp)
    obtain ⟨p, hp⟩ : ∃ p, p = if d = 0 then (h + 1) % n else (h + n - 1) % n := ⟨_, rfl⟩
    have pl : p < n := by
      rw [hp]
      split <;> exact Nat.mod_lt _ (by omega)
    have d2 : d = 0 ∨ d = 1 := by omega
    have ev : evalE (runF defs k) n0 (.bin false .mod (.bi .int [(.bin false .sub (.bin false .add (.var 9) (.int 1)) (.bin false .mul (.int 2) (.var 4)))]) (.var 1)) (sG n y2 y3 (some (I d)) none none net hs (some (I h)) (some (lU acc))) (c :: ρ) = some (I p, c :: ρ) := by
      refine ev_bm (u := .int ((h : Int) + 1 - 2 * d)) (v := I n) (ev_bi (us := [.int ((h : Int) + 1 - 2 * d)]) (ev_l1 (ev_bm (u := .int ((h : Int) + 1)) (v := .int (2 * (d : Int))) (ev_bm (u := I h) (v := .int 1) (ev_var rfl) ev_int rfl) (ev_bm (u := .int 2) (v := I d) ev_int (ev_var rfl) ?_) rfl)) rfl) (ev_var rfl) ?_
      · simp only [evBin]
        rw [if_pos (by rcases d2 with rfl | rfl <;> decide)]
      · simp only [evBin]
        rw [if_pos (by omega)]
        congr 3
        rw [hp]
        rcases d2 with rfl | rfl
        · show ((h : Int) + 1 - 2 * ((0 : Nat) : Int)) % n = (((h + 1) % n : Nat) : Int)
          rw [show (h : Int) + 1 - 2 * ((0 : Nat) : Int) = ((h + 1 : Nat) : Int) by omega, ← Int.natCast_emod]
        · show ((h : Int) + 1 - 2 * ((1 : Nat) : Int)) % n = (((h + n - 1) % n : Nat) : Int)
          rw [show (h : Int) + 1 - 2 * ((1 : Nat) : Int) = (h : Int) - 1 by omega, ← Int.add_emod_right ((h : Int) - 1) n, show (h : Int) - 1 + n = ((h + n - 1 : Nat) : Int) by omega, ← Int.natCast_emod]
    have st : fstep (runF defs k) n0 (.slot 4) lb__law_great_right_2 (I d) (sG n y2 y3 y4 none none net hs (some (I h)) (some (lU acc))) (c :: ρ) = some (.nx (sG n y2 y3 (some (I d)) none none net hs (some (I p)) (some (lU (acc ++ [p])))) (c :: ρ)) := by
      show exL (runF defs k) n0 lb__law_great_right_2 (sG n y2 y3 (some (I d)) none none net hs (some (I h)) (some (lU acc))) (c :: ρ) = _
      unfold lb__law_great_right_2
      refine (ex_seq (ex_set ev)).trans ((ex_seq (ex_set (u := lU (acc ++ [p])) (μ' := c :: ρ) ?_)).trans ex_nil)
      unfold lU
      rw [List.map_append]
      exact ev_addT (ev_var rfl) (ev_tup (us := [I p]) (ev_l1 (ev_var rfl)) (show 1 ≤ SZ by decide)) (by simp at hl ⊢; unfold SZ; omega)
    obtain ⟨h', y4', ih⟩ := place_loop n0 hn hn2 y2 y3 net hs ds p (acc ++ [p]) (some (I d)) pl (fun x hx => h1 x (by simp [hx])) (by simp at hl ⊢; omega)
    refine ⟨h', y4', ?_⟩
    simp only [List.map_cons, forL, st]
    rw [ih, List.append_assoc]
    simp only [plcs, List.singleton_append]
    rw [← hp]
end
end K30

set_option Elab.async false
set_option linter.all false
set_option maxRecDepth 100000
set_option maxHeartbeats 4000000
namespace K30
open PySem L2 R
/-! ### the judge of rings -/
theorem mks_len (n : Nat) : (mks n).length = n := by simp [mks]
theorem mks_le {n : Nat} : ∀ x ∈ mks n, x ≤ 9 := fun x hx => by
  obtain ⟨y, _, rfl⟩ := List.mem_map.mp hx
  split <;> omega
theorem plcs_len (n : Nat) : ∀ (ds : List Nat) (h : Nat), (plcs n h ds).length = ds.length
  | [], _ => rfl
  | d :: ds, h => by simp [plcs, plcs_len n ds]
theorem ring11 : okNet (netU (ringN 11)) = false := by decide +kernel
theorem isB (μ : Mu) (b : Bool) : evBi μ .int [.bl b] = some (I (if b then 1 else 0)) := by cases b <;> rfl
theorem sees_all (n h : Nat) (d : Nat) : ∀ u ∈ (List.range 100).map (fun j => seeU 1 (if (h + j + 1) % n = 0 then 1 else 0) 2), Pl 1000 (d + 1) u := fun u hu => by
  obtain ⟨j, _, rfl⟩ := List.mem_map.mp hu
  exact .tup (by simp) fun v hv => by
    simp only [List.mem_cons, List.not_mem_nil, or_false] at hv
    rcases hv with rfl | rfl | rfl <;> exact .int _ _
abbrev farU (n h : Nat) : U := .tup (.tup [I (if h = 0 then 1 else 0), I 2] :: (List.range 100).map (fun j => seeU 1 (if (h + j + 1) % n = 0 then 1 else 0) 2))
theorem far_eq {n h : Nat} (h2 : 2 ≤ n) (hh : h < n) : story (ringN n) (mks n) h (List.replicate 100 0) = farU n h := by
  unfold story
  rw [st_ring (by omega) 100 h hh, mks_at hh, ring_row hh]
  rfl
theorem far_pl (n h : Nat) : Pl 1000 2 (farU n h) := .tup (by simp) fun u hu => by
  rcases List.mem_cons.mp hu with rfl | hu
  · exact .tup (by simp) fun v hv => by
      simp only [List.mem_cons, List.not_mem_nil, or_false] at hv
      rcases hv with rfl | rfl <;> exact .int _ _
  · exact sees_all n h 0 u hu
section
variable (k : Nat) (ρ : Mu)
theorem marks_ring (n0 : Nat) (μ : Mu) {n : Nat} (hn2 : n ≤ 10) (y2 y3 y4 y5 y6 net house y9 y10 : Option U) :
    evalE (runF defs k) n0 (.col false .tuple .ex [c__law_great_right_0]) (sG n y2 y3 y4 y5 y6 net house y9 y10) μ = some (lU (mks n), μ) := by
  refine ev_col (us := [.lst ((mks n).map I)]) (ev_l1 ?_) rfl rfl
  have e : (mks n).map I = (List.range n).map fun x => I (if x = 0 then 1 else 0) := by
    unfold mks
    rw [List.map_map]
    rfl
  rw [e]
  refine (ev_comp (us := [I n]) (μ1 := μ) (xs := (List.range n).map I) (ev_l1 (ev_var rfl)) (walk_rng (by omega)) (compL_all (enc := I) (xs := List.range n) (g := fun x => I (if x = 0 then 1 else 0)) (fun h hh => cs_yes rfl (ev_bi (us := [.bl (decide (h = 0))]) (ev_l1 (ev_cmp (u := I h) (v := I 0) (ev_var rfl) ev_int eq_I)) ?_)) (by simp; unfold SZ; omega))).trans rfl
  rw [isB]
  by_cases z : h = 0
  · rw [if_pos z, decide_eq_true z]; rfl
  · rw [if_neg z, decide_eq_false z]; rfl
theorem row_ring {c : U} (C : Cup c) (n : Nat) (y2 y3 y4 y5 y6 net house y9 y10 : Option U) :
    ∃ c' ds, evalE (runF defs (k + 1)) (ρ.length + 1) (.col false .tuple .ex [c__law_great_right_1]) (sG n y2 y3 y4 y5 y6 net house y9 y10) (c :: ρ) = some (lU ds, c' :: ρ) ∧ Cup c' ∧ ds.length = 100 ∧ ∀ x ∈ ds, x ≤ 1 := by
  obtain ⟨ys, μ', e, ⟨c', rfl, C'⟩, hl, hy⟩ := compL_ex (step := cstep (runF defs (k + 1)) (ρ.length + 1) (.slot 12) (.bl true) (.call 21 [(.var 0), (.int 2)]) [12] (sG n y2 y3 y4 y5 y6 net house y9 y10)) (Inv := fun μ => ∃ c, μ = c :: ρ ∧ Cup c) (P := fun _ y => ∃ m, m < 2 ∧ y = I m) (xs := (List.range 100).map I) (acc := []) (μ := c :: ρ) ⟨c, rfl, C⟩ (fun x hx μ hi => by
    obtain ⟨c, rfl, C⟩ := hi
    obtain ⟨h, _, rfl⟩ := List.mem_map.mp hx
    obtain ⟨r, c', er, hr, C'⟩ := roll_ok k ρ C (many := 2) (by omega) (by omega)
    exact ⟨I r, c' :: ρ, cs_yes rfl (ev_call (us := [.ob 0, I 2]) (ev_l2 (ev_var rfl) ev_int) er), ⟨c', rfl, C'⟩, r, hr, rfl⟩) (by simp; unfold SZ; omega)
  obtain ⟨M, rfl, hM⟩ := ints_of (b := 2) fun y h => by
    obtain ⟨_, _, p⟩ := hy y h
    exact p
  simp only [List.length_map, List.length_range] at hl
  refine ⟨c', M, ?_, C', hl, fun x hx => Nat.le_of_lt_succ (hM x hx)⟩
  refine ev_col (us := [.lst (M.map I)]) (ev_l1 ?_) rfl rfl
  exact (ev_comp (us := [I 100]) (μ1 := c :: ρ) (xs := (List.range 100).map I) (ev_l1 ev_int) (walk_rng (by omega)) e).trans rfl
theorem far_ring (n0 : Nat) (μ : Mu) {n h : Nat} (h2 : 2 ≤ n) (y2 y3 y4 y5 y6 net y9 y10 : Option U) :
    evalE (runF defs k) n0 (.col false .tuple .ex [c__law_great_right_4]) (sG n y2 y3 y4 y5 y6 net (some (I h)) y9 y10) μ = some (.tup ((List.range 100).map (fun j => seeU 1 (if (h + j + 1) % n = 0 then 1 else 0) 2)), μ) := by
  refine ev_col (us := [.lst ((List.range 100).map (fun j => seeU 1 (if (h + j + 1) % n = 0 then 1 else 0) 2))]) (ev_l1 ?_) rfl rfl
  refine (ev_comp (us := [I 100]) (μ1 := μ) (xs := (List.range 100).map I) (ev_l1 ev_int) (walk_rng (by omega)) (compL_all (enc := I) (xs := List.range 100) (fun j hj => cs_yes rfl (ev_tup (us := [I 1, I (if (h + j + 1) % n = 0 then 1 else 0), I 2]) (ev_lcons ev_int (ev_l2 (ev_bi (us := [.bl (decide ((h + j + 1) % n = 0))]) (ev_l1 (ev_cmp (u := I ((h + j + 1) % n)) (v := I 0) (ev_bm (u := I (h + j + 1)) (v := I n) (ev_bi (us := [I (h + j + 1)]) (ev_l1 (ev_bm (u := I (h + j)) (v := .int 1) (ev_bm (u := I h) (v := I j) (ev_var rfl) (ev_var rfl) rfl) ev_int rfl)) rfl) (ev_var rfl) (mod_I _ _ (by omega))) ev_int eq_I)) ?_) ev_int)) (show 3 ≤ SZ by decide))) (by simp; unfold SZ; omega))).trans rfl
  rw [isB]
  by_cases z : (h + j + 1) % n = 0
  · rw [if_pos z, decide_eq_true z]; rfl
  · rw [if_neg z, decide_eq_false z]; rfl
theorem great_right_ok {c : U} (C : Cup c) : ∃ c', runF defs (k + 9) 42 [.ob 0] (c :: ρ) = some (.bl true, c' :: ρ) ∧ Cup c' := by
  obtain ⟨r, c1, er, hr, C1⟩ := roll_ok (k + 7) ρ C (many := 9) (by omega) (by omega)
  obtain ⟨n, hn⟩ : ∃ n, n = 2 + r := ⟨_, rfl⟩
  have n2 : 2 ≤ n := by omega
  have n10 : n ≤ 10 := by omega
  obtain ⟨h, c2, eh, hh, C2⟩ := roll_ok (k + 7) ρ C1 (many := n) (by omega) (by omega)
  have K := ring_ok n2 n10
  have rl := ring_len n
  have hh' : h < (ringN n).length := by omega
  obtain ⟨c3, ds, ed, C3, dl, d1⟩ := row_ring (k + 7) ρ C2 n (some (lU (mks n))) none none none none (some (netU (ringN n))) (some (I h)) none none
  obtain ⟨h', y4', el⟩ := place_loop (k + 8) ρ (c := c3) (ρ.length + 1) n2 n10 (some (lU (mks n))) (some (lU ds)) (some (netU (ringN n))) (some (I h)) ds h [] none hh d1 (by simp [dl])
  have j29 := law_ring_ok (k + 7) (c1 :: ρ) (n := n) (by omega) (by omega)
  have j29b := law_ring_ok (k + 7) (c3 :: ρ) (n := 11) (by omega) (by omega)
  have j14 := is_net_ok (k + 4) (c3 :: ρ) (B := 1000) (d := 3) (by decide) (pl_netU K.toLnk (by decide))
  rw [okNet_net K] at j14
  have j14b := is_net_ok (k + 4) (c3 :: ρ) (B := 1000) (d := 3) (u := netU (ringN 11)) (by decide) (.tup (by simp [ringN]) fun u hu => by
    obtain ⟨rw_, hw, rfl⟩ := List.mem_map.mp hu
    obtain ⟨x, _, rfl⟩ := List.mem_map.mp hw
    exact pl_row (by decide) (by simp))
  rw [ring11] at j14b
  have ml := mks_len n
  have j15 := are_marks_ok (k + 3) (c3 :: ρ) K (B := 1000) (d := 1) (by decide) (pl_lU (l := mks n) (by omega))
  rw [show okM (ringN n).length (lU (mks n)) = true from okW_lU (by omega) mks_le] at j15
  have j16 : ∀ {ds : List Nat}, ds.length ≤ 100 → (∀ d ∈ ds, d ≤ 1) → runF defs (k + 8) 16 [netU (ringN n), I h, lU ds] (c3 :: ρ) = some (lU (plcs n h ds), c3 :: ρ) := fun {ds} hl h1 => by
    have := walk_ok (k + 3) (c3 :: ρ) K hh' (ds := ds) hl fun x hx => by
      have := h1 x hx
      omega
    rw [wk_ring (by omega) ds h hh h1] at this
    exact this
  have j17 := story_ok (k + 2) (c3 :: ρ) K (M := mks n) (by omega) mks_le hh' (ds := List.replicate 100 0) (by simp) (fun x hx => by simp [List.mem_replicate] at hx; omega)
  rw [far_eq n2 hh] at j17
  have l6 := like_pl (B := 1000) (by decide) (Pl.lst (B := 1000) (d := 1) (xs := [.bl true, lU (plcs n h ds), I h, I h, .bl true, .bl false]) (by simp) fun u hu => by
    simp only [List.mem_cons, List.not_mem_nil, or_false] at hu
    rcases hu with rfl | rfl | rfl | rfl | rfl | rfl
    · exact .bl _ _
    · exact pl_lU (by rw [plcs_len]; omega)
    · exact .int _ _
    · exact .int _ _
    · exact .bl _ _
    · exact .bl _ _) (k + 4) (c3 :: ρ) (by decide)
  have lf := like_pl (B := 1000) (by decide) (far_pl n h) (k + 4) (c3 :: ρ) (by decide)
  have bn : evBin false (c1 :: ρ) .add (.int 2) (I r) = some (I n, c1 :: ρ) := by rw [hn]; rfl
  refine ⟨c3, ?_, C3⟩
  rw [run__law_great_right]
  have b : exL (runF defs (k + 8)) (ρ.length + 1) b__law_great_right [some (.ob 0), none, none, none, none, none, none, none, none, none, none, none, none] (c :: ρ) = some (.rt (.bl true) (c3 :: ρ)) := by
    unfold b__law_great_right
    refine (ex_seq (ex_set (u := I n) (μ' := c1 :: ρ) (ev_bin (u := .int 2) (v := I r) ev_int (ev_call (us := [.ob 0, I 9]) (ev_l2 (ev_var rfl) ev_int) er) bn))).trans ?_
    refine (ex_seq (ex_asg (u := .tup [netU (ringN n), I h]) (μ' := c2 :: ρ) (σ' := sG n none none none none none (some (netU (ringN n))) (some (I h)) none none) (ev_tup (ev_l2 (ev_call (us := [I n]) (ev_l1 (ev_var rfl)) j29) (ev_call (us := [.ob 0, I n]) (ev_l2 (ev_var rfl) (ev_var rfl)) eh)) (show 2 ≤ SZ by decide)) rfl)).trans ?_
    refine (ex_seq (ex_set (u := lU (mks n)) (μ' := c2 :: ρ) (marks_ring (k + 8) _ _ n10 _ _ _ _ _ _ _ _ _))).trans ?_
    refine (ex_seq (ex_set (u := lU ds) (μ' := c3 :: ρ) ed)).trans ?_
    refine (ex_seq (ex_par (us := [I h, .tup []]) (μ' := c3 :: ρ) (σ' := sG n (some (lU (mks n))) (some (lU ds)) none none none (some (netU (ringN n))) (some (I h)) (some (I h)) (some (lU []))) (ev_l2 (ev_var rfl) (ev_tup ev_lnil (by decide))) rfl)).trans ?_
    refine (ex_seq ((show exS _ _ l__law_great_right_2 _ _ = _ from ex_for (us := [lU ds]) (xs := ds.map I) (ev_l1 (ev_var rfl)) rfl).trans el)).trans ?_
    have i3 : evalE (runF defs (k + 8)) (ρ.length + 1) (.idx (.call 16 [(.var 7), (.var 8), (.bin false .mul (.tup [(.int 0)]) (.var 1))]) (.neg (.int 1))) (sG n (some (lU (mks n))) (some (lU ds)) y4' none none (some (netU (ringN n))) (some (I h)) (some (I h')) (some (lU ([] ++ plcs n h ds)))) (c3 :: ρ) = some (I h, c3 :: ρ) :=
      idx_last (l := plcs n h (List.replicate n 0)) (ev_call (us := [netU (ringN n), I h, lU (List.replicate n 0)]) (ev_lcons (ev_var rfl) (ev_l2 (ev_var rfl) (by
        have := rep_I (cal := runF defs (k + 8)) (n0 := ρ.length + 1) (σ := sG n (some (lU (mks n))) (some (lU ds)) y4' none none (some (netU (ringN n))) (some (I h)) (some (I h')) (some (lU ([] ++ plcs n h ds)))) (μ := c3 :: ρ) (a := .tup [.int 0]) (e := .var 1) (l := [0]) (m := n) (ev_tup (us := [I 0]) (ev_l1 ev_int) (show 1 ≤ SZ by decide)) (ev_var rfl) (by omega) (by decide)
        rw [rep_one] at this
        exact this))) (j16 (by simp; omega) fun d hd => by simp [List.mem_replicate] at hd; omega)) (last0 n (by omega) n2 h hh)
    have i4 : evalE (runF defs (k + 8)) (ρ.length + 1) (.idx (.call 16 [(.var 7), (.var 8), (.bin false .mul (.tup [(.int 0), (.int 1)]) (.int 50))]) (.neg (.int 1))) (sG n (some (lU (mks n))) (some (lU ds)) y4' none none (some (netU (ringN n))) (some (I h)) (some (I h')) (some (lU ([] ++ plcs n h ds)))) (c3 :: ρ) = some (I h, c3 :: ρ) :=
      idx_last (l := plcs n h (List.replicate 50 [0, 1]).flatten) (ev_call (us := [netU (ringN n), I h, lU (List.replicate 50 [0, 1]).flatten]) (ev_lcons (ev_var rfl) (ev_l2 (ev_var rfl) (rep_I (l := [0, 1]) (m := 50) (ev_tup (us := [I 0, I 1]) (ev_l2 ev_int ev_int) (show 2 ≤ SZ by decide)) ev_int (by omega) (by decide)))) (j16 (by decide) (by decide))) (last1 n (by omega) n2 h hh)
    have i6 : evalE (runF defs (k + 8)) (ρ.length + 1) (.ite (.cmp .eq (.var 1) (.int 10)) (.call 14 [(.call 29 [(.int 11)])]) (.bl false)) (sG n (some (lU (mks n))) (some (lU ds)) y4' none none (some (netU (ringN n))) (some (I h)) (some (I h')) (some (lU ([] ++ plcs n h ds)))) (c3 :: ρ) = some (.bl false, c3 :: ρ) := by
      have t := ev_cmp (cal := runF defs (k + 8)) (n0 := ρ.length + 1) (σ := sG n (some (lU (mks n))) (some (lU ds)) y4' none none (some (netU (ringN n))) (some (I h)) (some (I h')) (some (lU ([] ++ plcs n h ds)))) (μ := c3 :: ρ) (μ1 := c3 :: ρ) (a := .var 1) (b := .int 10) (op := .eq) (u := I n) (v := I 10) (ev_var rfl) ev_int eq_I
      by_cases z : n = 10
      · rw [decide_eq_true z] at t
        exact ev_iteT t rfl (ev_call (us := [netU (ringN 11)]) (ev_l1 (ev_call (us := [I 11]) (ev_l1 ev_int) j29b)) j14b)
      · rw [decide_eq_false z] at t
        exact ev_iteF t rfl ev_bl
    refine (ex_seq (ex_set (u := .lst [.bl true, lU (plcs n h ds), I h, I h, .bl true, .bl false]) (μ' := c3 :: ρ) (ev_lst (ev_lcons (ev_call (us := [netU (ringN n)]) (ev_l1 (ev_var rfl)) j14) (ev_lcons (ev_call (us := [netU (ringN n), I h, lU ds]) (ev_lcons (ev_var rfl) (ev_l2 (ev_var rfl) (ev_var rfl))) (j16 (by omega) d1)) (ev_lcons i3 (ev_lcons i4 (ev_l2 (ev_call (us := [netU (ringN n), lU (mks n)]) (ev_l2 (ev_var rfl) (ev_var rfl)) j15) i6))))) (show 6 ≤ SZ by decide)))).trans ?_
    refine (ex_seq ((ex_ifF (u := .bl false) (μ1 := c3 :: ρ) (ev_not (d := true) (ev_call (us := [.lst [.bl true, lU (plcs n h ds), I h, I h, .bl true, .bl false], .lst [.bl true, lU (plcs n h ds), I h, I h, .bl true, .bl false]]) (ev_l2 (ev_var rfl) (ev_lst (ev_lcons ev_bl (ev_lcons (ev_var rfl) (ev_lcons (ev_var rfl) (ev_lcons (ev_var rfl) (ev_l2 ev_bl ev_bl))))) (show 6 ≤ SZ by decide))) l6) rfl) rfl).trans ex_nil)).trans ?_
    refine (ex_seq (ex_set (u := farU n h) (μ' := c3 :: ρ) (ev_call (us := [netU (ringN n), lU (mks n), I h, lU (List.replicate 100 0)]) (ev_lcons (ev_var rfl) (ev_lcons (ev_var rfl) (ev_l2 (ev_var rfl) (by
        have := rep_I (cal := runF defs (k + 8)) (n0 := ρ.length + 1) (σ := [some (.ob 0), some (I n), some (lU (mks n)), some (lU ds), y4', some (.lst [.bl true, lU (plcs n h ds), I h, I h, .bl true, .bl false]), none, some (netU (ringN n)), some (I h), some (I h'), some (lU ([] ++ plcs n h ds)), none, none]) (μ := c3 :: ρ) (a := .tup [.int 0]) (e := .int 100) (l := [0]) (m := 100) (ev_tup (us := [I 0]) (ev_l1 ev_int) (show 1 ≤ SZ by decide)) ev_int (by omega) (by decide)
        rw [rep_one] at this
        exact this)))) j17))).trans ?_
    refine ex_ret (ev_call (us := [farU n h, farU n h]) (ev_l2 (ev_var rfl) (ev_addT (xs := [.tup [I (if h = 0 then 1 else 0), I 2]]) (ev_tup (us := [.tup [I (if h = 0 then 1 else 0), I 2]]) (ev_l1 (ev_tup (us := [I (if h = 0 then 1 else 0), I 2]) (ev_l2 (ev_idxT (xs := (mks n).map I) (j := (h : Int)) (ev_var rfl) (ev_var rfl) (atI_of ?_)) ev_int) (show 2 ≤ SZ by decide))) (show 1 ≤ SZ by decide)) (far_ring (k + 8) _ _ n2 _ _ _ _ _ _ _ _) (by simp; decide))) lf)
    unfold mks
    rw [List.getElem?_map, List.getElem?_map, List.getElem?_range hh]
    rfl
  exact (if_pos rfl).trans (run_rt b (fin_cut rfl (by simp)))
end
end K30

set_option Elab.async false
set_option linter.all false
set_option maxRecDepth 100000
set_option maxHeartbeats 4000000
namespace K30
open PySem L2 R
/-! ### written nets (printed by K30x.py) -/
def plB (B : Nat) : Nat → U → Bool
  | _, .non => true
  | _, .bl _ => true
  | _, .int _ => true
  | _, .str _ => true
  | d + 1, .tup xs => decide (xs.length ≤ B) && xs.all (plB B d)
  | d + 1, .lst xs => decide (xs.length ≤ B) && xs.all (plB B d)
  | _, _ => false
theorem plB_ok {B : Nat} : ∀ {d : Nat} {u : U}, plB B d u = true → Pl B d u
  | d, .non, _ => .non _
  | d, .bl _, _ => .bl _ _
  | d, .int _, _ => .int _ _
  | d, .str _, _ => .str _ _
  | d + 1, .tup xs, h => by
    simp only [plB, Bool.and_eq_true, decide_eq_true_eq, List.all_eq_true] at h
    exact .tup h.1 fun u hu => plB_ok (h.2 u hu)
  | d + 1, .lst xs, h => by
    simp only [plB, Bool.and_eq_true, decide_eq_true_eq, List.all_eq_true] at h
    exact .lst h.1 fun u hu => plB_ok (h.2 u hu)
  | _, .dk _ _, h => by simp [plB] at h
  | _, .dt _ _, h => by simp [plB] at h
  | _, .ob _, h => by simp [plB] at h
  | _, .fn _, h => by simp [plB] at h
  | _, .scr _, h => by simp [plB] at h
theorem rep_bl (μ : Mu) (b : Bool) (m : Nat) (hm : m ≤ 50) : evBin false μ .mul (.lst [.bl b]) (I m) = some (.lst (List.replicate m (.bl b)), μ) := by
  simp only [evBin, asL, cont]
  rw [if_pos ⟨by omega, by omega, by rw [Int.toNat_natCast]; simp; unfold SZ; omega⟩, Int.toNat_natCast]
  simp [R.fresh]
abbrev N5 : Net := [[(1, 0)], [(0, 0), (2, 0)], [(1, 1)]]
abbrev N6 : Net := [[(1, 0)], [(0, 0)]]
abbrev N1 : Net := [[]]
abbrev N0 : Net := [[(0, 0)]]
theorem k4 : NetOk (ringN 4) := netOkB_ok (by decide +kernel)
theorem k5 : NetOk N5 := netOkB_ok (by decide +kernel)
theorem k6 : NetOk N6 := netOkB_ok (by decide +kernel)
theorem k1 : NetOk N1 := netOkB_ok (by decide +kernel)
theorem k0 : NetOk N0 := netOkB_ok (by decide +kernel)
abbrev w5 : U := netU N5
abbrev w6 : U := netU N6
theorem wc0 (k : Nat) (μ : Mu) : runF defs (k + 8) 14 [(netU (ringN 4))] μ = some (.bl true, μ) := by
  have := is_net_ok (k + 4) μ (B := 20) (d := 5) (by decide) (plB_ok (u := (netU (ringN 4))) (by decide +kernel))
  rw [show okNet ((netU (ringN 4))) = true from by decide +kernel] at this
  exact this
theorem wc1 (k : Nat) (μ : Mu) : runF defs (k + 8) 14 [.tup [.tup [.tup [.int 1, .int 0]], .tup [.tup [.int 0, .int 1]]]] μ = some (.bl false, μ) := by
  have := is_net_ok (k + 4) μ (B := 20) (d := 5) (by decide) (plB_ok (u := .tup [.tup [.tup [.int 1, .int 0]], .tup [.tup [.int 0, .int 1]]]) (by decide +kernel))
  rw [show okNet (.tup [.tup [.tup [.int 1, .int 0]], .tup [.tup [.int 0, .int 1]]]) = false from by decide +kernel] at this
  exact this
theorem wc2 (k : Nat) (μ : Mu) : runF defs (k + 8) 16 [(netU (ringN 4)), .int 0, .tup [.int 0, .int 0, .int 1]] μ = some (.tup [.int 1, .int 2, .int 1], μ) := by
  have := walk_ok (k + 3) μ k4 (h := 0) (by decide) (ds := [0, 0, 1]) (by decide) (by decide)
  rw [show wkL (ringN 4) 0 [0, 0, 1] = some [1, 2, 1] from by decide +kernel] at this
  exact this
theorem wc3 (k : Nat) (μ : Mu) : runF defs (k + 8) 16 [w5, .int 0, .tup [.int 0, .int 0, .int 1]] μ = some (.non, μ) := by
  have := walk_ok (k + 3) μ k5 (h := 0) (by decide) (ds := [0, 0, 1]) (by decide) (by decide)
  rw [show wkL N5 0 [0, 0, 1] = none from by decide +kernel] at this
  exact this
theorem wc4 (k : Nat) (μ : Mu) : runF defs (k + 8) 16 [w5, .int 0, .tup [.int 1]] μ = some (.non, μ) := by
  have := walk_ok (k + 3) μ k5 (h := 0) (by decide) (ds := [1]) (by decide) (by decide)
  rw [show wkL N5 0 [1] = none from by decide +kernel] at this
  exact this
theorem wc5 (k : Nat) (μ : Mu) : runF defs (k + 8) 17 [w5, .tup [.int 0, .int 0, .int 0], .int 0, .tup [.int 0, .int 1]] μ = some (.tup [.tup [.int 0, .int 1], .tup [.int 0, .int 0, .int 2], .tup [.int 0, .int 0, .int 1]], μ) := by
  exact story_ok (k + 2) μ k5 (M := [0, 0, 0]) (by decide) (by decide) (h := 0) (by decide) (ds := [0, 1]) (by decide) (by decide)
theorem wc6 (k : Nat) (μ : Mu) : runF defs (k + 8) 18 [w5, .tup [.int 0, .int 0, .int 0], .int 0, .int 2, .tup [.int 0]] μ = some (.bl true, μ) := by
  have := apart_ok (k + 2) μ k5 (M := [0, 0, 0]) (by decide) (by decide) (B := 20) (d := 1) (by decide) (a := 0) (b := 2) (by decide) (by decide) (plB_ok (u := .tup [.int 0]) (by decide +kernel))
  rw [show apB N5 [0, 0, 0] 0 2 (.tup [.int 0]) = true from by decide +kernel] at this
  exact this
theorem wc7 (k : Nat) (μ : Mu) : runF defs (k + 8) 19 [w5, .tup [.int 0, .int 0, .int 0], .int 2] μ = some (.tup [.tup [.tup [.tup [.int 1, .int 1]], .tup [.tup [.int 2, .int 0], .tup [.int 0, .int 0]], .tup [.tup [.int 1, .int 0]]], .tup [.int 0, .int 0, .int 0]], μ) := by
  have := told_from_ok (k + 2) μ k5 (M := [0, 0, 0]) (by decide) (s := 2) (by decide) (by decide)
  rw [show tN N5 2 = [[(1, 1)], [(2, 0), (0, 0)], [(1, 0)]] from by decide +kernel, show tM N5 2 [0, 0, 0] = [0, 0, 0] from by decide +kernel] at this
  exact this
theorem wc8 (k : Nat) (μ : Mu) : runF defs (k + 8) 16 [w5, .int 1, .tup []] μ = some (.tup [], μ) := by
  have := walk_ok (k + 3) μ k5 (h := 1) (by decide) (ds := []) (by decide) (by decide)
  rw [show wkL N5 1 [] = some [] from by decide +kernel] at this
  exact this
theorem wc9 (k : Nat) (μ : Mu) : runF defs (k + 8) 17 [w5, .tup [.int 1, .int 2, .int 3], .int 1, .tup [.int 0, .int 0, .int 1, .int 5]] μ = some (.tup [.tup [.int 2, .int 2], .tup [.int 0, .int 1, .int 1], .tup [.int 0, .int 2, .int 2], .tup [.int 0, .int 3, .int 1], .non], μ) := by
  exact story_ok (k + 2) μ k5 (M := [1, 2, 3]) (by decide) (by decide) (h := 1) (by decide) (ds := [0, 0, 1, 5]) (by decide) (by decide)
theorem wc10 (k : Nat) (μ : Mu) : runF defs (k + 8) 18 [w5, .tup [.int 0, .int 0, .int 0], .int 0, .int 2, .tup []] μ = some (.bl false, μ) := by
  have := apart_ok (k + 2) μ k5 (M := [0, 0, 0]) (by decide) (by decide) (B := 20) (d := 1) (by decide) (a := 0) (b := 2) (by decide) (by decide) (plB_ok (u := .tup []) (by decide +kernel))
  rw [show apB N5 [0, 0, 0] 0 2 (.tup []) = false from by decide +kernel] at this
  exact this
theorem wc11 (k : Nat) (μ : Mu) : runF defs (k + 8) 18 [w5, .tup [.int 0, .int 0, .int 0], .int 1, .int 1, .tup [.int 0]] μ = some (.bl false, μ) := by
  have := apart_ok (k + 2) μ k5 (M := [0, 0, 0]) (by decide) (by decide) (B := 20) (d := 1) (by decide) (a := 1) (b := 1) (by decide) (by decide) (plB_ok (u := .tup [.int 0]) (by decide +kernel))
  rw [show apB N5 [0, 0, 0] 1 1 (.tup [.int 0]) = false from by decide +kernel] at this
  exact this
theorem wc12 (k : Nat) (μ : Mu) : runF defs (k + 8) 19 [w6, .tup [.int 7, .int 8], .int 1] μ = some (.tup [.tup [.tup [.tup [.int 1, .int 0]], .tup [.tup [.int 0, .int 0]]], .tup [.int 8, .int 7]], μ) := by
  have := told_from_ok (k + 2) μ k6 (M := [7, 8]) (by decide) (s := 1) (by decide) (by decide)
  rw [show tN N6 1 = [[(1, 0)], [(0, 0)]] from by decide +kernel, show tM N6 1 [7, 8] = [8, 7] from by decide +kernel] at this
  exact this
theorem wc13 (k : Nat) (μ : Mu) : runF defs (k + 8) 19 [.tup [.tup []], .tup [.int 9], .int 0] μ = some (.tup [.tup [.tup []], .tup [.int 9]], μ) := by
  have := told_from_ok (k + 2) μ k1 (M := [9]) (by decide) (s := 0) (by decide) (by decide)
  rw [show tN N1 0 = [[]] from by decide +kernel, show tM N1 0 [9] = [9] from by decide +kernel] at this
  exact this
theorem wc14 (k : Nat) (μ : Mu) : runF defs (k + 8) 16 [.tup [.tup [.tup [.int 0, .int 0]]], .int 0, .tup [.int 0, .int 0, .int 0, .int 0, .int 0]] μ = some (.tup [.int 0, .int 0, .int 0, .int 0, .int 0], μ) := by
  have := walk_ok (k + 3) μ k0 (h := 0) (by decide) (ds := [0, 0, 0, 0, 0]) (by decide) (by decide)
  rw [show wkL N0 0 [0, 0, 0, 0, 0] = some [0, 0, 0, 0, 0] from by decide +kernel] at this
  exact this
theorem wc15 (k : Nat) (μ : Mu) : runF defs (k + 8) 18 [w5, .tup [.int 0, .int 0, .int 0], .int 0, .int 1, .tup [.int 1]] μ = some (.bl true, μ) := by
  have := apart_ok (k + 2) μ k5 (M := [0, 0, 0]) (by decide) (by decide) (B := 20) (d := 1) (by decide) (a := 0) (b := 1) (by decide) (by decide) (plB_ok (u := .tup [.int 1]) (by decide +kernel))
  rw [show apB N5 [0, 0, 0] 0 1 (.tup [.int 1]) = true from by decide +kernel] at this
  exact this
abbrev wd1 : List U := [.bl true, .bl false, .tup [.int 1, .int 2, .int 1], .non, .non, .tup [.tup [.int 0, .int 1], .tup [.int 0, .int 0, .int 2], .tup [.int 0, .int 0, .int 1]], .bl true, .tup [.tup [.tup [.tup [.int 1, .int 1]], .tup [.tup [.int 2, .int 0], .tup [.int 0, .int 0]], .tup [.tup [.int 1, .int 0]]], .tup [.int 0, .int 0, .int 0]]]
abbrev wd2 : List U := [.tup [], .tup [.tup [.int 2, .int 2], .tup [.int 0, .int 1, .int 1], .tup [.int 0, .int 2, .int 2], .tup [.int 0, .int 3, .int 1], .non], .bl false, .bl false, .tup [.tup [.tup [.tup [.int 1, .int 0]], .tup [.tup [.int 0, .int 0]]], .tup [.int 8, .int 7]], .tup [.tup [.tup []], .tup [.int 9]], .tup [.int 0, .int 0, .int 0, .int 0, .int 0], .bl true]
abbrev wo : List U := [.non, .tup [], .lst [.tup []], .tup [.lst []], .tup [.tup [], .tup []], .tup [.tup [.tup [.int 0, .int 1]]], .tup [.tup [.tup [.int 0, .int 0]], .tup [.tup [.int 1, .int 0]]], .tup [.tup [.tup [.int 0, .int 0], .tup [.int 0, .int 0]]], .tup [.tup [.tup [.int 1, .int 0]], .tup [.tup [.int 0, .int 0], .tup [.int 1, .int 2]]], .tup [.tup [.tup [.bl true, .int 0]]], .tup [.tup [.tup [.int 0, .bl false]]], .tup [.tup [.tup [.int 0, .int 0, .int 0]]], .tup [.tup [.int 0]], .tup [.tup [.tup [.int 0, .int 0], .tup [.int 0, .int 0], .tup [.int 0, .int 0], .tup [.int 0, .int 0], .tup [.int 0, .int 0], .tup [.int 0, .int 0], .tup [.int 0, .int 0]]], .tup [.tup [], .tup [], .tup [], .tup [], .tup [], .tup [], .tup [], .tup [], .tup [], .tup [], .tup []], .tup [.tup [.tup [.int 1, .int 0]], .tup [.tup [.int 0, .int 0]], .tup []]]
abbrev wf : List U := [.tup [.tup []], w6, .tup [.tup [.tup [.int 0, .int 1], .tup [.int 0, .int 0]]], .tup [.tup [.tup [.int 0, .int 0], .tup [.int 0, .int 1], .tup [.int 0, .int 2], .tup [.int 0, .int 3], .tup [.int 0, .int 4], .tup [.int 0, .int 5]]]]
theorem rep_T {cal : Nat → List U → Mu → Option (U × Mu)} {n0 : Nat} {σ : R.Env} {μ : Mu} {a : E} {xs : List U} {m : Nat} (ha : evalE cal n0 a σ μ = some (.tup xs, μ)) (hm : m ≤ 200) (hl : xs.length ≤ 10) : evalE cal n0 (.bin false .mul a (.int m)) σ μ = some (.tup (List.replicate m xs).flatten, μ) := by
  refine ev_bm (v := I m) ha ev_int ?_
  simp only [evBin]
  have : xs.length * m ≤ 10 * 200 := Nat.mul_le_mul hl hm
  rw [if_pos ⟨by omega, by omega, by rw [Int.toNat_natCast]; unfold SZ; omega⟩, Int.toNat_natCast]
section
variable {cal : Nat → List U → Mu → Option (U × Mu)} {n0 : Nat} (σ : R.Env) (μ : Mu)
theorem ev_w5 : evalE cal n0 (.tup [(.tup [(.tup [(.int 1), (.int 0)])]), (.tup [(.tup [(.int 0), (.int 0)]), (.tup [(.int 2), (.int 0)])]), (.tup [(.tup [(.int 1), (.int 1)])])]) σ μ = some (w5, μ) := (ev_tup (us := [.tup [.tup [.int 1, .int 0]], .tup [.tup [.int 0, .int 0], .tup [.int 2, .int 0]], .tup [.tup [.int 1, .int 1]]]) (ev_lcons (ev_tup (us := [.tup [.int 1, .int 0]]) (ev_l1 (ev_tup (us := [.int 1, .int 0]) (ev_l2 ev_int ev_int) (show 2 ≤ SZ by decide))) (show 1 ≤ SZ by decide)) (ev_l2 (ev_tup (us := [.tup [.int 0, .int 0], .tup [.int 2, .int 0]]) (ev_l2 (ev_tup (us := [.int 0, .int 0]) (ev_l2 ev_int ev_int) (show 2 ≤ SZ by decide)) (ev_tup (us := [.int 2, .int 0]) (ev_l2 ev_int ev_int) (show 2 ≤ SZ by decide))) (show 2 ≤ SZ by decide)) (ev_tup (us := [.tup [.int 1, .int 1]]) (ev_l1 (ev_tup (us := [.int 1, .int 1]) (ev_l2 ev_int ev_int) (show 2 ≤ SZ by decide))) (show 1 ≤ SZ by decide)))) (show 3 ≤ SZ by decide))
theorem ev_w6 : evalE cal n0 (.tup [(.tup [(.tup [(.int 1), (.int 0)])]), (.tup [(.tup [(.int 0), (.int 0)])])]) σ μ = some (w6, μ) := (ev_tup (us := [.tup [.tup [.int 1, .int 0]], .tup [.tup [.int 0, .int 0]]]) (ev_l2 (ev_tup (us := [.tup [.int 1, .int 0]]) (ev_l1 (ev_tup (us := [.int 1, .int 0]) (ev_l2 ev_int ev_int) (show 2 ≤ SZ by decide))) (show 1 ≤ SZ by decide)) (ev_tup (us := [.tup [.int 0, .int 0]]) (ev_l1 (ev_tup (us := [.int 0, .int 0]) (ev_l2 ev_int ev_int) (show 2 ≤ SZ by decide))) (show 1 ≤ SZ by decide))) (show 2 ≤ SZ by decide))
theorem ev_d1 : evalE cal n0 (.lst false [(.bl true), (.bl false), (.tup [(.int 1), (.int 2), (.int 1)]), .non, .non, (.tup [(.tup [(.int 0), (.int 1)]), (.tup [(.int 0), (.int 0), (.int 2)]), (.tup [(.int 0), (.int 0), (.int 1)])]), (.bl true), (.tup [(.tup [(.tup [(.tup [(.int 1), (.int 1)])]), (.tup [(.tup [(.int 2), (.int 0)]), (.tup [(.int 0), (.int 0)])]), (.tup [(.tup [(.int 1), (.int 0)])])]), (.tup [(.int 0), (.int 0), (.int 0)])])]) σ μ = some (.lst wd1, μ) := (ev_lst (us := [.bl true, .bl false, .tup [.int 1, .int 2, .int 1], .non, .non, .tup [.tup [.int 0, .int 1], .tup [.int 0, .int 0, .int 2], .tup [.int 0, .int 0, .int 1]], .bl true, .tup [.tup [.tup [.tup [.int 1, .int 1]], .tup [.tup [.int 2, .int 0], .tup [.int 0, .int 0]], .tup [.tup [.int 1, .int 0]]], .tup [.int 0, .int 0, .int 0]]]) (ev_lcons ev_bl (ev_lcons ev_bl (ev_lcons (ev_tup (us := [.int 1, .int 2, .int 1]) (ev_lcons ev_int (ev_l2 ev_int ev_int)) (show 3 ≤ SZ by decide)) (ev_lcons ev_non (ev_lcons ev_non (ev_lcons (ev_tup (us := [.tup [.int 0, .int 1], .tup [.int 0, .int 0, .int 2], .tup [.int 0, .int 0, .int 1]]) (ev_lcons (ev_tup (us := [.int 0, .int 1]) (ev_l2 ev_int ev_int) (show 2 ≤ SZ by decide)) (ev_l2 (ev_tup (us := [.int 0, .int 0, .int 2]) (ev_lcons ev_int (ev_l2 ev_int ev_int)) (show 3 ≤ SZ by decide)) (ev_tup (us := [.int 0, .int 0, .int 1]) (ev_lcons ev_int (ev_l2 ev_int ev_int)) (show 3 ≤ SZ by decide)))) (show 3 ≤ SZ by decide)) (ev_l2 ev_bl (ev_tup (us := [.tup [.tup [.tup [.int 1, .int 1]], .tup [.tup [.int 2, .int 0], .tup [.int 0, .int 0]], .tup [.tup [.int 1, .int 0]]], .tup [.int 0, .int 0, .int 0]]) (ev_l2 (ev_tup (us := [.tup [.tup [.int 1, .int 1]], .tup [.tup [.int 2, .int 0], .tup [.int 0, .int 0]], .tup [.tup [.int 1, .int 0]]]) (ev_lcons (ev_tup (us := [.tup [.int 1, .int 1]]) (ev_l1 (ev_tup (us := [.int 1, .int 1]) (ev_l2 ev_int ev_int) (show 2 ≤ SZ by decide))) (show 1 ≤ SZ by decide)) (ev_l2 (ev_tup (us := [.tup [.int 2, .int 0], .tup [.int 0, .int 0]]) (ev_l2 (ev_tup (us := [.int 2, .int 0]) (ev_l2 ev_int ev_int) (show 2 ≤ SZ by decide)) (ev_tup (us := [.int 0, .int 0]) (ev_l2 ev_int ev_int) (show 2 ≤ SZ by decide))) (show 2 ≤ SZ by decide)) (ev_tup (us := [.tup [.int 1, .int 0]]) (ev_l1 (ev_tup (us := [.int 1, .int 0]) (ev_l2 ev_int ev_int) (show 2 ≤ SZ by decide))) (show 1 ≤ SZ by decide)))) (show 3 ≤ SZ by decide)) (ev_tup (us := [.int 0, .int 0, .int 0]) (ev_lcons ev_int (ev_l2 ev_int ev_int)) (show 3 ≤ SZ by decide))) (show 2 ≤ SZ by decide))))))))) (show 8 ≤ SZ by decide))
theorem ev_d2 : evalE cal n0 (.lst false [(.tup []), (.tup [(.tup [(.int 2), (.int 2)]), (.tup [(.int 0), (.int 1), (.int 1)]), (.tup [(.int 0), (.int 2), (.int 2)]), (.tup [(.int 0), (.int 3), (.int 1)]), .non]), (.bl false), (.bl false), (.tup [(.tup [(.tup [(.tup [(.int 1), (.int 0)])]), (.tup [(.tup [(.int 0), (.int 0)])])]), (.tup [(.int 8), (.int 7)])]), (.tup [(.tup [(.tup [])]), (.tup [(.int 9)])]), (.bin false .mul (.tup [(.int 0)]) (.int 5)), (.bl true)]) σ μ = some (.lst wd2, μ) := (ev_lst (us := [.tup [], .tup [.tup [.int 2, .int 2], .tup [.int 0, .int 1, .int 1], .tup [.int 0, .int 2, .int 2], .tup [.int 0, .int 3, .int 1], .non], .bl false, .bl false, .tup [.tup [.tup [.tup [.int 1, .int 0]], .tup [.tup [.int 0, .int 0]]], .tup [.int 8, .int 7]], .tup [.tup [.tup []], .tup [.int 9]], .tup [.int 0, .int 0, .int 0, .int 0, .int 0], .bl true]) (ev_lcons (ev_tup (us := []) ev_lnil (show 0 ≤ SZ by decide)) (ev_lcons (ev_tup (us := [.tup [.int 2, .int 2], .tup [.int 0, .int 1, .int 1], .tup [.int 0, .int 2, .int 2], .tup [.int 0, .int 3, .int 1], .non]) (ev_lcons (ev_tup (us := [.int 2, .int 2]) (ev_l2 ev_int ev_int) (show 2 ≤ SZ by decide)) (ev_lcons (ev_tup (us := [.int 0, .int 1, .int 1]) (ev_lcons ev_int (ev_l2 ev_int ev_int)) (show 3 ≤ SZ by decide)) (ev_lcons (ev_tup (us := [.int 0, .int 2, .int 2]) (ev_lcons ev_int (ev_l2 ev_int ev_int)) (show 3 ≤ SZ by decide)) (ev_l2 (ev_tup (us := [.int 0, .int 3, .int 1]) (ev_lcons ev_int (ev_l2 ev_int ev_int)) (show 3 ≤ SZ by decide)) ev_non)))) (show 5 ≤ SZ by decide)) (ev_lcons ev_bl (ev_lcons ev_bl (ev_lcons (ev_tup (us := [.tup [.tup [.tup [.int 1, .int 0]], .tup [.tup [.int 0, .int 0]]], .tup [.int 8, .int 7]]) (ev_l2 (ev_tup (us := [.tup [.tup [.int 1, .int 0]], .tup [.tup [.int 0, .int 0]]]) (ev_l2 (ev_tup (us := [.tup [.int 1, .int 0]]) (ev_l1 (ev_tup (us := [.int 1, .int 0]) (ev_l2 ev_int ev_int) (show 2 ≤ SZ by decide))) (show 1 ≤ SZ by decide)) (ev_tup (us := [.tup [.int 0, .int 0]]) (ev_l1 (ev_tup (us := [.int 0, .int 0]) (ev_l2 ev_int ev_int) (show 2 ≤ SZ by decide))) (show 1 ≤ SZ by decide))) (show 2 ≤ SZ by decide)) (ev_tup (us := [.int 8, .int 7]) (ev_l2 ev_int ev_int) (show 2 ≤ SZ by decide))) (show 2 ≤ SZ by decide)) (ev_lcons (ev_tup (us := [.tup [.tup []], .tup [.int 9]]) (ev_l2 (ev_tup (us := [.tup []]) (ev_l1 (ev_tup (us := []) ev_lnil (show 0 ≤ SZ by decide))) (show 1 ≤ SZ by decide)) (ev_tup (us := [.int 9]) (ev_l1 ev_int) (show 1 ≤ SZ by decide))) (show 2 ≤ SZ by decide)) (ev_l2 (rep_T (xs := [.int 0]) (m := 5) (ev_tup (us := [.int 0]) (ev_l1 ev_int) (show 1 ≤ SZ by decide)) (by decide) (by decide)) ev_bl))))))) (show 8 ≤ SZ by decide))
theorem ev_o : evalE cal n0 (.lst false [.non, (.tup []), (.lst false [(.tup [])]), (.tup [(.lst false [])]), (.tup [(.tup []), (.tup [])]), (.tup [(.tup [(.tup [(.int 0), (.int 1)])])]), (.tup [(.tup [(.tup [(.int 0), (.int 0)])]), (.tup [(.tup [(.int 1), (.int 0)])])]), (.tup [(.tup [(.tup [(.int 0), (.int 0)]), (.tup [(.int 0), (.int 0)])])]), (.tup [(.tup [(.tup [(.int 1), (.int 0)])]), (.tup [(.tup [(.int 0), (.int 0)]), (.tup [(.int 1), (.int 2)])])]), (.tup [(.tup [(.tup [(.bl true), (.int 0)])])]), (.tup [(.tup [(.tup [(.int 0), (.bl false)])])]), (.tup [(.tup [(.tup [(.int 0), (.int 0), (.int 0)])])]), (.tup [(.tup [(.int 0)])]), (.tup [(.bin false .mul (.tup [(.tup [(.int 0), (.int 0)])]) (.int 7))]), (.bin false .mul (.tup [(.tup [])]) (.int 11)), (.tup [(.tup [(.tup [(.int 1), (.int 0)])]), (.tup [(.tup [(.int 0), (.int 0)])]), (.tup [])])]) σ μ = some (.lst wo, μ) := (ev_lst (us := [.non, .tup [], .lst [.tup []], .tup [.lst []], .tup [.tup [], .tup []], .tup [.tup [.tup [.int 0, .int 1]]], .tup [.tup [.tup [.int 0, .int 0]], .tup [.tup [.int 1, .int 0]]], .tup [.tup [.tup [.int 0, .int 0], .tup [.int 0, .int 0]]], .tup [.tup [.tup [.int 1, .int 0]], .tup [.tup [.int 0, .int 0], .tup [.int 1, .int 2]]], .tup [.tup [.tup [.bl true, .int 0]]], .tup [.tup [.tup [.int 0, .bl false]]], .tup [.tup [.tup [.int 0, .int 0, .int 0]]], .tup [.tup [.int 0]], .tup [.tup [.tup [.int 0, .int 0], .tup [.int 0, .int 0], .tup [.int 0, .int 0], .tup [.int 0, .int 0], .tup [.int 0, .int 0], .tup [.int 0, .int 0], .tup [.int 0, .int 0]]], .tup [.tup [], .tup [], .tup [], .tup [], .tup [], .tup [], .tup [], .tup [], .tup [], .tup [], .tup []], .tup [.tup [.tup [.int 1, .int 0]], .tup [.tup [.int 0, .int 0]], .tup []]]) (ev_lcons ev_non (ev_lcons (ev_tup (us := []) ev_lnil (show 0 ≤ SZ by decide)) (ev_lcons (ev_lst (us := [.tup []]) (ev_l1 (ev_tup (us := []) ev_lnil (show 0 ≤ SZ by decide))) (show 1 ≤ SZ by decide)) (ev_lcons (ev_tup (us := [.lst []]) (ev_l1 (ev_lst (us := []) ev_lnil (show 0 ≤ SZ by decide))) (show 1 ≤ SZ by decide)) (ev_lcons (ev_tup (us := [.tup [], .tup []]) (ev_l2 (ev_tup (us := []) ev_lnil (show 0 ≤ SZ by decide)) (ev_tup (us := []) ev_lnil (show 0 ≤ SZ by decide))) (show 2 ≤ SZ by decide)) (ev_lcons (ev_tup (us := [.tup [.tup [.int 0, .int 1]]]) (ev_l1 (ev_tup (us := [.tup [.int 0, .int 1]]) (ev_l1 (ev_tup (us := [.int 0, .int 1]) (ev_l2 ev_int ev_int) (show 2 ≤ SZ by decide))) (show 1 ≤ SZ by decide))) (show 1 ≤ SZ by decide)) (ev_lcons (ev_tup (us := [.tup [.tup [.int 0, .int 0]], .tup [.tup [.int 1, .int 0]]]) (ev_l2 (ev_tup (us := [.tup [.int 0, .int 0]]) (ev_l1 (ev_tup (us := [.int 0, .int 0]) (ev_l2 ev_int ev_int) (show 2 ≤ SZ by decide))) (show 1 ≤ SZ by decide)) (ev_tup (us := [.tup [.int 1, .int 0]]) (ev_l1 (ev_tup (us := [.int 1, .int 0]) (ev_l2 ev_int ev_int) (show 2 ≤ SZ by decide))) (show 1 ≤ SZ by decide))) (show 2 ≤ SZ by decide)) (ev_lcons (ev_tup (us := [.tup [.tup [.int 0, .int 0], .tup [.int 0, .int 0]]]) (ev_l1 (ev_tup (us := [.tup [.int 0, .int 0], .tup [.int 0, .int 0]]) (ev_l2 (ev_tup (us := [.int 0, .int 0]) (ev_l2 ev_int ev_int) (show 2 ≤ SZ by decide)) (ev_tup (us := [.int 0, .int 0]) (ev_l2 ev_int ev_int) (show 2 ≤ SZ by decide))) (show 2 ≤ SZ by decide))) (show 1 ≤ SZ by decide)) (ev_lcons (ev_tup (us := [.tup [.tup [.int 1, .int 0]], .tup [.tup [.int 0, .int 0], .tup [.int 1, .int 2]]]) (ev_l2 (ev_tup (us := [.tup [.int 1, .int 0]]) (ev_l1 (ev_tup (us := [.int 1, .int 0]) (ev_l2 ev_int ev_int) (show 2 ≤ SZ by decide))) (show 1 ≤ SZ by decide)) (ev_tup (us := [.tup [.int 0, .int 0], .tup [.int 1, .int 2]]) (ev_l2 (ev_tup (us := [.int 0, .int 0]) (ev_l2 ev_int ev_int) (show 2 ≤ SZ by decide)) (ev_tup (us := [.int 1, .int 2]) (ev_l2 ev_int ev_int) (show 2 ≤ SZ by decide))) (show 2 ≤ SZ by decide))) (show 2 ≤ SZ by decide)) (ev_lcons (ev_tup (us := [.tup [.tup [.bl true, .int 0]]]) (ev_l1 (ev_tup (us := [.tup [.bl true, .int 0]]) (ev_l1 (ev_tup (us := [.bl true, .int 0]) (ev_l2 ev_bl ev_int) (show 2 ≤ SZ by decide))) (show 1 ≤ SZ by decide))) (show 1 ≤ SZ by decide)) (ev_lcons (ev_tup (us := [.tup [.tup [.int 0, .bl false]]]) (ev_l1 (ev_tup (us := [.tup [.int 0, .bl false]]) (ev_l1 (ev_tup (us := [.int 0, .bl false]) (ev_l2 ev_int ev_bl) (show 2 ≤ SZ by decide))) (show 1 ≤ SZ by decide))) (show 1 ≤ SZ by decide)) (ev_lcons (ev_tup (us := [.tup [.tup [.int 0, .int 0, .int 0]]]) (ev_l1 (ev_tup (us := [.tup [.int 0, .int 0, .int 0]]) (ev_l1 (ev_tup (us := [.int 0, .int 0, .int 0]) (ev_lcons ev_int (ev_l2 ev_int ev_int)) (show 3 ≤ SZ by decide))) (show 1 ≤ SZ by decide))) (show 1 ≤ SZ by decide)) (ev_lcons (ev_tup (us := [.tup [.int 0]]) (ev_l1 (ev_tup (us := [.int 0]) (ev_l1 ev_int) (show 1 ≤ SZ by decide))) (show 1 ≤ SZ by decide)) (ev_lcons (ev_tup (us := [.tup [.tup [.int 0, .int 0], .tup [.int 0, .int 0], .tup [.int 0, .int 0], .tup [.int 0, .int 0], .tup [.int 0, .int 0], .tup [.int 0, .int 0], .tup [.int 0, .int 0]]]) (ev_l1 (rep_T (xs := [.tup [.int 0, .int 0]]) (m := 7) (ev_tup (us := [.tup [.int 0, .int 0]]) (ev_l1 (ev_tup (us := [.int 0, .int 0]) (ev_l2 ev_int ev_int) (show 2 ≤ SZ by decide))) (show 1 ≤ SZ by decide)) (by decide) (by decide))) (show 1 ≤ SZ by decide)) (ev_l2 (rep_T (xs := [.tup []]) (m := 11) (ev_tup (us := [.tup []]) (ev_l1 (ev_tup (us := []) ev_lnil (show 0 ≤ SZ by decide))) (show 1 ≤ SZ by decide)) (by decide) (by decide)) (ev_tup (us := [.tup [.tup [.int 1, .int 0]], .tup [.tup [.int 0, .int 0]], .tup []]) (ev_lcons (ev_tup (us := [.tup [.int 1, .int 0]]) (ev_l1 (ev_tup (us := [.int 1, .int 0]) (ev_l2 ev_int ev_int) (show 2 ≤ SZ by decide))) (show 1 ≤ SZ by decide)) (ev_l2 (ev_tup (us := [.tup [.int 0, .int 0]]) (ev_l1 (ev_tup (us := [.int 0, .int 0]) (ev_l2 ev_int ev_int) (show 2 ≤ SZ by decide))) (show 1 ≤ SZ by decide)) (ev_tup (us := []) ev_lnil (show 0 ≤ SZ by decide)))) (show 3 ≤ SZ by decide))))))))))))))))) (show 16 ≤ SZ by decide))
theorem ev_f (h : σ[6]? = some (some w6)) : evalE cal n0 (.lst false [(.tup [(.tup [])]), (.var 6), (.tup [(.tup [(.tup [(.int 0), (.int 1)]), (.tup [(.int 0), (.int 0)])])]), (.tup [(.tup [(.tup [(.int 0), (.int 0)]), (.tup [(.int 0), (.int 1)]), (.tup [(.int 0), (.int 2)]), (.tup [(.int 0), (.int 3)]), (.tup [(.int 0), (.int 4)]), (.tup [(.int 0), (.int 5)])])])]) σ μ = some (.lst wf, μ) := (ev_lst (us := [.tup [.tup []], w6, .tup [.tup [.tup [.int 0, .int 1], .tup [.int 0, .int 0]]], .tup [.tup [.tup [.int 0, .int 0], .tup [.int 0, .int 1], .tup [.int 0, .int 2], .tup [.int 0, .int 3], .tup [.int 0, .int 4], .tup [.int 0, .int 5]]]]) (ev_lcons (ev_tup (us := [.tup []]) (ev_l1 (ev_tup (us := []) ev_lnil (show 0 ≤ SZ by decide))) (show 1 ≤ SZ by decide)) (ev_lcons (ev_var h) (ev_l2 (ev_tup (us := [.tup [.tup [.int 0, .int 1], .tup [.int 0, .int 0]]]) (ev_l1 (ev_tup (us := [.tup [.int 0, .int 1], .tup [.int 0, .int 0]]) (ev_l2 (ev_tup (us := [.int 0, .int 1]) (ev_l2 ev_int ev_int) (show 2 ≤ SZ by decide)) (ev_tup (us := [.int 0, .int 0]) (ev_l2 ev_int ev_int) (show 2 ≤ SZ by decide))) (show 2 ≤ SZ by decide))) (show 1 ≤ SZ by decide)) (ev_tup (us := [.tup [.tup [.int 0, .int 0], .tup [.int 0, .int 1], .tup [.int 0, .int 2], .tup [.int 0, .int 3], .tup [.int 0, .int 4], .tup [.int 0, .int 5]]]) (ev_l1 (ev_tup (us := [.tup [.int 0, .int 0], .tup [.int 0, .int 1], .tup [.int 0, .int 2], .tup [.int 0, .int 3], .tup [.int 0, .int 4], .tup [.int 0, .int 5]]) (ev_lcons (ev_tup (us := [.int 0, .int 0]) (ev_l2 ev_int ev_int) (show 2 ≤ SZ by decide)) (ev_lcons (ev_tup (us := [.int 0, .int 1]) (ev_l2 ev_int ev_int) (show 2 ≤ SZ by decide)) (ev_lcons (ev_tup (us := [.int 0, .int 2]) (ev_l2 ev_int ev_int) (show 2 ≤ SZ by decide)) (ev_lcons (ev_tup (us := [.int 0, .int 3]) (ev_l2 ev_int ev_int) (show 2 ≤ SZ by decide)) (ev_l2 (ev_tup (us := [.int 0, .int 4]) (ev_l2 ev_int ev_int) (show 2 ≤ SZ by decide)) (ev_tup (us := [.int 0, .int 5]) (ev_l2 ev_int ev_int) (show 2 ≤ SZ by decide))))))) (show 6 ≤ SZ by decide))) (show 1 ≤ SZ by decide))))) (show 4 ≤ SZ by decide))
end
theorem ev_t1 (k : Nat) {n0 : Nat} (σ : R.Env) (μ : Mu) (h4 : σ[4]? = some (some (netU (ringN 4)))) (h5 : σ[5]? = some (some w5)) (h6 : σ[6]? = some (some w6)) : evalE (runF defs (k + 8)) n0 (.lst false [(.call 14 [(.var 4)]), (.call 14 [(.tup [(.tup [(.tup [(.int 1), (.int 0)])]), (.tup [(.tup [(.int 0), (.int 1)])])])]), (.call 16 [(.var 4), (.int 0), (.tup [(.int 0), (.int 0), (.int 1)])]), (.call 16 [(.var 5), (.int 0), (.tup [(.int 0), (.int 0), (.int 1)])]), (.call 16 [(.var 5), (.int 0), (.tup [(.int 1)])]), (.call 17 [(.var 5), (.tup [(.int 0), (.int 0), (.int 0)]), (.int 0), (.tup [(.int 0), (.int 1)])]), (.call 18 [(.var 5), (.tup [(.int 0), (.int 0), (.int 0)]), (.int 0), (.int 2), (.tup [(.int 0)])]), (.call 19 [(.var 5), (.tup [(.int 0), (.int 0), (.int 0)]), (.int 2)])]) σ μ = some (.lst wd1, μ) := ev_lst (us := wd1) (ev_lcons (ev_call (us := [(netU (ringN 4))]) (ev_l1 (ev_var h4)) (wc0 k μ)) (ev_lcons (ev_call (us := [.tup [.tup [.tup [.int 1, .int 0]], .tup [.tup [.int 0, .int 1]]]]) (ev_l1 (ev_tup (us := [.tup [.tup [.int 1, .int 0]], .tup [.tup [.int 0, .int 1]]]) (ev_l2 (ev_tup (us := [.tup [.int 1, .int 0]]) (ev_l1 (ev_tup (us := [.int 1, .int 0]) (ev_l2 ev_int ev_int) (show 2 ≤ SZ by decide))) (show 1 ≤ SZ by decide)) (ev_tup (us := [.tup [.int 0, .int 1]]) (ev_l1 (ev_tup (us := [.int 0, .int 1]) (ev_l2 ev_int ev_int) (show 2 ≤ SZ by decide))) (show 1 ≤ SZ by decide))) (show 2 ≤ SZ by decide))) (wc1 k μ)) (ev_lcons (ev_call (us := [(netU (ringN 4)), .int 0, .tup [.int 0, .int 0, .int 1]]) (ev_lcons (ev_var h4) (ev_l2 ev_int (ev_tup (us := [.int 0, .int 0, .int 1]) (ev_lcons ev_int (ev_l2 ev_int ev_int)) (show 3 ≤ SZ by decide)))) (wc2 k μ)) (ev_lcons (ev_call (us := [w5, .int 0, .tup [.int 0, .int 0, .int 1]]) (ev_lcons (ev_var h5) (ev_l2 ev_int (ev_tup (us := [.int 0, .int 0, .int 1]) (ev_lcons ev_int (ev_l2 ev_int ev_int)) (show 3 ≤ SZ by decide)))) (wc3 k μ)) (ev_lcons (ev_call (us := [w5, .int 0, .tup [.int 1]]) (ev_lcons (ev_var h5) (ev_l2 ev_int (ev_tup (us := [.int 1]) (ev_l1 ev_int) (show 1 ≤ SZ by decide)))) (wc4 k μ)) (ev_lcons (ev_call (us := [w5, .tup [.int 0, .int 0, .int 0], .int 0, .tup [.int 0, .int 1]]) (ev_lcons (ev_var h5) (ev_lcons (ev_tup (us := [.int 0, .int 0, .int 0]) (ev_lcons ev_int (ev_l2 ev_int ev_int)) (show 3 ≤ SZ by decide)) (ev_l2 ev_int (ev_tup (us := [.int 0, .int 1]) (ev_l2 ev_int ev_int) (show 2 ≤ SZ by decide))))) (wc5 k μ)) (ev_l2 (ev_call (us := [w5, .tup [.int 0, .int 0, .int 0], .int 0, .int 2, .tup [.int 0]]) (ev_lcons (ev_var h5) (ev_lcons (ev_tup (us := [.int 0, .int 0, .int 0]) (ev_lcons ev_int (ev_l2 ev_int ev_int)) (show 3 ≤ SZ by decide)) (ev_lcons ev_int (ev_l2 ev_int (ev_tup (us := [.int 0]) (ev_l1 ev_int) (show 1 ≤ SZ by decide)))))) (wc6 k μ)) (ev_call (us := [w5, .tup [.int 0, .int 0, .int 0], .int 2]) (ev_lcons (ev_var h5) (ev_l2 (ev_tup (us := [.int 0, .int 0, .int 0]) (ev_lcons ev_int (ev_l2 ev_int ev_int)) (show 3 ≤ SZ by decide)) ev_int)) (wc7 k μ))))))))) (show 8 ≤ SZ by decide)
theorem ev_t2 (k : Nat) {n0 : Nat} (σ : R.Env) (μ : Mu) (h4 : σ[4]? = some (some (netU (ringN 4)))) (h5 : σ[5]? = some (some w5)) (h6 : σ[6]? = some (some w6)) : evalE (runF defs (k + 8)) n0 (.lst false [(.call 16 [(.var 5), (.int 1), (.tup [])]), (.call 17 [(.var 5), (.tup [(.int 1), (.int 2), (.int 3)]), (.int 1), (.tup [(.int 0), (.int 0), (.int 1), (.int 5)])]), (.call 18 [(.var 5), (.tup [(.int 0), (.int 0), (.int 0)]), (.int 0), (.int 2), (.tup [])]), (.call 18 [(.var 5), (.tup [(.int 0), (.int 0), (.int 0)]), (.int 1), (.int 1), (.tup [(.int 0)])]), (.call 19 [(.var 6), (.tup [(.int 7), (.int 8)]), (.int 1)]), (.call 19 [(.tup [(.tup [])]), (.tup [(.int 9)]), (.int 0)]), (.call 16 [(.tup [(.tup [(.tup [(.int 0), (.int 0)])])]), (.int 0), (.bin false .mul (.tup [(.int 0)]) (.int 5))]), (.call 18 [(.var 5), (.tup [(.int 0), (.int 0), (.int 0)]), (.int 0), (.int 1), (.tup [(.int 1)])])]) σ μ = some (.lst wd2, μ) := ev_lst (us := wd2) (ev_lcons (ev_call (us := [w5, .int 1, .tup []]) (ev_lcons (ev_var h5) (ev_l2 ev_int (ev_tup (us := []) ev_lnil (show 0 ≤ SZ by decide)))) (wc8 k μ)) (ev_lcons (ev_call (us := [w5, .tup [.int 1, .int 2, .int 3], .int 1, .tup [.int 0, .int 0, .int 1, .int 5]]) (ev_lcons (ev_var h5) (ev_lcons (ev_tup (us := [.int 1, .int 2, .int 3]) (ev_lcons ev_int (ev_l2 ev_int ev_int)) (show 3 ≤ SZ by decide)) (ev_l2 ev_int (ev_tup (us := [.int 0, .int 0, .int 1, .int 5]) (ev_lcons ev_int (ev_lcons ev_int (ev_l2 ev_int ev_int))) (show 4 ≤ SZ by decide))))) (wc9 k μ)) (ev_lcons (ev_call (us := [w5, .tup [.int 0, .int 0, .int 0], .int 0, .int 2, .tup []]) (ev_lcons (ev_var h5) (ev_lcons (ev_tup (us := [.int 0, .int 0, .int 0]) (ev_lcons ev_int (ev_l2 ev_int ev_int)) (show 3 ≤ SZ by decide)) (ev_lcons ev_int (ev_l2 ev_int (ev_tup (us := []) ev_lnil (show 0 ≤ SZ by decide)))))) (wc10 k μ)) (ev_lcons (ev_call (us := [w5, .tup [.int 0, .int 0, .int 0], .int 1, .int 1, .tup [.int 0]]) (ev_lcons (ev_var h5) (ev_lcons (ev_tup (us := [.int 0, .int 0, .int 0]) (ev_lcons ev_int (ev_l2 ev_int ev_int)) (show 3 ≤ SZ by decide)) (ev_lcons ev_int (ev_l2 ev_int (ev_tup (us := [.int 0]) (ev_l1 ev_int) (show 1 ≤ SZ by decide)))))) (wc11 k μ)) (ev_lcons (ev_call (us := [w6, .tup [.int 7, .int 8], .int 1]) (ev_lcons (ev_var h6) (ev_l2 (ev_tup (us := [.int 7, .int 8]) (ev_l2 ev_int ev_int) (show 2 ≤ SZ by decide)) ev_int)) (wc12 k μ)) (ev_lcons (ev_call (us := [.tup [.tup []], .tup [.int 9], .int 0]) (ev_lcons (ev_tup (us := [.tup []]) (ev_l1 (ev_tup (us := []) ev_lnil (show 0 ≤ SZ by decide))) (show 1 ≤ SZ by decide)) (ev_l2 (ev_tup (us := [.int 9]) (ev_l1 ev_int) (show 1 ≤ SZ by decide)) ev_int)) (wc13 k μ)) (ev_l2 (ev_call (us := [.tup [.tup [.tup [.int 0, .int 0]]], .int 0, .tup [.int 0, .int 0, .int 0, .int 0, .int 0]]) (ev_lcons (ev_tup (us := [.tup [.tup [.int 0, .int 0]]]) (ev_l1 (ev_tup (us := [.tup [.int 0, .int 0]]) (ev_l1 (ev_tup (us := [.int 0, .int 0]) (ev_l2 ev_int ev_int) (show 2 ≤ SZ by decide))) (show 1 ≤ SZ by decide))) (show 1 ≤ SZ by decide)) (ev_l2 ev_int (rep_T (xs := [.int 0]) (m := 5) (ev_tup (us := [.int 0]) (ev_l1 ev_int) (show 1 ≤ SZ by decide)) (by decide) (by decide)))) (wc14 k μ)) (ev_call (us := [w5, .tup [.int 0, .int 0, .int 0], .int 0, .int 1, .tup [.int 1]]) (ev_lcons (ev_var h5) (ev_lcons (ev_tup (us := [.int 0, .int 0, .int 0]) (ev_lcons ev_int (ev_l2 ev_int ev_int)) (show 3 ≤ SZ by decide)) (ev_lcons ev_int (ev_l2 ev_int (ev_tup (us := [.int 1]) (ev_l1 ev_int) (show 1 ≤ SZ by decide)))))) (wc15 k μ))))))))) (show 8 ≤ SZ by decide)
theorem wd_pl : Pl 20 6 (.lst (wd1 ++ wd2)) := plB_ok (by decide +kernel)
theorem of_pl : ∀ u ∈ wf ++ wo, Pl 20 5 u := fun u hu => plB_ok (List.all_eq_true.mp (show (wf ++ wo).all (plB 20 5) = true by decide +kernel) u hu)
theorem of_ok : (wf ++ wo).map okNet = List.replicate 4 true ++ List.replicate 16 false := by decide +kernel
end K30

set_option Elab.async false
set_option linter.all false
set_option maxRecDepth 100000
set_option maxHeartbeats 4000000
namespace K30
open PySem L2 R
/-! ### the judge of written nets, and the law -/
theorem written_ok (k : Nat) (μ : Mu) : runF defs (k + 9) 43 [] μ = some (.bl true, μ) := by
  have j29 := law_ring_ok (k + 7) μ (n := 4) (by decide) (by decide)
  have l1 := like_pl (B := 20) (by decide) wd_pl k μ (by decide)
  have l2 := like_pl (B := 20) (by decide) (Pl.lst (B := 20) (d := 5) (xs := (List.replicate 4 true ++ List.replicate 16 false).map U.bl) (by decide) fun u hu => by
    obtain ⟨b, _, rfl⟩ := List.mem_map.mp hu
    exact .bl _ _) k μ (by decide)
  rw [run__law_written_right]
  have b : exL (runF defs (k + 8)) μ.length b__law_written_right [none, none, none, none, none, none, none, none] μ = some (.rt (.bl true) μ) := by
    unfold b__law_written_right
    refine (ex_seq (ex_par (us := [netU (ringN 4), w5, w6]) (μ' := μ) (σ' := [none, none, none, none, some (netU (ringN 4)), some w5, some w6, none]) (ev_lcons (ev_call (us := [I 4]) (ev_l1 ev_int) j29) (ev_l2 (ev_w5 _ _) (ev_w6 _ _))) rfl)).trans ?_
    refine (ex_seq (ex_set (u := .lst wd1) (μ' := μ) (ev_t1 k _ _ rfl rfl rfl))).trans ?_
    refine (ex_seq (ex_set (u := .lst (wd1 ++ wd2)) (μ' := μ) (ev_addL (xs := wd1) (ys := wd2) (ev_var rfl) (ev_t2 k _ _ rfl rfl rfl) (show 16 ≤ SZ by decide)))).trans ?_
    refine (ex_seq (ex_set (u := .lst wd1) (μ' := μ) (ev_d1 _ _))).trans ?_
    refine (ex_seq (ex_set (u := .lst (wd1 ++ wd2)) (μ' := μ) (ev_addL (xs := wd1) (ys := wd2) (ev_var rfl) (ev_d2 _ _) (show 16 ≤ SZ by decide)))).trans ?_
    refine (ex_seq ((ex_ifF (u := .bl false) (μ1 := μ) (ev_not (d := true) (ev_call (us := [.lst (wd1 ++ wd2), .lst (wd1 ++ wd2)]) (ev_l2 (ev_var rfl) (ev_var rfl)) l1) rfl) rfl).trans ex_nil)).trans ?_
    refine (ex_seq (ex_set (u := .lst wo) (μ' := μ) (ev_o _ _))).trans ?_
    refine (ex_seq (ex_set (u := .lst wf) (μ' := μ) (ev_f _ _ rfl))).trans ?_
    refine ex_ret (ev_call (us := [.lst ((List.replicate 4 true ++ List.replicate 16 false).map U.bl), .lst ((List.replicate 4 true ++ List.replicate 16 false).map U.bl)]) (ev_l2 (μ1 := μ) ?_ ?_) l2)
    · rw [← of_ok, List.map_map]
      refine (ev_comp (us := [.lst (wf ++ wo)]) (μ1 := μ) (xs := wf ++ wo) (ev_l1 (ev_addL (xs := wf) (ys := wo) (ev_var rfl) (ev_var rfl) (show 20 ≤ SZ by decide))) rfl ?_).trans rfl
      have := compL_all (step := cstep (runF defs (k + 8)) μ.length (.slot 7) (.bl true) (.call 14 [(.var 7)]) [7] [some (.lst (wd1 ++ wd2)), some (.lst (wd1 ++ wd2)), some (.lst wo), some (.lst wf), some (netU (ringN 4)), some w5, some w6, none]) (enc := id) (g := fun u => U.bl (okNet u)) (μ := μ) (xs := wf ++ wo) (acc := []) (fun u hu => cs_yes rfl (ev_call (us := [u]) (ev_l1 (ev_var rfl)) (is_net_ok (k + 4) μ (by decide) (of_pl u hu)))) (by decide)
      rw [List.map_id] at this
      exact this
    · refine (ev_addL (xs := List.replicate 4 (.bl true)) (ys := List.replicate 16 (.bl false)) (ev_bm (u := .lst [.bl true]) (v := I 4) (ev_lst (ev_l1 ev_bl) (by decide)) (ev_bi (us := [.lst wf]) (ev_l1 (ev_var rfl)) rfl) (rep_bl _ _ _ (by decide))) (ev_bm (u := .lst [.bl false]) (v := I 16) (ev_lst (ev_l1 ev_bl) (by decide)) (ev_bi (us := [.lst wo]) (ev_l1 (ev_var rfl)) rfl) (rep_bl _ _ _ (by decide))) (by decide)).trans rfl
  exact (if_pos rfl).trans (run_rt b (fin_cut rfl (by simp)))
abbrev sW (ns : List Int) (y2 y3 : Option U) : R.Env := [some (.scr ns), some (.ob 0), y2, y3]
theorem law_turn {ns : List Int} {c : U} (C : Cup c) (i : U) (y2 y3 : Option U) :
    ∃ y3' c', fstep (runF defs 99) 0 (.slot 2) lb_law_0 i (sW ns y2 y3) [c] = some (.nx (sW ns (some i) y3') [c']) ∧ Cup c' := by
  obtain ⟨r, c1, er, hr, C1⟩ := roll_ok 98 [] C (many := 7) (by omega) (by omega)
  obtain ⟨c2, N, en, C2, K, nl⟩ := net_ok 95 [] (n := 1 + r) C1 (by omega) (by omega)
  obtain ⟨mw, c3, em, hm, C3⟩ := some_ok 97 [] C2 (u := .lst [I 1, I 2, I 10]) (xs := [I 1, I 2, I 10]) (.inl rfl) (fun _ => trivial) (by simp) (by simp) fun x hx c' => by
    simp only [List.mem_cons, List.not_mem_nil, or_false] at hx
    rcases hx with rfl | rfl | rfl <;> rfl
  obtain ⟨many, h1, h10, rfl⟩ : ∃ m, 1 ≤ m ∧ m ≤ 10 ∧ mw = I m := by
    simp only [List.mem_cons, List.not_mem_nil, or_false] at hm
    rcases hm with rfl | rfl | rfl
    · exact ⟨1, by omega, by omega, rfl⟩
    · exact ⟨2, by omega, by omega, rfl⟩
    · exact ⟨10, by omega, by omega, rfl⟩
  obtain ⟨c4, M, eM, C4, ml, m9⟩ := marks_lot 97 [] (n := N.length) C3 h1 (by omega) (by omega)
  obtain ⟨c5, ej, C5⟩ := right_ok 90 [] K ml (fun x hx => by have := m9 x hx; omega) C4
  have b1 : evBin false [c1] .add (.int 1) (I r) = some (I (1 + r), [c1]) := by
    simp only [evBin]
    rw [show ((1 : Int) + (r : Int)) = ((1 + r : Nat) : Int) by omega]
  refine ⟨some (netU N), c5, ?_, C5⟩
  show exL (runF defs 99) 0 lb_law_0 (sW ns (some i) y3) [c] = _
  unfold lb_law_0
  refine (ex_seq (ex_set (u := netU N) (μ' := [c2]) (ev_call (us := [.ob 0, I (1 + r)]) (μ1 := [c1]) (ev_l2 (ev_var rfl) (ev_bin ev_int (ev_call (us := [.ob 0, I 7]) (μ1 := [c]) (ev_l2 (ev_var rfl) ev_int) er) b1)) en))).trans ?_
  refine (ex_seq ((ex_ifF (u := .bl false) (μ1 := [c5]) (ev_not (d := true) (ev_call (us := [.ob 0, netU N, lU M]) (μ1 := [c4]) (ev_lcons (ev_var rfl) (ev_l2 (ev_var rfl) (ev_call (us := [.ob 0, I N.length, I many]) (μ1 := [c3]) (ev_lcons (ev_var rfl) (ev_l2 (ev_bi (us := [netU N]) (ev_l1 (ev_var rfl)) (by simp [evBi, cont])) (ev_call (us := [.ob 0, .lst [I 1, I 2, I 10]]) (μ1 := [c2]) (ev_l2 (ev_var rfl) (ev_lst (us := [I 1, I 2, I 10]) (ev_lcons ev_int (ev_l2 ev_int ev_int)) (show 3 ≤ SZ by decide))) em))) eM))) ej) rfl) rfl).trans ex_nil)).trans ex_nil
theorem law_run (ns : List Int) (h : ns.length ≤ 63) : runF defs 100 44 [.scr ns] [] = some (.bl true, []) := by
  obtain ⟨c, C, ec⟩ := cup_ok 98 ns h
  obtain ⟨σ', μ', e, y2, y3, c', hσ, hμ, C'⟩ := forL_inv0 (step := fstep (runF defs 99) 0 (.slot 2) lb_law_0) (xs := (List.range 5).map I) (fun _ σ μ => ∃ (y2 y3 : Option U) (c : U), σ = sW ns y2 y3 ∧ μ = [c] ∧ Cup c) (σ := sW ns none none) (μ := [c]) ⟨none, none, c, rfl, rfl, C⟩ (fun i x σ μ hx hp => by
    obtain ⟨y2, y3, c, rfl, rfl, C⟩ := hp
    obtain ⟨y3', c', e, C'⟩ := law_turn (ns := ns) C x y2 y3
    exact ⟨_, _, .inl e, some x, y3', c', rfl, rfl, C'⟩)
  obtain ⟨c2, e2, C2⟩ := great_right_ok 90 [] C'
  have e3 := written_ok 90 [c2]
  rw [run_law]
  have b : exL (runF defs 99) 0 b_law [some (.scr ns), none, none, none] [] = some (.rt (.bl true) [c2]) := by
    unfold b_law
    refine (ex_seq (ex_set (u := .ob 0) (μ' := [c]) (ev_call (ev_l1 (ev_var rfl)) ec))).trans ?_
    rw [hσ, hμ] at e
    refine (ex_seq (((show exS _ _ l_law_0 _ _ = _ from ex_for (us := [I 5]) (xs := (List.range 5).map I) (ev_l1 ev_int) (walk_rng (by omega))).trans e))).trans ?_
    exact ex_ret (ev_andT (ev_call (us := [.ob 0]) (μ1 := [c']) (ev_l1 (ev_var rfl)) e2) (ev_b1 (ev_call (us := []) (μ1 := [c2]) ev_lnil e3)))
  exact (if_pos rfl).trans (run_rt b (fin_cut rfl rfl))
end K30

set_option Elab.async false
set_option linter.all false
set_option maxRecDepth 1000000
set_option maxHeartbeats 4000000
namespace K30
open PySem PySem.Spec PyProof.Rows L2 R
def p_is_whole (g : Str) (s : Stmt) : Pd := ⟨g, "is_whole", s, ["value", "low", "high"], ["value", "low", "high"], d_is_whole⟩
def p_is_tuple_of (g : Str) (s : Stmt) : Pd := ⟨g, "is_tuple_of", s, ["value", "low", "high"], ["value", "low", "high"], d_is_tuple_of⟩
def p_are_wholes (g : Str) (s : Stmt) : Pd := ⟨g, "are_wholes", s, ["value", "many", "low", "high", "one"], ["value", "many", "low", "high"], d_are_wholes⟩
def p_is_door (g : Str) (s : Stmt) : Pd := ⟨g, "is_door", s, ["net", "value"], ["net", "value"], d_is_door⟩
def p_reached_in (g : Str) (s : Stmt) : Pd := ⟨g, "reached_in", s, ["net", "found", "at", "house", "door"], ["net"], d_reached_in⟩
def p_fits_net (g : Str) (s : Stmt) : Pd := ⟨g, "fits_net", s, ["value", "most", "house", "doors", "door", "at"], ["value", "most"], d_fits_net⟩
def p_need_net (g : Str) (s : Stmt) : Pd := ⟨g, "need_net", s, ["value"], ["value"], d_need_net⟩
def p_fits_marks (g : Str) (s : Stmt) : Pd := ⟨g, "fits_marks", s, ["net", "value"], ["net", "value"], d_fits_marks⟩
def p_need_both (g : Str) (s : Stmt) : Pd := ⟨g, "need_both", s, ["net", "marks"], ["net", "marks"], d_need_both⟩
def p_need_house (g : Str) (s : Stmt) : Pd := ⟨g, "need_house", s, ["net", "value"], ["net", "value"], d_need_house⟩
def p_fits_row (g : Str) (s : Stmt) : Pd := ⟨g, "fits_row", s, ["value", "door"], ["value"], d_fits_row⟩
def p_need_row (g : Str) (s : Stmt) : Pd := ⟨g, "need_row", s, ["value"], ["value"], d_need_row⟩
def p_story_in (g : Str) (s : Stmt) : Pd := ⟨g, "story_in", s, ["net", "marks", "house", "row", "found", "door", "back"], ["net", "marks", "house", "row"], d_story_in⟩
def p_told_in (g : Str) (s : Stmt) : Pd := ⟨g, "told_in", s, ["net", "marks", "house", "names", "doors", "order", "at", "other", "door", "own", "name"], ["net", "marks", "house"], d_told_in⟩
def p_is_net (g : Str) (s : Stmt) : Pd := ⟨g, "is_net", s, ["value"], ["value"], d_is_net⟩
def p_are_marks (g : Str) (s : Stmt) : Pd := ⟨g, "are_marks", s, ["net", "value"], ["net", "value"], d_are_marks⟩
def p_walk (g : Str) (s : Stmt) : Pd := ⟨g, "walk", s, ["net", "house", "row", "found", "door"], ["net", "house", "row"], d_walk⟩
def p_story (g : Str) (s : Stmt) : Pd := ⟨g, "story", s, ["net", "marks", "house", "row"], ["net", "marks", "house", "row"], d_story⟩
def p_tells_apart (g : Str) (s : Stmt) : Pd := ⟨g, "tells_apart", s, ["net", "marks", "one", "two", "value"], ["net", "marks", "one", "two", "value"], d_tells_apart⟩
def p_told_from (g : Str) (s : Stmt) : Pd := ⟨g, "told_from", s, ["net", "marks", "house"], ["net", "marks", "house"], d_told_from⟩
def p__law_cup (g : Str) (s : Stmt) : Pd := ⟨g, "_law_cup", s, ["script", "cell"], ["script"], d__law_cup⟩
def p__law_roll (g : Str) (s : Stmt) : Pd := ⟨g, "_law_roll", s, ["cup", "many", "deep", "found"], ["cup", "many"], d__law_roll⟩
def p__law_some (g : Str) (s : Stmt) : Pd := ⟨g, "_law_some", s, ["cup", "things"], ["cup", "things"], d__law_some⟩
def p__law_sort (g : Str) (s : Stmt) : Pd := ⟨g, "_law_sort", s, ["value"], ["value"], d__law_sort⟩
def p__law_like (g : Str) (s : Stmt) : Pd := ⟨g, "_law_like", s, ["one", "other", "sort", "first", "second"], ["one", "other"], d__law_like⟩
def p__law_is_number (g : Str) (s : Stmt) : Pd := ⟨g, "_law_is_number", s, ["value", "low", "high"], ["value", "low", "high"], d__law_is_number⟩
def p__law_joined (g : Str) (s : Stmt) : Pd := ⟨g, "_law_joined", s, ["lines", "houses", "doors", "one", "two", "house", "first", "second", "row"], ["lines", "houses"], d__law_joined⟩
def p__law_lines (g : Str) (s : Stmt) : Pd := ⟨g, "_law_lines", s, ["cup", "houses", "more", "house", "turn", "row", "lines", "ends", "free", "other", "one", "two"], ["cup", "houses", "more"], d__law_lines⟩
def p__law_net (g : Str) (s : Stmt) : Pd := ⟨g, "_law_net", s, ["cup", "houses"], ["cup", "houses"], d__law_net⟩
def p__law_ring (g : Str) (s : Stmt) : Pd := ⟨g, "_law_ring", s, ["houses", "house"], ["houses"], d__law_ring⟩
def p__law_is_whole (g : Str) (s : Stmt) : Pd := ⟨g, "_law_is_whole", s, ["net", "met", "at", "other", "door"], ["net"], d__law_is_whole⟩
def p__law_is_net (g : Str) (s : Stmt) : Pd := ⟨g, "_law_is_net", s, ["value", "most", "house", "doors", "at", "door", "back", "own"], ["value", "most"], d__law_is_net⟩
def p__law_are_marks (g : Str) (s : Stmt) : Pd := ⟨g, "_law_are_marks", s, ["net", "value", "mark"], ["net", "value"], d__law_are_marks⟩
def p__law_marks (g : Str) (s : Stmt) : Pd := ⟨g, "_law_marks", s, ["cup", "houses", "most", "house"], ["cup", "houses", "most"], d__law_marks⟩
def p__law_is_row (g : Str) (s : Stmt) : Pd := ⟨g, "_law_is_row", s, ["value", "door"], ["value"], d__law_is_row⟩
def p__law_story (g : Str) (s : Stmt) : Pd := ⟨g, "_law_story", s, ["net", "marks", "house", "row", "found", "door", "back"], ["net", "marks", "house", "row"], d__law_story⟩
def p__law_bent (g : Str) (s : Stmt) : Pd := ⟨g, "_law_bent", s, ["cup", "value", "some", "at", "way"], ["cup", "value"], d__law_bent⟩
def p__law_changed (g : Str) (s : Stmt) : Pd := ⟨g, "_law_changed", s, ["cup", "row", "high", "at", "found", "odd"], ["cup", "row", "high"], d__law_changed⟩
def p__law_row (g : Str) (s : Stmt) : Pd := ⟨g, "_law_row", s, ["cup", "net", "house", "many", "row", "turn"], ["cup", "net", "house", "many"], d__law_row⟩
def p__law_walk (g : Str) (s : Stmt) : Pd := ⟨g, "_law_walk", s, ["net", "house", "row", "found", "door"], ["net", "house", "row"], d__law_walk⟩
def p__law_is_told (g : Str) (s : Stmt) : Pd := ⟨g, "_law_is_told", s, ["net", "marks", "house", "told", "at", "doors", "own", "names", "met", "other", "back", "goal", "end"], ["net", "marks", "house", "told"], d__law_is_told⟩
def p__law_right (g : Str) (s : Stmt) : Pd := ⟨g, "_law_right", s, ["cup", "net", "marks", "row", "told", "value", "turn", "one", "two", "due", "other"], ["cup", "net", "marks"], d__law_right⟩
def p__law_great_right (g : Str) (s : Stmt) : Pd := ⟨g, "_law_great_right", s, ["cup", "many", "marks", "row", "door", "told", "far", "net", "house", "place", "due", "at", "turn"], ["cup"], d__law_great_right⟩
def p__law_written_right (g : Str) (s : Stmt) : Pd := ⟨g, "_law_written_right", s, ["told", "due", "odds", "fine", "ring", "row", "two", "value"], [], d__law_written_right⟩
def p_law (g : Str) (s : Stmt) : Pd := ⟨g, "law", s, ["script", "cup", "turn", "net"], ["script"], d_law⟩
def top (i : Nat) : Stmt := PySem.Challenge.pw_messengers_k30_whole_doored_nets.main.body.getD i (.Pass ⟨0, 0, 0, 0⟩)
def pds : List Pd := p_is_whole "is_whole" (top 7) :: p_is_tuple_of "is_tuple_of" (top 8) :: p_are_wholes "are_wholes" (top 9) :: p_is_door "is_door" (top 15) :: p_reached_in "reached_in" (top 16) :: p_fits_net "fits_net" (top 17) :: p_need_net "need_net" (top 18) :: p_fits_marks "fits_marks" (top 19) :: p_need_both "need_both" (top 20) :: p_need_house "need_house" (top 21) :: p_fits_row "fits_row" (top 22) :: p_need_row "need_row" (top 23) :: p_story_in "story_in" (top 24) :: p_told_in "told_in" (top 25) :: p_is_net "is_net" (top 26) :: p_are_marks "are_marks" (top 27) :: p_walk "walk" (top 28) :: p_story "story" (top 29) :: p_tells_apart "tells_apart" (top 30) :: p_told_from "told_from" (top 31) :: p__law_cup "_law_cup" (top 33) :: p__law_roll "_law_roll" (top 34) :: p__law_some "_law_some" (top 35) :: p__law_sort "_law_sort" (top 36) :: p__law_like "_law_like" (top 37) :: p__law_is_number "_law_is_number" (top 38) :: p__law_joined "_law_joined" (top 39) :: p__law_lines "_law_lines" (top 40) :: p__law_net "_law_net" (top 41) :: p__law_ring "_law_ring" (top 42) :: p__law_is_whole "_law_is_whole" (top 43) :: p__law_is_net "_law_is_net" (top 44) :: p__law_are_marks "_law_are_marks" (top 45) :: p__law_marks "_law_marks" (top 46) :: p__law_is_row "_law_is_row" (top 47) :: p__law_story "_law_story" (top 48) :: p__law_bent "_law_bent" (top 49) :: p__law_changed "_law_changed" (top 50) :: p__law_row "_law_row" (top 51) :: p__law_walk "_law_walk" (top 52) :: p__law_is_told "_law_is_told" (top 53) :: p__law_right "_law_right" (top 54) :: p__law_great_right "_law_great_right" (top 55) :: p__law_written_right "_law_written_right" (top 56) :: p_law "law" (top 57) :: []
theorem binds : BdAll pds := ⟨fun _ _ _ _ _ _ us hl => match us, hl with | [_, _, _], _ => rfl, fun _ _ _ _ _ _ us hl => match us, hl with | [_, _, _], _ => rfl, fun _ _ _ _ _ _ us hl => match us, hl with | [_, _, _, _], _ => rfl, fun _ _ _ _ _ _ us hl => match us, hl with | [_, _], _ => rfl, fun _ _ _ _ _ _ us hl => match us, hl with | [_], _ => rfl, fun _ _ _ _ _ _ us hl => match us, hl with | [_, _], _ => rfl, fun _ _ _ _ _ _ us hl => match us, hl with | [_], _ => rfl, fun _ _ _ _ _ _ us hl => match us, hl with | [_, _], _ => rfl, fun _ _ _ _ _ _ us hl => match us, hl with | [_, _], _ => rfl, fun _ _ _ _ _ _ us hl => match us, hl with | [_, _], _ => rfl, fun _ _ _ _ _ _ us hl => match us, hl with | [_], _ => rfl, fun _ _ _ _ _ _ us hl => match us, hl with | [_], _ => rfl, fun _ _ _ _ _ _ us hl => match us, hl with | [_, _, _, _], _ => rfl, fun _ _ _ _ _ _ us hl => match us, hl with | [_, _, _], _ => rfl, fun _ _ _ _ _ _ us hl => match us, hl with | [_], _ => rfl, fun _ _ _ _ _ _ us hl => match us, hl with | [_, _], _ => rfl, fun _ _ _ _ _ _ us hl => match us, hl with | [_, _, _], _ => rfl, fun _ _ _ _ _ _ us hl => match us, hl with | [_, _, _, _], _ => rfl, fun _ _ _ _ _ _ us hl => match us, hl with | [_, _, _, _, _], _ => rfl, fun _ _ _ _ _ _ us hl => match us, hl with | [_, _, _], _ => rfl, fun _ _ _ _ _ _ us hl => match us, hl with | [_], _ => rfl, fun _ _ _ _ _ _ us hl => match us, hl with | [_, _], _ => rfl, fun _ _ _ _ _ _ us hl => match us, hl with | [_, _], _ => rfl, fun _ _ _ _ _ _ us hl => match us, hl with | [_], _ => rfl, fun _ _ _ _ _ _ us hl => match us, hl with | [_, _], _ => rfl, fun _ _ _ _ _ _ us hl => match us, hl with | [_, _, _], _ => rfl, fun _ _ _ _ _ _ us hl => match us, hl with | [_, _], _ => rfl, fun _ _ _ _ _ _ us hl => match us, hl with | [_, _, _], _ => rfl, fun _ _ _ _ _ _ us hl => match us, hl with | [_, _], _ => rfl, fun _ _ _ _ _ _ us hl => match us, hl with | [_], _ => rfl, fun _ _ _ _ _ _ us hl => match us, hl with | [_], _ => rfl, fun _ _ _ _ _ _ us hl => match us, hl with | [_, _], _ => rfl, fun _ _ _ _ _ _ us hl => match us, hl with | [_, _], _ => rfl, fun _ _ _ _ _ _ us hl => match us, hl with | [_, _, _], _ => rfl, fun _ _ _ _ _ _ us hl => match us, hl with | [_], _ => rfl, fun _ _ _ _ _ _ us hl => match us, hl with | [_, _, _, _], _ => rfl, fun _ _ _ _ _ _ us hl => match us, hl with | [_, _], _ => rfl, fun _ _ _ _ _ _ us hl => match us, hl with | [_, _, _], _ => rfl, fun _ _ _ _ _ _ us hl => match us, hl with | [_, _, _, _], _ => rfl, fun _ _ _ _ _ _ us hl => match us, hl with | [_, _, _], _ => rfl, fun _ _ _ _ _ _ us hl => match us, hl with | [_, _, _, _], _ => rfl, fun _ _ _ _ _ _ us hl => match us, hl with | [_, _, _], _ => rfl, fun _ _ _ _ _ _ us hl => match us, hl with | [_], _ => rfl, fun _ _ _ _ _ _ us hl => match us, hl with | [], _ => rfl, fun _ _ _ _ _ _ us hl => match us, hl with | [_], _ => rfl, True.intro⟩
def loose0 : List Str := ["LetterError", "InvalidHouse", "InvalidNet", "InvalidMarks", "InvalidDoors", "is_whole", "is_tuple_of", "are_wholes", "HOUSES", "DOORS", "MARK", "ROW", "is_door", "reached_in", "fits_net", "need_net", "fits_marks", "need_both", "need_house", "fits_row", "need_row", "story_in", "told_in", "is_net", "are_marks", "walk", "story", "tells_apart", "told_from", "_law_cup"]
def loose1 : List Str := ["_law_roll", "_law_some", "_law_sort", "_law_like", "_law_is_number", "_law_joined", "_law_lines", "_law_net", "_law_ring", "_law_is_whole", "_law_is_net", "_law_are_marks", "_law_marks", "_law_is_row", "_law_story", "_law_bent", "_law_changed", "_law_row", "_law_walk", "_law_is_told", "_law_right", "_law_great_right", "_law_written_right"]
def loose : List Str := loose0 ++ loose1
def lawAt : Nat := 57
def lawIx : Nat := 44
theorem law_true : ∀ ns : List Int, ns.length ≤ 63 → ∃ μ, runF (pds.map (·.df)) 100 lawIx [.scr ns] [] = some (.bl true, μ) := fun ns h => ⟨[], law_run ns h⟩
def fns : List (Str × Nat) := (("is_whole" : Str), (0 : Nat)) :: (("is_tuple_of" : Str), (1 : Nat)) :: (("are_wholes" : Str), (2 : Nat)) :: (("is_door" : Str), (3 : Nat)) :: (("reached_in" : Str), (4 : Nat)) :: (("fits_net" : Str), (5 : Nat)) :: (("need_net" : Str), (6 : Nat)) :: (("fits_marks" : Str), (7 : Nat)) :: (("need_both" : Str), (8 : Nat)) :: (("need_house" : Str), (9 : Nat)) :: (("fits_row" : Str), (10 : Nat)) :: (("need_row" : Str), (11 : Nat)) :: (("story_in" : Str), (12 : Nat)) :: (("told_in" : Str), (13 : Nat)) :: (("is_net" : Str), (14 : Nat)) :: (("are_marks" : Str), (15 : Nat)) :: (("walk" : Str), (16 : Nat)) :: (("story" : Str), (17 : Nat)) :: (("tells_apart" : Str), (18 : Nat)) :: (("told_from" : Str), (19 : Nat)) :: (("_law_cup" : Str), (20 : Nat)) :: (("_law_roll" : Str), (21 : Nat)) :: (("_law_some" : Str), (22 : Nat)) :: (("_law_sort" : Str), (23 : Nat)) :: (("_law_like" : Str), (24 : Nat)) :: (("_law_is_number" : Str), (25 : Nat)) :: (("_law_joined" : Str), (26 : Nat)) :: (("_law_lines" : Str), (27 : Nat)) :: (("_law_net" : Str), (28 : Nat)) :: (("_law_ring" : Str), (29 : Nat)) :: (("_law_is_whole" : Str), (30 : Nat)) :: (("_law_is_net" : Str), (31 : Nat)) :: (("_law_are_marks" : Str), (32 : Nat)) :: (("_law_marks" : Str), (33 : Nat)) :: (("_law_is_row" : Str), (34 : Nat)) :: (("_law_story" : Str), (35 : Nat)) :: (("_law_bent" : Str), (36 : Nat)) :: (("_law_changed" : Str), (37 : Nat)) :: (("_law_row" : Str), (38 : Nat)) :: (("_law_walk" : Str), (39 : Nat)) :: (("_law_is_told" : Str), (40 : Nat)) :: (("_law_right" : Str), (41 : Nat)) :: (("_law_great_right" : Str), (42 : Nat)) :: (("_law_written_right" : Str), (43 : Nat)) :: (("law" : Str), (44 : Nat)) :: []
def nums : List (Str × Int) := (("HOUSES" : Str), (10 : Int)) :: (("DOORS" : Str), (6 : Int)) :: (("MARK" : Str), (9 : Int)) :: (("ROW" : Str), (100 : Int)) :: []
def bns : List Str := ["len", "int", "abs", "all", "min", "max", "range", "enumerate", "zip", "list", "tuple", "dict", "isinstance", "bool", "str", "set"]
end K30
set_option maxHeartbeats 0
namespace K30
open PySem PySem.Spec PyProof.Rows L2 R
theorem zFnsOk : fns.all (fun p => decide ((pds[p.2]?).map (·.glob) = some p.1)) = true := by kernel_rfl
theorem zChk (fa : Nat → Option Addr) : pds.all (pdC ⟨fa, fns, nums, bns⟩) = true := by kernel_rfl
abbrev zRow : PySem.W.OpenRow := PySem.W.OpenLaw.row PySem.Challenge.rw_messengers_k30_whole_doored_nets
def zFacts : List He.Fa := factsOf fns nums bns
def zFnd : List He.DefD := fnD pds
abbrev zHk : PySem.W.Hook := He.hookD 4 zFacts zFnd
def zOb (s : PySem.W.SharedT) : He.AlD := He.obsDG 4 zFacts zFnd (HandSHeadRun.getT s)
theorem zObEq (s : PySem.W.SharedT) : zOb s = zHk.obs s.abs := He.obsDG_eq (HandSHeadRun.getT_eq s)
theorem zRun (w : World) : HandSHeadRun.RunEq zRow (PySem.W.view zRow.prog [lawAt]) zHk zOb 4000 loose w := by
  intro os
  kernel_rfl
end K30
open PySem PySem.W PySem.Calls PyProof.Rows
theorem PySem.Challenge.cw_messengers_k30_whole_doored_nets_holds : PySem.Challenge.rw_messengers_k30_whole_doored_nets.Holds := by
  w_on; o_law
  refine HandSHeadRun.head_any (r := OpenLaw.row PySem.Challenge.rw_messengers_k30_whole_doored_nets) (q := view (OpenLaw.row PySem.Challenge.rw_messengers_k30_whole_doored_nets).prog [K30.lawAt]) (H := K30.zHk) (ob := K30.zOb) (M := 4000) (loose := K30.loose) (d := HandSHeadRun.topDef (OpenLaw.row PySem.Challenge.rw_messengers_k30_whole_doored_nets).prog K30.lawAt) (kwd := []) K30.zObEq
    (by kernel_rfl) (fun s => by kernel_rfl) K30.zRun (by kernel_rfl) (by kernel_rfl) (by kernel_rfl) (by rfl) (by first | assumption | decide +kernel) (by decide +kernel) ⟨rfl, rfl, rfl, rfl, rfl, by decide +kernel⟩ ?hw ?hc
  case hw => w_witness2
  case hc =>
    refine L2.walk_ofE (l := PySem.Challenge.rw_messengers_k30_whole_doored_nets) (n := 63) (k := 100) (x := "script") (CX := C8.CX0) rfl (by decide) (by kernel_rfl) ⟨rfl, by decide, by decide⟩ ?F (fun _ _ _ _ z => z)
    intro w mg fa h Y G hmg0
    obtain ⟨K, KX, c⟩ := Y
    have hmg : mg ("law" : PySem.Str) = some (.ref fa) := by
      have e : (HandSHeadRun.topDef (OpenLaw.row PySem.Challenge.rw_messengers_k30_whole_doored_nets).prog K30.lawAt).name = ("law" : PySem.Str) := by kernel_rfl
      rw [← e]
      exact hmg0
    obtain ⟨fd, hb, hF⟩ := R.law_ok (P := (PySem.Challenge.rw_messengers_k30_whole_doored_nets).prog) (w := w) (L := K30.lawIx) (k := 100) KX G c K30.binds K30.zFnsOk K30.zChk (d := K30.p_law "law" (K30.top K30.lawAt)) rfl rfl rfl (by kernel_rfl) hmg K30.law_true
    exact ⟨K, fd, R.spLaw K, KX, hb, fun H a ns hl _ hS => ⟨a, ns, rfl, hS, hl, fun _ => rfl⟩, hF⟩
