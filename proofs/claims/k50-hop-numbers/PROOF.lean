import PyProof.Rows.All
import Wide.All
import OpenK.AllK
import Wide.FinOn
import PySem.Challenge.RW_messengers_k50_whole_hop_numbers
import HandS.ForMost
import HandS.Flow
import HandS.TupAny
import HandS.Wide
import HandS.Zip
import HandS.Rev
import HandS.TupLen
import HandS.Conv
import HandS.Small
import KE.DataEq
import KE.DataAny
import KE.DataCmp
import KE.DataMinMax
import KE.DataFind
import KE.SortData
import HandS.TupMul
import HandS.Deep
import HandS.IsInst
import HandS.Codes
import KE.KDictSum
import HandS.Style
import HandS.Comp
import HandS.Iter
import HandS.More
import HandS.CallLocal
import HandS.Defaults
import HandS.Words
import HandS.Ends
import HandS.HeadEnd
import HandS.HeadHook1
import HandS.HeadHook2
import KE.KStateDown
import Lean
import HandS.Head0
import HandS.Head1
import HandS.Head2
set_option Elab.async false
set_option linter.all false
set_option maxRecDepth 100000
set_option maxHeartbeats 4000000
/-! R1: pure values U, the relation to V over an abstract heap, worlds and their extension -/
namespace R
open PySem PySem.Spec PyProof.Rows L2


/-- values: pure trees; ob i is the object number i of the store; fn i the def number i -/
inductive U where
  | non | bl (b : Bool) | int (i : Int) | str (x : Str)
  | tup (xs : List U) | lst (xs : List U) | dk (ks : List Key) (vs : List U) | dt (ks : List (List Key)) (vs : List U)
  | ob (i : Nat) | fn (i : Nat) | scr (ns : List Int)

abbrev Mu := List U

/-- a frozen tuple, a frozen list -/
def FT (t m : List Addr) (H : Hp) (a : Addr) (vs : List V) : Prop := H a = some (.tup vs) ∧ a ∉ m ∧ a ∉ t
def FL (t m : List Addr) (H : Hp) (a : Addr) (vs : List V) : Prop := H a = some (.lst vs) ∧ a ∉ m ∧ a ∉ t
/-- the script -/
def FS (K : PySem.W.Frag) (t m : List Addr) (H : Hp) (a : Addr) (vs : List V) : Prop :=
  (Rd H a (.lst vs) ∧ a ∉ m ∧ a ∉ t) ∨ ∃ (o : Obj) (its : Array Value) (n : Nat), K.lookup a = some o ∧ o.cls = .type "list" ∧ o.dict = none ∧ o.data = .seq its n ∧ its.size ≤ sizeLine ∧ Vals vs its.toList
theorem FT.sq {K : PySem.W.Frag} {t m H a vs} (h : FT t m H a vs) : SqT K H a vs := .inl (.inl h.1)
theorem FL.sq {K : PySem.W.Frag} {t m H a vs} (h : FL t m H a vs) : SqL K H a vs := .inl (.inl h.1)
theorem FS.sq {K t m H a vs} (h : FS K t m H a vs) : SqL K H a vs := h.elim (fun q => .inl q.1) .inr

mutual
/-- v stands for u; mutable ones are those of the list m, numbers below n -/
inductive Rp (K : PySem.W.Frag) (fa : Nat → Option Addr) (t m : List Addr) (n : Nat) (H : Hp) : U → V → Prop
  | non : Rp K fa t m n H .non .non
  | bl (b : Bool) : Rp K fa t m n H (.bl b) (.bl b)
  | int (i : Int) : Rp K fa t m n H (.int i) (.int i)
  | str (x : Str) : Rp K fa t m n H (.str x) (.str x)
  | tup {a : Addr} {vs : List V} {xs : List U} : FT t m H a vs → RpA K fa t m n H xs vs → Rp K fa t m n H (.tup xs) (.ref a)
  | lst {a : Addr} {vs : List V} {xs : List U} : FL t m H a vs → RpA K fa t m n H xs vs → Rp K fa t m n H (.lst xs) (.ref a)
  | dK {a : Addr} {kvs : List (Key × V)} {us : List U} : H a = some (.dK kvs) → a ∉ m → a ∉ t → RpA K fa t m n H us (kvs.map (·.2)) → Rp K fa t m n H (.dk (kvs.map (·.1)) us) (.ref a)
  | dT {a : Addr} {kvs : List (List Key × V)} {us : List U} : H a = some (.dT kvs) → a ∉ m → a ∉ t → RpA K fa t m n H us (kvs.map (·.2)) → Rp K fa t m n H (.dt (kvs.map (·.1)) us) (.ref a)
  | ob {i : Nat} {a : Addr} : i < n → m[i]? = some a → Rp K fa t m n H (.ob i) (.ref a)
  | fn {i : Nat} {a : Addr} : fa i = some a → Rp K fa t m n H (.fn i) (.ref a)
  | scr {a : Addr} {ns : List Int} : FS K t m H a (ns.map V.int) → Rp K fa t m n H (.scr ns) (.ref a)
inductive RpA (K : PySem.W.Frag) (fa : Nat → Option Addr) (t m : List Addr) (n : Nat) (H : Hp) : List U → List V → Prop
  | nil : RpA K fa t m n H [] []
  | cons {u : U} {v : V} {us : List U} {vs : List V} : Rp K fa t m n H u v → RpA K fa t m n H us vs → RpA K fa t m n H (u :: us) (v :: vs)
end

/-- the world may grow: new mutable ones are new addresses, what is not mutable stays -/
structure Ex (m : List Addr) (H : Hp) (m' : List Addr) (H' : Hp) : Prop where
  pre : ∃ t, m' = m ++ t
  keep : ∀ a o, H a = some o → a ∉ m → H' a = some o
  new : ∀ a, a ∈ m' → a ∉ m → H a = none

theorem Ex.refl (m : List Addr) (H : Hp) : Ex m H m H := ⟨⟨[], by simp⟩, fun _ _ h _ => h, fun a h n => absurd h n⟩
theorem Ex.sub {m H m' H'} (e : Ex m H m' H') {a : Addr} (h : a ∈ m) : a ∈ m' := by
  obtain ⟨t, rfl⟩ := e.pre; exact List.mem_append_left _ h
theorem Ex.at_ {m H m' H'} (e : Ex m H m' H') {i : Nat} {a : Addr} (h : m[i]? = some a) : m'[i]? = some a := by
  obtain ⟨t, rfl⟩ := e.pre
  have hi : i < m.length := (List.getElem?_eq_some_iff.mp h).1
  rw [List.getElem?_append_left hi]; exact h
theorem Ex.len {m H m' H'} (e : Ex m H m' H') : m.length ≤ m'.length := by
  obtain ⟨t, rfl⟩ := e.pre; simp
theorem Ex.nin {m H m' H'} (e : Ex m H m' H') {a : Addr} {o : HO} (h : H a = some o) (n : a ∉ m) : a ∉ m' := fun z => by
  have q := e.new a z n; rw [h] at q; cases q
theorem Ex.trans {m H m1 H1 m2 H2} (a : Ex m H m1 H1) (b : Ex m1 H1 m2 H2) : Ex m H m2 H2 where
  pre := by
    obtain ⟨t, rfl⟩ := a.pre; obtain ⟨t', rfl⟩ := b.pre; exact ⟨t ++ t', by simp⟩
  keep := fun c o h n => b.keep c o (a.keep c o h n) (a.nin h n)
  new := fun c h n => by
    by_cases hc : c ∈ m1
    · exact a.new c hc n
    · cases q : H c with
      | none => rfl
      | some o =>
        have q1 := a.keep c o q n
        have q2 := b.new c h hc
        rw [q1] at q2; cases q2
theorem Ex.upd {m : List Addr} {H : Hp} {p : Addr} {o : HO} (h : H p = none) : Ex m H m (upd H p o) :=
  ⟨⟨[], by simp⟩, fun a u e _ => by rw [upd_ne (ne_of_none e h)]; exact e, fun a h n => absurd h n⟩
theorem Ex.alloc {m : List Addr} {H : Hp} {p : Addr} {o : HO} (h : H p = none) : Ex m H (m ++ [p]) (L2.upd H p o) :=
  ⟨⟨[p], rfl⟩, fun a u e _ => by rw [upd_ne (ne_of_none e h)]; exact e, fun a q n => by
    rcases List.mem_append.mp q with q | q
    · exact absurd q n
    · simp at q; subst q; exact h⟩
theorem Ex.write {m : List Addr} {H : Hp} {p : Addr} {o : HO} (h : p ∈ m) : Ex m H m (L2.upd H p o) :=
  ⟨⟨[], by simp⟩, fun a u e n => by rw [upd_ne (fun z : a = p => n (by rw [z]; exact h))]; exact e, fun a h n => absurd h n⟩

section
variable {K : PySem.W.Frag} {fa : Nat → Option Addr} {t t' m m' : List Addr} {n n' : Nat} {H H' : Hp}
theorem Rd.ex (e : Ex m H m' H') {a : Addr} {o : HO} (h : Rd H a o) (n : a ∉ m) : Rd H' a o ∧ a ∉ m' := by
  rcases h with h | ⟨ob, h⟩
  · exact ⟨.inl (e.keep _ _ h n), e.nin h n⟩
  · exact ⟨.inr ⟨ob, e.keep _ _ h n⟩, e.nin h n⟩
theorem FT.ex (e : Ex m H m' H') {a vs} (h : FT t m H a vs) : FT t m' H' a vs := ⟨e.keep _ _ h.1 h.2.1, e.nin h.1 h.2.1, h.2.2⟩
theorem FL.ex (e : Ex m H m' H') {a vs} (h : FL t m H a vs) : FL t m' H' a vs := ⟨e.keep _ _ h.1 h.2.1, e.nin h.1 h.2.1, h.2.2⟩
theorem FS.ex (e : Ex m H m' H') {a vs} (h : FS K t m H a vs) : FS K t m' H' a vs := h.elim (fun q => .inl ⟨(Rd.ex e q.1 q.2.1).1, (Rd.ex e q.1 q.2.1).2, q.2.2⟩) .inr
mutual
theorem Rp.ex (e : Ex m H m' H') (hn : n ≤ n') : ∀ {u : U} {v : V}, Rp K fa t m n H u v → Rp K fa t m' n' H' u v
  | _, _, .non => .non
  | _, _, .bl b => .bl b
  | _, _, .int i => .int i
  | _, _, .str x => .str x
  | _, _, .tup h r => .tup (h.ex e) (RpA.ex e hn r)
  | _, _, .lst h r => .lst (h.ex e) (RpA.ex e hn r)
  | _, _, .dK h n z r => .dK (e.keep _ _ h n) (e.nin h n) z (RpA.ex e hn r)
  | _, _, .dT h n z r => .dT (e.keep _ _ h n) (e.nin h n) z (RpA.ex e hn r)
  | _, _, .ob hi h => .ob (Nat.lt_of_lt_of_le hi hn) (e.at_ h)
  | _, _, .fn h => .fn h
  | _, _, .scr h => .scr (h.ex e)
theorem RpA.ex (e : Ex m H m' H') (hn : n ≤ n') : ∀ {us : List U} {vs : List V}, RpA K fa t m n H us vs → RpA K fa t m' n' H' us vs
  | _, _, .nil => .nil
  | _, _, .cons h r => .cons (Rp.ex e hn h) (RpA.ex e hn r)
end
theorem RpA.length : ∀ {us : List U} {vs : List V}, RpA K fa t m n H us vs → us.length = vs.length
  | _, _, .nil => rfl
  | _, _, .cons _ r => by simp [RpA.length r]
theorem RpA.get : ∀ {us : List U} {vs : List V} {i : Nat} {u : U}, RpA K fa t m n H us vs → us[i]? = some u → ∃ v, vs[i]? = some v ∧ Rp K fa t m n H u v
  | _, _, _, _, .nil, e => by simp at e
  | _, _, 0, _, .cons h _, e => by simp at e; subst e; exact ⟨_, rfl, h⟩
  | _, _, i + 1, u, .cons _ r, e => by
    obtain ⟨v, h1, h2⟩ := RpA.get (i := i) (u := u) r (by simpa using e)
    exact ⟨v, by simpa using h1, h2⟩
theorem RpA.getV : ∀ {us : List U} {vs : List V} {i : Nat} {v : V}, RpA K fa t m n H us vs → vs[i]? = some v → ∃ u, us[i]? = some u ∧ Rp K fa t m n H u v
  | _, _, _, _, .nil, e => by simp at e
  | _, _, 0, _, .cons h _, e => by simp at e; subst e; exact ⟨_, rfl, h⟩
  | _, _, i + 1, u, .cons _ r, e => by
    obtain ⟨v, h1, h2⟩ := RpA.getV (i := i) (v := u) r (by simpa using e)
    exact ⟨v, by simpa using h1, h2⟩
theorem RpA.append : ∀ {us ys : List U} {vs ws : List V}, RpA K fa t m n H us vs → RpA K fa t m n H ys ws → RpA K fa t m n H (us ++ ys) (vs ++ ws)
  | _, _, _, _, .nil, s => s
  | _, _, _, _, .cons h r, s => .cons h (RpA.append r s)
theorem RpA.take : ∀ {us : List U} {vs : List V} (k : Nat), RpA K fa t m n H us vs → RpA K fa t m n H (us.take k) (vs.take k)
  | _, _, 0, _ => .nil
  | _, _, _ + 1, .nil => .nil
  | _, _, k + 1, .cons h r => .cons h (RpA.take k r)
theorem RpA.drop : ∀ {us : List U} {vs : List V} (k : Nat), RpA K fa t m n H us vs → RpA K fa t m n H (us.drop k) (vs.drop k)
  | _, _, 0, r => r
  | _, _, _ + 1, .nil => .nil
  | _, _, k + 1, .cons _ r => RpA.drop k r
theorem RpA.set {u : U} {v : V} (h : Rp K fa t m n H u v) : ∀ {us : List U} {vs : List V} (i : Nat), RpA K fa t m n H us vs → RpA K fa t m n H (us.set i u) (vs.set i v)
  | _, _, _, .nil => .nil
  | _, _, 0, .cons _ r => .cons h r
  | _, _, i + 1, .cons q r => .cons q (RpA.set h i r)
theorem RpA.one {u : U} {v : V} (h : Rp K fa t m n H u v) : RpA K fa t m n H [u] [v] := .cons h .nil
theorem RpA.rev : ∀ {us : List U} {vs : List V}, RpA K fa t m n H us vs → RpA K fa t m n H us.reverse vs.reverse
  | _, _, .nil => .nil
  | _, _, .cons h r => by
    rw [List.reverse_cons, List.reverse_cons]
    exact (RpA.rev r).append (.one h)
theorem RpA.rep (k : Nat) : ∀ {us : List U} {vs : List V}, RpA K fa t m n H us vs → RpA K fa t m n H (List.replicate k us).flatten (List.replicate k vs).flatten := by
  intro us vs h
  induction k with
  | zero => exact .nil
  | succ k ih => simpa [List.replicate_succ] using h.append ih
theorem RpA.ints : ∀ (is : List Int), RpA K fa t m n H (is.map U.int) (is.map V.int)
  | [] => .nil
  | i :: r => .cons (.int i) (RpA.ints r)

/-- what a mutable object holds -/
inductive Ct (K : PySem.W.Frag) (fa : Nat → Option Addr) (t m : List Addr) (n : Nat) (H : Hp) (a : Addr) : U → Prop
  | lst {vs : List V} {xs : List U} : H a = some (.lst vs) → RpA K fa t m n H xs vs → Ct K fa t m n H a (.lst xs)
  | dK {kvs : List (Key × V)} {us : List U} : H a = some (.dK kvs) → RpA K fa t m n H us (kvs.map (·.2)) → Ct K fa t m n H a (.dk (kvs.map (·.1)) us)
  | dT {kvs : List (List Key × V)} {us : List U} : H a = some (.dT kvs) → RpA K fa t m n H us (kvs.map (·.2)) → Ct K fa t m n H a (.dt (kvs.map (·.1)) us)
theorem Ct.ex (e : Ex m H m' H') (hn : n ≤ n') {a : Addr} {o : U} (ha : H' a = H a) (h : Ct K fa t m n H a o) : Ct K fa t m' n' H' a o := by
  cases h with
  | lst h r => exact .lst (ha.trans h) (r.ex e hn)
  | dK h r => exact .dK (ha.trans h) (r.ex e hn)
  | dT h r => exact .dT (ha.trans h) (r.ex e hn)

/-- the store: bs the bounds of the objects that stood at the frame's entry -/
structure Me (K : PySem.W.Frag) (fa : Nat → Option Addr) (bs : List Nat) (t m : List Addr) (H : Hp) (μ : Mu) : Prop where
  len : m.length = μ.length
  low : bs.length ≤ m.length
  nd : m.Nodup
  ct : ∀ (i : Nat) (a : Addr) (o : U), m[i]? = some a → μ[i]? = some o → Ct K fa t m (bs[i]?.getD m.length) H a o
  bd : ∀ (i b : Nat), bs[i]? = some b → b ≤ bs.length
  tt : ∀ a ∈ t, a ∉ m ∧ ∃ o, H a = some o ∧ ∀ vs, o ≠ .tup vs

/-! ### temporaries -/
mutual
/-- fewer temporaries are to be avoided -/
theorem Rp.tw (ht : ∀ a ∈ t', a ∈ t) : ∀ {u : U} {v : V}, Rp K fa t m n H u v → Rp K fa t' m n H u v
  | _, _, .non => .non
  | _, _, .bl b => .bl b
  | _, _, .int i => .int i
  | _, _, .str x => .str x
  | _, _, .tup h r => .tup ⟨h.1, h.2.1, fun z => h.2.2 (ht _ z)⟩ (RpA.tw ht r)
  | _, _, .lst h r => .lst ⟨h.1, h.2.1, fun z => h.2.2 (ht _ z)⟩ (RpA.tw ht r)
  | _, _, .dK h n z r => .dK h n (fun q => z (ht _ q)) (RpA.tw ht r)
  | _, _, .dT h n z r => .dT h n (fun q => z (ht _ q)) (RpA.tw ht r)
  | _, _, .ob hi h => .ob hi h
  | _, _, .fn h => .fn h
  | _, _, .scr h => .scr (h.elim (fun q => .inl ⟨q.1, q.2.1, fun z => q.2.2 (ht _ z)⟩) .inr)
theorem RpA.tw (ht : ∀ a ∈ t', a ∈ t) : ∀ {us : List U} {vs : List V}, RpA K fa t m n H us vs → RpA K fa t' m n H us vs
  | _, _, .nil => .nil
  | _, _, .cons h r => .cons (Rp.tw ht h) (RpA.tw ht r)
end
theorem Rd.some {a : Addr} {o : HO} (h : Rd H a o) : ∃ u, H a = some u := h.elim (fun q => ⟨_, q⟩) fun ⟨_, q⟩ => ⟨_, q⟩
mutual
/-- a new temporary at D -/
theorem Rp.tn {D : Addr} (hD : H D = none) : ∀ {u : U} {v : V}, Rp K fa t m n H u v → Rp K fa (D :: t) m n H u v
  | _, _, .non => .non
  | _, _, .bl b => .bl b
  | _, _, .int i => .int i
  | _, _, .str x => .str x
  | _, _, .tup h r => .tup ⟨h.1, h.2.1, fun z => by
      rcases List.mem_cons.mp z with z | z
      · have e := h.1; rw [z, hD] at e; cases e
      · exact h.2.2 z⟩ (RpA.tn hD r)
  | _, _, .lst h r => .lst ⟨h.1, h.2.1, fun z => by
      rcases List.mem_cons.mp z with z | z
      · have e := h.1; rw [z, hD] at e; cases e
      · exact h.2.2 z⟩ (RpA.tn hD r)
  | _, _, .dK h n q r => .dK h n (fun z => by
      rcases List.mem_cons.mp z with z | z
      · rw [z, hD] at h; cases h
      · exact q z) (RpA.tn hD r)
  | _, _, .dT h n q r => .dT h n (fun z => by
      rcases List.mem_cons.mp z with z | z
      · rw [z, hD] at h; cases h
      · exact q z) (RpA.tn hD r)
  | _, _, .ob hi h => .ob hi h
  | _, _, .fn h => .fn h
  | _, _, .scr h => .scr (h.elim (fun q => .inl ⟨q.1, q.2.1, fun z => by
      obtain ⟨u, e⟩ := Rd.some q.1
      rcases List.mem_cons.mp z with z | z
      · rw [z, hD] at e; cases e
      · exact q.2.2 z⟩) .inr)
theorem RpA.tn {D : Addr} (hD : H D = none) : ∀ {us : List U} {vs : List V}, RpA K fa t m n H us vs → RpA K fa (D :: t) m n H us vs
  | _, _, .nil => .nil
  | _, _, .cons h r => .cons (Rp.tn hD h) (RpA.tn hD r)
end
theorem Rd.off {a D : Addr} {o u : HO} (hne : a ≠ D) (h : Rd H a u) : Rd (L2.upd H D o) a u := by
  rcases h with e | ⟨ob, e⟩
  · exact .inl (by rw [upd_ne hne]; exact e)
  · exact .inr ⟨ob, by rw [upd_ne hne]; exact e⟩
theorem FL.off {a D : Addr} {o u : HO} (hne : a ≠ D) (h : H a = some u) : (L2.upd H D o) a = some u := by rw [upd_ne hne]; exact h
mutual
/-- a temporary is written -/
theorem Rp.td {D : Addr} {o : HO} (hD : D ∈ t) : ∀ {u : U} {v : V}, Rp K fa t m n H u v → Rp K fa t m n (L2.upd H D o) u v
  | _, _, .non => .non
  | _, _, .bl b => .bl b
  | _, _, .int i => .int i
  | _, _, .str x => .str x
  | _, _, .tup h r => .tup ⟨FL.off (fun z => h.2.2 (z ▸ hD)) h.1, h.2.1, h.2.2⟩ (RpA.td hD r)
  | _, _, .lst h r => .lst ⟨FL.off (fun z => h.2.2 (z ▸ hD)) h.1, h.2.1, h.2.2⟩ (RpA.td hD r)
  | _, _, .dK h n q r => .dK (by rw [upd_ne (fun z => q (by rw [z]; exact hD))]; exact h) n q (RpA.td hD r)
  | _, _, .dT h n q r => .dT (by rw [upd_ne (fun z => q (by rw [z]; exact hD))]; exact h) n q (RpA.td hD r)
  | _, _, .ob hi h => .ob hi h
  | _, _, .fn h => .fn h
  | _, _, .scr h => .scr (h.elim (fun q => .inl ⟨Rd.off (fun z => q.2.2 (z ▸ hD)) q.1, q.2.1, q.2.2⟩) .inr)
theorem RpA.td {D : Addr} {o : HO} (hD : D ∈ t) : ∀ {us : List U} {vs : List V}, RpA K fa t m n H us vs → RpA K fa t m n (L2.upd H D o) us vs
  | _, _, .nil => .nil
  | _, _, .cons h r => .cons (Rp.td hD h) (RpA.td hD r)
end
theorem Ct.some {a : Addr} {o : U} (h : Ct K fa t m n H a o) : ∃ u, H a = some u := by
  cases h with
  | lst h _ => exact ⟨_, h⟩
  | dK h _ => exact ⟨_, h⟩
  | dT h _ => exact ⟨_, h⟩
theorem Ct.tw (ht : ∀ a ∈ t', a ∈ t) {a : Addr} {o : U} (h : Ct K fa t m n H a o) : Ct K fa t' m n H a o := by
  cases h with
  | lst h r => exact .lst h (r.tw ht)
  | dK h r => exact .dK h (r.tw ht)
  | dT h r => exact .dT h (r.tw ht)
variable {bs : List Nat} {μ : Mu}
theorem Me.there (M : Me K fa bs t m H μ) {a : Addr} (h : a ∈ m) : ∃ o, H a = some o := by
  obtain ⟨i, hi⟩ := List.mem_iff_getElem?.mp h
  have hl : i < μ.length := by rw [← M.len]; exact (List.getElem?_eq_some_iff.mp hi).1
  exact (M.ct i a _ hi (List.getElem?_eq_getElem hl)).some
theorem Me.fresh (M : Me K fa bs t m H μ) {p : Addr} (h : H p = none) : p ∉ m ∧ p ∉ t := by
  refine ⟨fun z => ?_, fun z => ?_⟩
  · obtain ⟨o, e⟩ := M.there z; rw [h] at e; cases e
  · obtain ⟨_, o, e, _⟩ := M.tt _ z; rw [h] at e; cases e
/-- a tuple is no mutable one, no temporary -/
theorem Me.tupN (M : Me K fa bs t m H μ) {b : Addr} {vs : List V} (h : H b = some (.tup vs)) : FT t m H b vs := by
  refine ⟨h, fun z => ?_, fun z => ?_⟩
  · obtain ⟨i, hi⟩ := List.mem_iff_getElem?.mp z
    have hl : i < μ.length := by rw [← M.len]; exact (List.getElem?_eq_some_iff.mp hi).1
    have c := M.ct i b _ hi (List.getElem?_eq_getElem hl)
    generalize μ[i] = o at c
    cases c with
    | lst q _ => rw [h] at q; cases q
    | dK q _ => rw [h] at q; cases q
    | dT q _ => rw [h] at q; cases q
  · obtain ⟨_, o, e, w⟩ := M.tt _ z
    rw [h] at e
    cases e
    exact w _ rfl
/-- only new objects beside -/
theorem Me.ext (M : Me K fa bs t m H μ) (k : ∀ a o, H a = some o → H' a = some o) : Me K fa bs t m H' μ := by
  have e : Ex m H m H' := ⟨⟨[], by simp⟩, fun a o h _ => k a o h, fun a h n => absurd h n⟩
  refine ⟨M.len, M.low, M.nd, fun i a o h1 h2 => ?_, M.bd, fun a h => ⟨(M.tt a h).1, let ⟨o, q, w⟩ := (M.tt a h).2; ⟨o, k _ _ q, w⟩⟩⟩
  have q := M.ct i a o h1 h2
  obtain ⟨u, hu⟩ := q.some
  exact q.ex e (Nat.le_refl _) ((k _ _ hu).trans hu.symm)
theorem Me.upd (M : Me K fa bs t m H μ) {p : Addr} {o : HO} (h : H p = none) : Me K fa bs t m (L2.upd H p o) μ :=
  M.ext fun a u e => by rw [upd_ne (ne_of_none e h)]; exact e
theorem Me.bnd (M : Me K fa bs t m H μ) (i : Nat) : (bs[i]?.getD m.length) ≤ m.length := by
  cases e : bs[i]? with
  | none => exact Nat.le_refl _
  | some b => exact Nat.le_trans (M.bd i b e) M.low
/-- a new mutable object -/
theorem Me.alloc (M : Me K fa bs t m H μ) {p : Addr} {ho : HO} {o : U} (h : H p = none) (c : Ct K fa t (m ++ [p]) (m.length + 1) (L2.upd H p ho) p o) : Me K fa bs t (m ++ [p]) (L2.upd H p ho) (μ ++ [o]) := by
  have e : Ex m H (m ++ [p]) (L2.upd H p ho) := Ex.alloc h
  obtain ⟨nm, nt⟩ := M.fresh h
  refine ⟨by simp [M.len], by have := M.low; simp; omega, ?_, fun i a u h1 h2 => ?_, M.bd, fun a ha => ?_⟩
  · rw [List.nodup_append]
    refine ⟨M.nd, by simp, fun a ha b hb => ?_⟩
    simp at hb; subst hb
    exact fun z => nm (z ▸ ha)
  · by_cases hi : i < m.length
    · rw [List.getElem?_append_left hi] at h1
      rw [List.getElem?_append_left (by rw [← M.len]; exact hi)] at h2
      have q := M.ct i a u h1 h2
      have hne : a ≠ p := fun z => nm (z ▸ List.mem_of_getElem? h1)
      refine q.ex e ?_ (upd_ne hne)
      cases hb : bs[i]? with
      | none => simp
      | some b => simp
    · have hi' : i = m.length := by
        have := (List.getElem?_eq_some_iff.mp h1).1
        simp at this; omega
      subst hi'
      simp at h1
      rw [M.len] at h2
      simp at h2
      subst h1 h2
      have hb : bs[m.length]? = none := List.getElem?_eq_none_iff.mpr M.low
      rw [hb]
      simpa using c
  · obtain ⟨h1, o', h2, h3⟩ := M.tt a ha
    refine ⟨fun z => ?_, o', e.keep _ _ h2 h1, h3⟩
    rcases List.mem_append.mp z with z | z
    · exact h1 z
    · simp at z; subst z; exact nt ha
/-- a mutable object is written -/
theorem Me.write (M : Me K fa bs t m H μ) {i : Nat} {p : Addr} {ho : HO} {o : U} (h : m[i]? = some p) (c : Ct K fa t m (bs[i]?.getD m.length) (L2.upd H p ho) p o) : Me K fa bs t m (L2.upd H p ho) (μ.set i o) := by
  have hm := List.mem_of_getElem? h
  have e : Ex m H m (L2.upd H p ho) := Ex.write hm
  refine ⟨by simp [M.len], M.low, M.nd, fun j a u h1 h2 => ?_, M.bd, fun a ha => ?_⟩
  · by_cases hj : j = i
    · subst hj
      rw [h] at h1; cases h1
      have hl : j < μ.length := by rw [← M.len]; exact (List.getElem?_eq_some_iff.mp h).1
      rw [List.getElem?_set_self hl] at h2
      cases h2
      exact c
    · rw [List.getElem?_set_ne (fun z => hj z.symm)] at h2
      have hne : a ≠ p := fun z => by
        subst z
        have h3 := (List.getElem?_eq_some_iff.mp h1)
        have h4 := (List.getElem?_eq_some_iff.mp h)
        obtain ⟨l1, e1⟩ := h3
        obtain ⟨l2, e2⟩ := h4
        exact hj ((List.getElem_inj M.nd).mp (e1.trans e2.symm))
      exact (M.ct j a u h1 h2).ex e (Nat.le_refl _) (upd_ne hne)
  · obtain ⟨h1, o', h2, h3⟩ := M.tt a ha
    exact ⟨h1, o', e.keep _ _ h2 h1, h3⟩
/-- a temporary begins, is written, ends -/
theorem Me.tn (M : Me K fa bs t m H μ) {D : Addr} {o : HO} (h : H D = none) (ho : ∀ vs, o ≠ .tup vs := by intro _ h; cases h) : Me K fa bs (D :: t) m (L2.upd H D o) μ := by
  have M' := M.upd (o := o) h
  obtain ⟨nm, nt⟩ := M.fresh h
  have e : Ex m H m (L2.upd H D o) := Ex.upd h
  refine ⟨M.len, M.low, M.nd, fun i a u h1 h2 => ?_, M.bd, fun a ha => ?_⟩
  · have q := M.ct i a u h1 h2
    have hne : a ≠ D := fun z => nm (z ▸ List.mem_of_getElem? h1)
    cases q with
    | lst q r => exact .lst (by rw [upd_ne hne]; exact q) ((r.tn h).ex e (Nat.le_refl _))
    | dK q r => exact .dK (by rw [upd_ne hne]; exact q) ((r.tn h).ex e (Nat.le_refl _))
    | dT q r => exact .dT (by rw [upd_ne hne]; exact q) ((r.tn h).ex e (Nat.le_refl _))
  · rcases List.mem_cons.mp ha with ha | ha
    · subst ha; exact ⟨nm, o, upd_same, ho⟩
    · exact M'.tt a ha
theorem Me.td (M : Me K fa bs t m H μ) {D : Addr} {o : HO} (h : D ∈ t) (ho : ∀ vs, o ≠ .tup vs := by intro _ h; cases h) : Me K fa bs t m (L2.upd H D o) μ := by
  refine ⟨M.len, M.low, M.nd, fun i a u h1 h2 => ?_, M.bd, fun a ha => ?_⟩
  · have q := M.ct i a u h1 h2
    have hne : a ≠ D := fun z => (M.tt D h).1 (z ▸ List.mem_of_getElem? h1)
    cases q with
    | lst q r => exact .lst (by rw [upd_ne hne]; exact q) (r.td h)
    | dK q r => exact .dK (by rw [upd_ne hne]; exact q) (r.td h)
    | dT q r => exact .dT (by rw [upd_ne hne]; exact q) (r.td h)
  · obtain ⟨h1, o', h2, h3⟩ := M.tt a ha
    by_cases z : a = D
    · subst z; exact ⟨h1, o, upd_same, ho⟩
    · exact ⟨h1, o', by rw [upd_ne z]; exact h2, h3⟩
theorem Me.tw (M : Me K fa bs t m H μ) (ht : ∀ a ∈ t', a ∈ t) : Me K fa bs t' m H μ :=
  ⟨M.len, M.low, M.nd, fun i a u h1 h2 => (M.ct i a u h1 h2).tw ht, M.bd, fun a ha => M.tt a (ht a ha)⟩

end
end R

set_option Elab.async false
set_option linter.all false
set_option maxRecDepth 100000
set_option maxHeartbeats 4000000
/-! R2: a small language of my own and its evaluator -/
namespace R
open PySem L2

abbrev Env := List (Option U)
def SZ : Nat := 16777216

inductive Pt where
  | slot (i : Nat)
  | tup (ps : List Pt)
inductive Bo where
  | add | sub | mul | fdiv | mod | pow | shl | shr | band | bor | bxor
inductive Co where
  | eq | ne | lt | le | gt | ge | isin | notin | is_ | isnot
inductive Bi where
  | len | int | abs | all | any | sum | min1 | max1 | min2 | max2
  deriving DecidableEq
/-- what is walked -/
inductive Ik where
  | ex | rng | enm | zip
  deriving DecidableEq
/-- what is collected into -/
inductive Cl where
  | list | tuple | sorted | dict (tk : Bool)
  deriving DecidableEq
inductive Mt where
  | append | pop0 | pop1 | get2 | index | count
  deriving DecidableEq
inductive Ty where
  | int | bool | str | tuple | list | dict
  deriving DecidableEq

inductive E where
  | var (i : Nat)
  | non | bl (b : Bool) | int (i : Int) | str (x : Str)
  | gint (i : Int)
  | fnv (f : Nat)
  | tup (es : List E)
  | lst (al : Bool) (es : List E)
  | dct (al tk : Bool) (es : List E)
  | bin (al : Bool) (op : Bo) (a b : E)
  | neg (a : E)
  | cmp (op : Co) (a b : E)
  | chain (op op' : Co) (a b c : E)
  | bool (and : Bool) (es : List E)
  | not (a : E)
  | ite (c a b : E)
  | idx (a i : E)
  | slc (al : Bool) (a lo hi : E)
  | rev (al : Bool) (a : E)
  | comp (al : Bool) (p : Pt) (ik : Ik) (its : List E) (c e : E) (ws : List Nat)
  | col (al : Bool) (c : Cl) (ik : Ik) (its : List E)
  | call (f : Nat) (es : List E)
  | bi (b : Bi) (es : List E)
  | isi (e : E) (t : Ty)
  | me (al : Bool) (m : Mt) (a : E) (es : List E)

inductive S where
  | set (i : Nat) (e : E)
  | par (is : List Nat) (es : List E)
  | asg (p : Pt) (e : E)
  | sub (a i e : E)
  | ex (e : E)
  | ret (e : E)
  | iff (c : E) (t f : List S)
  | for_ (p : Pt) (ik : Ik) (its : List E) (b : List S)
  | wh (c : E) (b : List S)
  | pass | brk | cont | stuck

/-! ### values -/
def mapO {α β : Type} (f : α → Option β) : List α → Option (List β)
  | [] => some []
  | x :: xs => match f x with
    | some y => match mapO f xs with
      | some ys => some (y :: ys)
      | none => none
    | none => none

mutual
/-- no mutable one within -/
def nomut : U → Bool
  | .ob _ => false
  | .tup xs => nomuts xs
  | .lst xs => nomuts xs
  | .dk _ vs => nomuts vs
  | .dt _ vs => nomuts vs
  | _ => true
def nomuts : List U → Bool
  | [] => true
  | x :: xs => nomut x && nomuts xs
end

/-- data: what == and < see -/
def dat (μ : Mu) : Nat → U → Option PyData
  | _, .non => some .none
  | _, .bl b => some (.bool b)
  | _, .int i => some (.int i)
  | _, .str x => some (.str x)
  | k + 1, .tup xs => match mapO (dat μ k) xs with
    | some ds => some (.tuple ds)
    | none => none
  | k + 1, .lst xs => match mapO (dat μ k) xs with
    | some ds => some (.list ds)
    | none => none
  | k + 1, .ob i => match μ[i]? with
    | some o => dat μ k o
    | none => none
  | _, _ => none

/-- the mutable ones from n on, frozen -/
def frz (n : Nat) (μ : Mu) : Nat → U → Option U
  | k + 1, .tup xs => match mapO (frz n μ k) xs with
    | some ys => some (.tup ys)
    | none => none
  | k + 1, .lst xs => match mapO (frz n μ k) xs with
    | some ys => some (.lst ys)
    | none => none
  | k + 1, .dk ks xs => match mapO (frz n μ k) xs with
    | some ys => some (.dk ks ys)
    | none => none
  | k + 1, .dt ks xs => match mapO (frz n μ k) xs with
    | some ys => some (.dt ks ys)
    | none => none
  | k + 1, .ob i => if i < n then some (.ob i) else match μ[i]? with
    | some (.lst xs) => match mapO (frz n μ k) xs with
      | some ys => some (.lst ys)
      | none => none
    | some (.dk ks xs) => match mapO (frz n μ k) xs with
      | some ys => some (.dk ks ys)
      | none => none
    | some (.dt ks xs) => match mapO (frz n μ k) xs with
      | some ys => some (.dt ks ys)
      | none => none
    | _ => none
  | _, .non => some .non
  | _, .bl b => some (.bl b)
  | _, .int i => some (.int i)
  | _, .str x => some (.str x)
  | _, .fn i => some (.fn i)
  | _, .scr ns => some (.scr ns)
  | _, _ => none

def D0 : Nat := 12

def asL (μ : Mu) : U → Option (List U)
  | .lst xs => some xs
  | .ob i => match μ[i]? with
    | some (.lst xs) => some xs
    | _ => none
  | _ => none
def asS (μ : Mu) : U → Option (List U)
  | .tup xs => some xs
  | u => asL μ u
def asInt : U → Option Int
  | .int i => some i
  | _ => none
def asBl : U → Option Bool
  | .bl b => some b
  | _ => none
def sky : U → Option Key
  | .int i => some (.inl i)
  | .str x => some (.inr x)
  | _ => none
def tky : U → Option (List Key)
  | .tup xs => mapO sky xs
  | _ => none
/-- a look-up -/
def lk {κ : Type} [DecidableEq κ] : List κ → List U → κ → Option U
  | k :: ks, v :: vs, q => if k = q then some v else lk ks vs q
  | _, _, _ => none
def rpl {κ : Type} [DecidableEq κ] : List κ → List U → κ → U → List U
  | k :: ks, v :: vs, q, u => (if k = q then u else v) :: rpl ks vs q u
  | _, _, _, _ => []
def pt {κ : Type} [DecidableEq κ] (ks : List κ) (vs : List U) (q : κ) (u : U) : List U := if q ∈ ks then rpl ks vs q u else vs ++ [u]
def ptk {κ : Type} [DecidableEq κ] (ks : List κ) (q : κ) : List κ := if q ∈ ks then ks else ks ++ [q]
/-- the value itself, or what the mutable one holds -/
def cont (μ : Mu) : U → Option U
  | .ob i => μ[i]?
  | u => some u
/-- none: no dict or a key of the wrong kind -/
def dget (μ : Mu) (d k : U) : Option (Option U) :=
  match cont μ d with
  | some (.dk ks vs) => match sky k with
    | some q => some (lk ks vs q)
    | none => none
  | some (.dt ks vs) => match tky k with
    | some q => some (lk ks vs q)
    | none => none
  | _ => none
def dput (o k v : U) : Option U :=
  match o with
  | .dk ks vs => match sky k with
    | some q => if ks.length < SZ then some (.dk (ptk ks q) (pt ks vs q v)) else none
    | none => none
  | .dt ks vs => match tky k with
    | some q => if ks.length < SZ then some (.dt (ptk ks q) (pt ks vs q v)) else none
    | none => none
  | _ => none

def truth (μ : Mu) : U → Option Bool
  | .non => some false
  | .bl b => some b
  | .int i => some (i != 0)
  | .str x => if x.length ≤ SZ then some ((x.length : Int) != 0) else none
  | .tup xs => some !xs.isEmpty
  | .lst xs => some !xs.isEmpty
  | .ob i => match μ[i]? with
    | some (.lst xs) => some !xs.isEmpty
    | some (.dk ks _) => some !ks.isEmpty
    | _ => none
  | _ => none

def fresh (al : Bool) (u : U) (μ : Mu) : U × Mu := if al then (.ob μ.length, μ ++ [u]) else (u, μ)

def mulOk (i j : Int) : Bool := (decide (-(2 ^ 64) < i) && decide (i < 2 ^ 64)) || (decide (-(2 ^ 64) < j) && decide (j < 2 ^ 64))
def evBin (al : Bool) (μ : Mu) : Bo → U → U → Option (U × Mu)
  | .add, .int i, .int j => some (.int (i + j), μ)
  | .sub, .int i, .int j => some (.int (i - j), μ)
  | .mul, .int i, .int j => if mulOk i j then some (.int (i * j), μ) else none
  | .fdiv, .int i, .int j => if 0 < j ∧ j < 1073741824 then some (.int (i / j), μ) else none
  | .mod, .int i, .int j => if 0 < j then some (.int (i % j), μ) else none
  | .pow, .int i, .int j => if 0 ≤ j ∧ j ≤ 1000000 ∧ i.natAbs < 2 ^ 64 then some (.int (i ^ j.toNat), μ) else none
  | .shl, .int i, .int j => if 0 ≤ j ∧ j ≤ 1000000 ∧ i.natAbs < 2 ^ 64 then some (.int (i * 2 ^ j.toNat), μ) else none
  | .shr, .int i, .int j => if 0 ≤ j then some (.int (i / 2 ^ j.toNat), μ) else none
  | .band, .int i, .int j => some (.int (Builtin.bitAnd i j), μ)
  | .bor, .int i, .int j => some (.int (Builtin.bitOr i j), μ)
  | .bxor, .int i, .int j => some (.int (Builtin.bitXor i j), μ)
  | .add, .str a, .str b => if a.length + b.length ≤ SZ then some (.str (a ++ b), μ) else none
  | .add, .tup xs, .tup ys => if xs.length + ys.length ≤ SZ then some (.tup (xs ++ ys), μ) else none
  | .add, u, v => match asL μ u, asL μ v with
    | some xs, some ys => if xs.length + ys.length ≤ SZ then some (fresh al (.lst (xs ++ ys)) μ) else none
    | _, _ => none
  | .mul, .tup xs, .int k => if -(2 ^ 63) ≤ k ∧ k < 2 ^ 63 ∧ xs.length * k.toNat ≤ SZ then some (.tup (List.replicate k.toNat xs).flatten, μ) else none
  | .mul, u, .int k => match asL μ u with
    | some xs => if -(2 ^ 63) ≤ k ∧ k < 2 ^ 63 ∧ xs.length * k.toNat ≤ SZ then some (fresh al (.lst (List.replicate k.toNat xs).flatten) μ) else none
    | none => none
  | _, _, _ => none

def evEq (μ : Mu) (a b : U) : Option Bool :=
  match dat μ D0 a, dat μ D0 b with
  | some x, some y => some (PyData.eqv x y)
  | _, _ => none
def evIn (μ : Mu) (a b : U) : Option Bool :=
  match cont μ b with
  | some (.dk ks vs) => match dget μ b a with
    | some o => some o.isSome
    | none => none
  | some (.dt ks vs) => match dget μ b a with
    | some o => some o.isSome
    | none => none
  | _ => match dat μ D0 a, dat μ D0 b with
    | some x, some (.tuple ys) => some (ys.any fun y => y.eqv x)
    | some x, some (.list ys) => some (ys.any fun y => y.eqv x)
    | _, _ => none
def evLt (μ : Mu) (a b : U) : Option Bool :=
  match a, b with
  | .int i, .int j => some (decide (i < j))
  | a, b => match dat μ D0 a, dat μ D0 b with
    | some .none, _ => none
    | some x, some y => if PySem.W.alike x y then some (PySem.W.dataLt x y) else none
    | _, _ => none
def isNon : U → Bool
  | .non => true
  | _ => false
def neg? : Option Bool → Option Bool
  | some b => some !b
  | none => none
def evCmp (μ : Mu) : Co → U → U → Option Bool
  | .eq, a, b => evEq μ a b
  | .ne, a, b => neg? (evEq μ a b)
  | .lt, a, b => evLt μ a b
  | .gt, a, b => evLt μ b a
  | .le, a, b => neg? (evLt μ b a)
  | .ge, a, b => neg? (evLt μ a b)
  | .isin, a, b => evIn μ a b
  | .notin, a, b => neg? (evIn μ a b)
  | .is_, a, .non => some (isNon a)
  | .isnot, a, .non => some !isNon a
  | _, _, _ => none

def evIdx (μ : Mu) (a i : U) : Option U :=
  match cont μ a with
  | some (.dk _ _) => (dget μ a i).bind id
  | some (.dt _ _) => (dget μ a i).bind id
  | some (.str x) => match i with
    | .int j => if x.length ≤ SZ then (match L2.atI x.cps.toList j with | some c => some (.str ⟨#[c]⟩) | none => none) else none
    | _ => none
  | some (.tup xs) => match i with
    | .int j => L2.atI xs j
    | _ => none
  | some (.lst xs) => match i with
    | .int j => L2.atI xs j
    | _ => none
  | _ => none
def bnd : U → Option (Option Int)
  | .non => some none
  | .int i => some (some i)
  | _ => none
def cutU (xs : List U) (lo hi : Option Int) : List U := (xs.drop (HT.sIx xs.length 0 lo)).take (HT.sIx xs.length xs.length hi - HT.sIx xs.length 0 lo)
def evSlc (al : Bool) (μ : Mu) (a lo hi : U) : Option (U × Mu) :=
  match bnd lo, bnd hi with
  | some l, some h => match a with
    | .tup xs => some (.tup (cutU xs l h), μ)
    | .str x => if x.length ≤ SZ then some (.str (Txt.slice x l h), μ) else none
    | a => match asL μ a with
      | some xs => some (fresh al (.lst (cutU xs l h)) μ)
      | none => none
  | _, _ => none
def evRev (al : Bool) (μ : Mu) (a : U) : Option (U × Mu) :=
  match asL μ a with
  | some xs => some (fresh al (.lst xs.reverse) μ)
  | none => none

def minL : List Int → Option Int
  | [] => none
  | x :: xs => some (xs.foldl (fun a b => if b < a then b else a) x)
def maxL : List Int → Option Int
  | [] => none
  | x :: xs => some (xs.foldl (fun a b => if a < b then b else a) x)
def intL (μ : Mu) (u : U) : Option (List Int) :=
  match asL μ u with
  | some xs => mapO asInt xs
  | none => none
def intT (μ : Mu) (u : U) : Option (List Int) :=
  match asS μ u with
  | some xs => mapO asInt xs
  | none => none
def bls (μ : Mu) (u : U) : Option (List Bool) :=
  match asL μ u with
  | some xs => mapO asBl xs
  | none => none
def evBi (μ : Mu) : Bi → List U → Option U
  | .len, [u] => match cont μ u with
    | some (.str x) => if x.length ≤ SZ then some (.int x.length) else none
    | some (.tup xs) => some (.int xs.length)
    | some (.lst xs) => some (.int xs.length)
    | some (.dk ks _) => some (.int ks.length)
    | some (.dt ks _) => some (.int ks.length)
    | _ => none
  | .int, [.int i] => some (.int i)
  | .int, [.bl b] => some (.int (if b then 1 else 0))
  | .abs, [.int i] => some (.int (if i < 0 then -i else i))
  | .all, [u] => (bls μ u).map fun bs => .bl (bs.all id)
  | .any, [u] => (bls μ u).map fun bs => .bl (bs.any id)
  | .sum, [u] => (intL μ u).map fun ns => .int ns.sum
  | .min1, [u] => ((intT μ u).bind minL).map U.int
  | .max1, [u] => ((intT μ u).bind maxL).map U.int
  | .min2, [.int i, .int j] => some (.int (if j < i then j else i))
  | .max2, [.int i, .int j] => some (.int (if j > i then j else i))
  | _, _ => none
def evIsi (μ : Mu) (u : U) (t : Ty) : Option Bool :=
  match cont μ u with
  | some .non => some false
  | some (.bl _) => some (t = .bool ∨ t = .int)
  | some (.int _) => some (t = .int)
  | some (.str _) => some (t = .str)
  | some (.tup _) => some (t = .tuple)
  | some (.lst _) => some (t = .list)
  | some (.dk _ _) => some (t = .dict)
  | some (.dt _ _) => some (t = .dict)
  | _ => none

/-! ### walks -/
def rgn (a b : Int) : List U := (List.range (b - a).toNat).map fun (k : Nat) => U.int (a + k)
def enum (xs : List U) : List U := ((List.range xs.length).zip xs).map fun p => .tup [.int (p.1 : Nat), p.2]
def zips (xs ys : List U) : List U := (xs.zip ys).map fun p => .tup [p.1, p.2]
/-- the items, or a mutable list that is walked as it stands -/
def walk (μ : Mu) : Ik → List U → Option (List U ⊕ Nat)
  | .ex, [.tup xs] => some (.inl xs)
  | .ex, [.lst xs] => some (.inl xs)
  | .ex, [.str x] => some (.inl (x.cps.toList.map fun c => .str ⟨#[c]⟩))
  | .ex, [.ob i] => match μ[i]? with
    | some (.lst _) => some (.inr i)
    | _ => none
  | .ex, [.scr ns] => some (.inl (ns.map U.int))
  | .rng, [.int b] => if -(2 ^ 62) ≤ b ∧ b < 2 ^ 62 then some (.inl (rgn 0 b)) else none
  | .rng, [.int a, .int b] => if -(2 ^ 62) ≤ a ∧ a < 2 ^ 62 ∧ -(2 ^ 62) ≤ b ∧ b < 2 ^ 62 then some (.inl (rgn a b)) else none
  | .enm, [.lst xs] => some (.inl (enum xs))
  | .zip, [.lst xs, .lst ys] => some (.inl (zips xs ys))
  | .zip, [.tup xs, .tup ys] => some (.inl (zips xs ys))
  | _, _ => none

def pairKV : U → Option (U × U)
  | .tup [k, v] => some (k, v)
  | _ => none
def pairUp : List U → Option (List (U × U))
  | [] => some []
  | k :: v :: r => match pairUp r with
    | some ps => some ((k, v) :: ps)
    | none => none
  | _ => none
def mergeU (tk : Bool) : List (U × U) → U → Option U
  | [], o => some o
  | p :: ps, o => match dput o p.1 p.2 with
    | some o' => mergeU tk ps o'
    | none => none
def srtd (μ : Mu) (xs : List U) : Option (List U) :=
  match mapO (dat μ D0) xs with
  | some ds => if ds.all (fun d => ds.all fun e => PySem.W.alike d e) && (ds.all (fun d => match d with | .tuple (_ :: _) => true | _ => false) || ds.all (fun d => match d with | .tuple _ => false | .none => false | _ => true)) && decide (ds.length ≤ SZ)
    then some (((xs.zip ds).mergeSort (PySem.W.dataLe false Prod.snd)).map (·.1)) else none
  | none => none
def keyU : Key → U
  | .inl i => .int i
  | .inr x => .str x
def keysU (k : List Key) : U := .tup (k.map keyU)
/-- the items for a collector -/
def items (μ : Mu) (c : Cl) (ik : Ik) (us : List U) : Option (List U) :=
  match c, ik, us with
  | .list, .ex, [.scr ns] => some (ns.map U.int)
  | .tuple, .ex, [.scr ns] => some (ns.map U.int)
  | .dict _, .ex, [u] => asL μ u
  | .tuple, .ex, [u] => asS μ u
  | .list, .rng, [.int b] => if -(2 ^ 62) ≤ b ∧ b ≤ 2 ^ 24 then some (rgn 0 b) else none
  | .tuple, .rng, [.int b] => if -(2 ^ 62) ≤ b ∧ b ≤ 2 ^ 24 then some (rgn 0 b) else none
  | .list, .rng, [.int a, .int b] => if -(2 ^ 62) ≤ a ∧ a < 2 ^ 62 ∧ -(2 ^ 62) ≤ b ∧ b < 2 ^ 62 ∧ (b - a).toNat ≤ 2 ^ 24 then some (rgn a b) else none
  | .tuple, .rng, [.int a, .int b] => if -(2 ^ 62) ≤ a ∧ a < 2 ^ 62 ∧ -(2 ^ 62) ≤ b ∧ b < 2 ^ 62 ∧ (b - a).toNat ≤ 2 ^ 24 then some (rgn a b) else none
  | _, .ex, [u] => match asS μ u with
    | some xs => some xs
    | none => match cont μ u with
      | some (.dk ks _) => some (ks.map keyU)
      | some (.dt ks _) => some (ks.map keysU)
      | _ => none
  | _, _, _ => none
def evCol (al : Bool) (μ : Mu) (c : Cl) (xs : List U) : Option (U × Mu) :=
  match c with
  | .list => some (fresh al (.lst xs) μ)
  | .tuple => some (.tup xs, μ)
  | .sorted => match srtd μ xs with
    | some ys => some (fresh al (.lst ys) μ)
    | none => none
  | .dict false => match mapO pairKV xs with
    | some ps => (match mergeU false ps (.dk [] []) with
      | some o => some (fresh al o μ)
      | none => none)
    | none => none
  | .dict true => none

mutual
def bindP (μ : Mu) : Pt → U → Env → Option Env
  | .slot i, u, σ => some (σ.set i (some u))
  | .tup ps, .tup us, σ => if ps.length = us.length then bindPs μ ps us σ else none
  | .tup _, _, _ => none
def bindPs (μ : Mu) : List Pt → List U → Env → Option Env
  | [], [], σ => some σ
  | p :: ps, u :: us, σ => match bindP μ p u σ with
    | some σ' => bindPs μ ps us σ'
    | none => none
  | _, _, _ => none
end
def wipeE (σ : Env) : List Nat → Env
  | [] => σ
  | v :: vs => (wipeE σ vs).set v none
/-- a mutable one is written: an elder frame's takes no mutable one -/
def okw (n0 i : Nat) (u : U) : Bool := decide (n0 ≤ i) || nomut u
def evMe (n0 : Nat) (al : Bool) (μ : Mu) : Mt → U → List U → Option (U × Mu)
  | .append, .ob i, [u] => match μ[i]? with
    | some (.lst xs) => if xs.length < SZ ∧ okw n0 i u = true then some (.non, μ.set i (.lst (xs ++ [u]))) else none
    | _ => none
  | .pop0, .ob i, [] => match μ[i]? with
    | some (.lst xs) => match xs[xs.length - 1]? with
      | some u => some (u, μ.set i (.lst xs.dropLast))
      | none => none
    | _ => none
  | .pop1, .ob i, [.int j] => match μ[i]? with
    | some (.lst xs) => if -(2 ^ 63) ≤ j ∧ j < 2 ^ 63 then (match L2.ixN xs.length j with
      | some k => match xs[k]? with
        | some u => some (u, μ.set i (.lst (xs.eraseIdx k)))
        | none => none
      | none => none) else none
    | _ => none
  | .get2, d, [k, x] => match dget μ d k with
    | some o => some (o.getD x, μ)
    | none => none
  | _, _, _ => none

/-- what a method may be asked of -/
def okm (μ : Mu) (m : Mt) (u : U) : Bool :=
  match m with
  | .append | .pop0 | .pop1 | .index | .count => (asL μ u).isSome
  | .get2 => match cont μ u with
    | some (.dk _ _) => true
    | some (.dt _ _) => true
    | _ => false

/-- a comprehension's turns -/
def compL (step : U → Mu → Option (Option U × Mu)) : List U → List U → Mu → Option (List U × Mu)
  | [], acc, μ => some (acc, μ)
  | x :: xs, acc, μ => match step x μ with
    | some (some y, μ') => if acc.length < SZ then compL step xs (acc ++ [y]) μ' else none
    | some (none, μ') => compL step xs acc μ'
    | none => none
/-- over a mutable list as it stands -/
def compV (step : U → Mu → Option (Option U × Mu)) (i : Nat) : Nat → Nat → List U → Mu → Option (List U × Mu)
  | 0, _, _, _ => none
  | f + 1, k, acc, μ => match μ[i]? with
    | some (.lst xs) => match xs[k]? with
      | none => some (acc, μ)
      | some x => match step x μ with
        | some (some y, μ') => if acc.length < SZ then compV step i f (k + 1) (acc ++ [y]) μ' else none
        | some (none, μ') => compV step i f (k + 1) acc μ'
        | none => none
    | _ => none
def FU : Nat := 100000000

variable (cal : Nat → List U → Mu → Option (U × Mu)) (n0 : Nat)
mutual
def evalE : E → Env → Mu → Option (U × Mu)
  | .var i, σ, μ => match σ[i]? with
    | some (some u) => some (u, μ)
    | _ => none
  | .non, _, μ => some (.non, μ)
  | .bl b, _, μ => some (.bl b, μ)
  | .int i, _, μ => some (.int i, μ)
  | .str x, _, μ => some (.str x, μ)
  | .gint i, _, μ => some (.int i, μ)
  | .fnv f, _, μ => some (.fn f, μ)
  | .tup es, σ, μ => match evalL es σ μ with
    | some (us, μ) => if us.length ≤ SZ then some (.tup us, μ) else none
    | none => none
  | .lst al es, σ, μ => match evalL es σ μ with
    | some (us, μ) => if us.length ≤ SZ then some (fresh al (.lst us) μ) else none
    | none => none
  | .dct al tk es, σ, μ => match evalL es σ μ with
    | some (us, μ) => match pairUp us with
      | some ps => if ps.length ≤ 15 then (match mergeU tk ps (if tk then .dt [] [] else .dk [] []) with
        | some o => some (fresh al o μ)
        | none => none) else none
      | none => none
    | none => none
  | .bin al op a b, σ, μ => match evalE a σ μ with
    | some (u, μ) => match evalE b σ μ with
      | some (v, μ) => evBin al μ op u v
      | none => none
    | none => none
  | .neg a, σ, μ => match evalE a σ μ with
    | some (.int i, μ) => some (.int (-i), μ)
    | _ => none
  | .cmp op a b, σ, μ => match evalE a σ μ with
    | some (u, μ) => match evalE b σ μ with
      | some (v, μ) => match evCmp μ op u v with
        | some c => some (.bl c, μ)
        | none => none
      | none => none
    | none => none
  | .chain op op' a b c, σ, μ => match evalE a σ μ with
    | some (u, μ) => match evalE b σ μ with
      | some (v, μ) => match evCmp μ op u v with
        | some false => some (.bl false, μ)
        | some true => match evalE c σ μ with
          | some (w, μ) => match evCmp μ op' v w with
            | some d => some (.bl d, μ)
            | none => none
          | none => none
        | none => none
      | none => none
    | none => none
  | .bool and es, σ, μ => evalB and es σ μ
  | .not a, σ, μ => match evalE a σ μ with
    | some (u, μ) => match truth μ u with
      | some b => some (.bl !b, μ)
      | none => none
    | none => none
  | .ite c a b, σ, μ => match evalE c σ μ with
    | some (u, μ) => match truth μ u with
      | some true => evalE a σ μ
      | some false => evalE b σ μ
      | none => none
    | none => none
  | .idx a i, σ, μ => match evalE a σ μ with
    | some (u, μ) => match evalE i σ μ with
      | some (v, μ) => match evIdx μ u v with
        | some w => some (w, μ)
        | none => none
      | none => none
    | none => none
  | .slc al a lo hi, σ, μ => match evalE a σ μ with
    | some (u, μ) => match evalE lo σ μ with
      | some (l, μ) => match evalE hi σ μ with
        | some (h, μ) => evSlc al μ u l h
        | none => none
      | none => none
    | none => none
  | .rev al a, σ, μ => match evalE a σ μ with
    | some (u, μ) => evRev al μ u
    | none => none
  | .comp al p ik its c e ws, σ, μ => match evalL its σ μ with
    | some (us, μ) => match walk μ ik us with
      | some (.inl xs) => match compL (fun x μ => match bindP μ p x (wipeE σ ws) with
          | some σ' => match evalE c σ' μ with
            | some (t, μ) => match truth μ t with
              | some true => match evalE e σ' μ with
                | some (y, μ) => some (some y, μ)
                | none => none
              | some false => some (none, μ)
              | none => none
            | none => none
          | none => none) xs [] μ with
        | some (ys, μ) => some (fresh al (.lst ys) μ)
        | none => none
      | some (.inr i) => match compV (fun x μ => match bindP μ p x (wipeE σ ws) with
          | some σ' => match evalE c σ' μ with
            | some (t, μ) => match truth μ t with
              | some true => match evalE e σ' μ with
                | some (y, μ) => some (some y, μ)
                | none => none
              | some false => some (none, μ)
              | none => none
            | none => none
          | none => none) i FU 0 [] μ with
        | some (ys, μ) => some (fresh al (.lst ys) μ)
        | none => none
      | none => none
    | none => none
  | .col al c ik its, σ, μ => match evalL its σ μ with
    | some (us, μ) => match items μ c ik us with
      | some xs => evCol al μ c xs
      | none => none
    | none => none
  | .call f es, σ, μ => match evalL es σ μ with
    | some (us, μ) => cal f us μ
    | none => none
  | .bi b es, σ, μ => match evalL es σ μ with
    | some (us, μ) => match evBi μ b us with
      | some u => some (u, μ)
      | none => none
    | none => none
  | .isi e t, σ, μ => match evalE e σ μ with
    | some (u, μ) => match evIsi μ u t with
      | some b => some (.bl b, μ)
      | none => none
    | none => none
  | .me al m a es, σ, μ => match evalE a σ μ with
    | some (u, μ) => match okm μ m u with
      | true => match evalL es σ μ with
        | some (us, μ) => evMe n0 al μ m u us
        | none => none
      | false => none
    | none => none
def evalL : List E → Env → Mu → Option (List U × Mu)
  | [], _, μ => some ([], μ)
  | e :: es, σ, μ => match evalE e σ μ with
    | some (u, μ) => match evalL es σ μ with
      | some (us, μ) => some (u :: us, μ)
      | none => none
    | none => none
def evalB (and : Bool) : List E → Env → Mu → Option (U × Mu)
  | [], _, _ => none
  | [e], σ, μ => evalE e σ μ
  | e :: e2 :: es, σ, μ => match evalE e σ μ with
    | some (u, μ) => match truth μ u with
      | some b => if b = and then evalB and (e2 :: es) σ μ else some (u, μ)
      | none => none
    | none => none
end

inductive Out where
  | nx (σ : Env) (μ : Mu) | rt (u : U) (μ : Mu) | bk (σ : Env) (μ : Mu) | ct (σ : Env) (μ : Mu)

def forL (step : U → Env → Mu → Option Out) : List U → Env → Mu → Option Out
  | [], σ, μ => some (.nx σ μ)
  | x :: xs, σ, μ => match step x σ μ with
    | some (.nx σ μ) => forL step xs σ μ
    | some (.ct σ μ) => forL step xs σ μ
    | some (.bk σ μ) => some (.nx σ μ)
    | o => o
def forV (step : U → Env → Mu → Option Out) (i : Nat) : Nat → Nat → Env → Mu → Option Out
  | 0, _, _, _ => none
  | f + 1, k, σ, μ => match μ[i]? with
    | some (.lst xs) => match xs[k]? with
      | none => some (.nx σ μ)
      | some x => match step x σ μ with
        | some (.nx σ μ) => forV step i f (k + 1) σ μ
        | some (.ct σ μ) => forV step i f (k + 1) σ μ
        | some (.bk σ μ) => some (.nx σ μ)
        | o => o
    | _ => none
def whL (cond : Env → Mu → Option (Bool × Mu)) (body : Env → Mu → Option Out) : Nat → Env → Mu → Option Out
  | 0, _, _ => none
  | f + 1, σ, μ => match cond σ μ with
    | some (true, μ) => match body σ μ with
      | some (.nx σ μ) => whL cond body f σ μ
      | some (.ct σ μ) => whL cond body f σ μ
      | some (.bk σ μ) => some (.nx σ μ)
      | o => o
    | some (false, μ) => some (.nx σ μ)
    | none => none
def storeSub (n0 : Nat) (μ : Mu) (a i u : U) : Option Mu :=
  match a with
  | .ob k => match μ[k]? with
    | some (.lst xs) => match i with
      | .int j => match L2.ixN xs.length j with
        | some q => if okw n0 k u then some (μ.set k (.lst (xs.set q u))) else none
        | none => none
      | _ => none
    | some o => match dput o i u with
      | some o' => if okw n0 k u then some (μ.set k o') else none
      | none => none
    | none => none
  | _ => none
def bindI : List Nat → List U → Env → Option Env
  | [], [], σ => some σ
  | i :: is, u :: us, σ => bindI is us (σ.set i (some u))
  | _, _, _ => none

mutual
def exS : S → Env → Mu → Option Out
  | .set i e, σ, μ => match evalE cal n0 e σ μ with
    | some (u, μ) => some (.nx (σ.set i (some u)) μ)
    | none => none
  | .par is es, σ, μ => match evalL cal n0 es σ μ with
    | some (us, μ) => match bindI is us σ with
      | some σ => some (.nx σ μ)
      | none => none
    | none => none
  | .asg p e, σ, μ => match evalE cal n0 e σ μ with
    | some (u, μ) => match bindP μ p u σ with
      | some σ => some (.nx σ μ)
      | none => none
    | none => none
  | .sub a i e, σ, μ => match evalE cal n0 e σ μ with
    | some (u, μ) => match evalE cal n0 a σ μ with
      | some (d, μ) => match evalE cal n0 i σ μ with
        | some (j, μ) => match storeSub n0 μ d j u with
          | some μ => some (.nx σ μ)
          | none => none
        | none => none
      | none => none
    | none => none
  | .ex e, σ, μ => match evalE cal n0 e σ μ with
    | some (_, μ) => some (.nx σ μ)
    | none => none
  | .ret e, σ, μ => match evalE cal n0 e σ μ with
    | some (u, μ) => some (.rt u μ)
    | none => none
  | .iff c t f, σ, μ => match evalE cal n0 c σ μ with
    | some (u, μ) => match truth μ u with
      | some true => exL t σ μ
      | some false => exL f σ μ
      | none => none
    | none => none
  | .for_ p ik its b, σ, μ => match evalL cal n0 its σ μ with
    | some (us, μ) => match walk μ ik us with
      | some (.inl xs) => forL (fun x σ μ => match bindP μ p x σ with
        | some σ => exL b σ μ
        | none => none) xs σ μ
      | some (.inr i) => forV (fun x σ μ => match bindP μ p x σ with
        | some σ => exL b σ μ
        | none => none) i FU 0 σ μ
      | none => none
    | none => none
  | .wh c b, σ, μ => whL (fun σ μ => match evalE cal n0 c σ μ with
      | some (u, μ) => match truth μ u with
        | some t => some (t, μ)
        | none => none
      | none => none) (fun σ μ => exL b σ μ) FU σ μ
  | .pass, σ, μ => some (.nx σ μ)
  | .brk, σ, μ => some (.bk σ μ)
  | .cont, σ, μ => some (.ct σ μ)
  | .stuck, _, _ => none
def exL : List S → Env → Mu → Option Out
  | [], σ, μ => some (.nx σ μ)
  | s :: ss, σ, μ => match exS s σ μ with
    | some (.nx σ μ) => exL ss σ μ
    | o => o
end

/-- a def: the number of its parameters, of its slots, its body, whether what it hands back stays mutable -/
structure Df where
  ps : Nat
  ns : Nat
  body : List S
  keep : Bool
def finish (keep : Bool) (n0 : Nat) (u : U) (μ : Mu) : Option (U × Mu) :=
  if keep then some (u, μ) else match frz n0 μ D0 u with
    | some v => some (v, μ.take n0)
    | none => none
def runF (defs : List Df) : Nat → Nat → List U → Mu → Option (U × Mu)
  | 0, _, _, _ => none
  | k + 1, f, us, μ => match defs[f]? with
    | some d => if us.length = d.ps then (match exL (runF defs k) μ.length d.body (us.map some ++ List.replicate (d.ns - d.ps) none) μ with
      | some (.rt u μ') => finish d.keep μ.length u μ'
      | some (.nx _ μ') => finish d.keep μ.length .non μ'
      | _ => none) else none
    | none => none
end R

set_option Elab.async false
set_option linter.all false
set_option maxRecDepth 100000
set_option maxHeartbeats 4000000
/-! R3a: readings; operators by values -/
namespace R
open PySem PySem.Spec PyProof.Rows L2

theorem sz_line : SZ = sizeLine := by rw [sizeLine_eq]; rfl
theorem PE.imp {X : Cx} {e : Expr} {t t' : TE} (h : PE X e t) (hi : ∀ σ H Q, t' σ H Q → t σ H Q) : PE X e t' := ⟨fun pins s σ H Q I q => h.run pins s σ H Q I (hi _ _ _ q)⟩
theorem PT.imp {X : Cx} {e : Expr} {t t' : TT} (h : PT X e t) (hi : ∀ σ H Q, t' σ H Q → t σ H Q) : PT X e t' := ⟨fun pins s σ H Q I q => h.run pins s σ H Q I (hi _ _ _ q)⟩
theorem PW.imp {X : Cx} {e : Expr} {t t' : TT} (h : PW X e t) (hi : ∀ σ H Q, t' σ H Q → t σ H Q) : PW X e t' := ⟨fun w pins s σ H Q I q => h.run w pins s σ H Q I (hi _ _ _ q)⟩
theorem PA.imp {X : Cx} {e : List Expr} {t t' : TA} (h : PA X e t) (hi : ∀ σ H Q, t' σ H Q → t σ H Q) : PA X e t' := ⟨fun p pins s σ H Q I q => h.run p pins s σ H Q I (hi _ _ _ q)⟩
theorem PS.imp {X : Cx} {e : Stmt} {t t' : TS} (h : PS X e t) (hi : ∀ D σ H, t' D σ H → t D σ H) : PS X e t' := ⟨fun pins s σ H D I q => h.run pins s σ H D I (hi _ _ _ q)⟩
theorem PSs.imp {X : Cx} {e : List Stmt} {t t' : TS} (h : PSs X e t) (hi : ∀ D σ H, t' D σ H → t D σ H) : PSs X e t' := ⟨fun pins s σ H D I q => h.run pins s σ H D I (hi _ _ _ q)⟩
theorem OpR.imp {X : Cx} {f : Value → Value → Sem Value} {r r' : R2} (h : OpR X f r) (hi : ∀ x y H Q, r' x y H Q → r x y H Q) : OpR X f r' := fun pins s σ H x y v u Q I rx ry q => h pins s σ H x y v u Q I rx ry (hi _ _ _ _ q)

section
variable (K : PySem.W.Frag) (fa : Nat → Option Addr)
/-- the frame's names -/
structure EnvR (t m : List Addr) (H : Hp) (σ : Env) (σV : L2.St) : Prop where
  len : σ.length = σV.length
  at_ : ∀ (i : Nat) (u : U), σ[i]? = some (some u) → ∃ v, σV[i]? = some (some v) ∧ Rp K fa t m m.length H u v
/-- what is known behind -/
def Kn (bs : List Nat) (t m : List Addr) (H : Hp) (u : U) (μ' : Mu) (Q : VK) : Prop :=
  ∀ m' H' v, Ex m H m' H' → Me K fa bs t m' H' μ' → Rp K fa t m' m'.length H' u v → Q v H'
def KnA (bs : List Nat) (t m : List Addr) (H : Hp) (us : List U) (μ' : Mu) (Q : List V → Hp → Prop) : Prop :=
  ∀ m' H' vs, Ex m H m' H' → Me K fa bs t m' H' μ' → RpA K fa t m' m'.length H' us vs → Q vs H'
abbrev Ev := Env → Mu → Option (U × Mu)
def tE (n0 : Nat) (ev : Ev) : TE := fun σV H Q => ∃ t bs m σ μ u μ', bs.length = n0 ∧ EnvR K fa t m H σ σV ∧ Me K fa bs t m H μ ∧ ev σ μ = some (u, μ') ∧ Kn K fa bs t m H u μ' Q
def tT (n0 : Nat) (ev : Ev) : TT := fun σV H Q => ∃ t bs m σ μ u μ' b, bs.length = n0 ∧ EnvR K fa t m H σ σV ∧ Me K fa bs t m H μ ∧ ev σ μ = some (u, μ') ∧ truth μ' u = some b ∧
  ∀ m' H', Ex m H m' H' → Me K fa bs t m' H' μ' → Q b H'
def tL (n0 : Nat) (ev : Env → Mu → Option (List U × Mu)) : TA := fun σV H Q => ∃ t bs m σ μ us μ', bs.length = n0 ∧ EnvR K fa t m H σ σV ∧ Me K fa bs t m H μ ∧ ev σ μ = some (us, μ') ∧ KnA K fa bs t m H us μ' Q
/-- two values, then something -/
def rV2 (f : Mu → U → U → Option (U × Mu)) : R2 := fun x y H Q => ∃ t bs m μ a b u μ', Me K fa bs t m H μ ∧ Rp K fa t m m.length H a x ∧ Rp K fa t m m.length H b y ∧ f μ a b = some (u, μ') ∧ Kn K fa bs t m H u μ' Q
end
section
variable {K : PySem.W.Frag} {fa : Nat → Option Addr} {t m m' : List Addr} {H H' : Hp} {σ : Env} {σV : L2.St} {bs : List Nat} {μ μ' : Mu} {u : U} {v : V} {Q : VK} {n0 : Nat}
theorem EnvR.ex (h : EnvR K fa t m H σ σV) (e : Ex m H m' H') : EnvR K fa t m' H' σ σV := ⟨h.len, fun i u q => let ⟨v, a, b⟩ := h.at_ i u q; ⟨v, a, b.ex e e.len⟩⟩
theorem Rp.ex' (h : Rp K fa t m m.length H u v) (e : Ex m H m' H') : Rp K fa t m' m'.length H' u v := h.ex e e.len
theorem RpA.ex' {us : List U} {vs : List V} (h : RpA K fa t m m.length H us vs) (e : Ex m H m' H') : RpA K fa t m' m'.length H' us vs := h.ex e e.len
theorem Kn.ex (k : Kn K fa bs t m H u μ' Q) (e : Ex m H m' H') : Kn K fa bs t m' H' u μ' Q := fun m2 H2 v e2 M r => k m2 H2 v (e.trans e2) M r
/-- nothing changes -/
theorem Kn.here (k : Kn K fa bs t m H u μ Q) (M : Me K fa bs t m H μ) (r : Rp K fa t m m.length H u v) : Q v H := k m H v (Ex.refl m H) M r
/-- a new frozen object -/
theorem Kn.new {p : Addr} {o : HO} (k : Kn K fa bs t m H u μ Q) (M : Me K fa bs t m H μ) (h : H p = none) (r : Rp K fa t m m.length (upd H p o) u v) : Q v (upd H p o) := k m _ v (Ex.upd h) (M.upd h) r
/-- a new tuple -/
theorem Kn.tup {p : Addr} {xs : List U} {vs : List V} (k : Kn K fa bs t m H (.tup xs) μ Q) (M : Me K fa bs t m H μ) (h : H p = none) (r : RpA K fa t m m.length H xs vs) : Q (.ref p) (upd H p (.tup vs)) := by
  obtain ⟨n1, n2⟩ := M.fresh h
  exact k.new M h (.tup ⟨upd_same, n1, n2⟩ (r.ex' (Ex.upd h)))
/-- a new list, frozen or mutable -/
theorem Kn.lst {p : Addr} {xs : List U} {vs : List V} {al : Bool} (k : Kn K fa bs t m H (fresh al (.lst xs) μ).1 (fresh al (.lst xs) μ).2 Q) (M : Me K fa bs t m H μ) (h : H p = none) (r : RpA K fa t m m.length H xs vs) : Q (.ref p) (upd H p (.lst vs)) := by
  obtain ⟨n1, n2⟩ := M.fresh h
  cases al with
  | false => exact k.new M h (.lst ⟨upd_same, n1, n2⟩ (r.ex' (Ex.upd h)))
  | true =>
    have e : Ex m H (m ++ [p]) (upd H p (.lst vs)) := Ex.alloc h
    refine k (m ++ [p]) _ _ e (M.alloc h (.lst upd_same (r.ex e (by simp)))) (.ob (by simp [← M.len]) (by simp [← M.len]))
theorem Kn.dk {p : Addr} {kvs : List (Key × V)} {us : List U} {al : Bool} (k : Kn K fa bs t m H (fresh al (.dk (kvs.map (·.1)) us) μ).1 (fresh al (.dk (kvs.map (·.1)) us) μ).2 Q) (M : Me K fa bs t m H μ) (h : H p = none) (r : RpA K fa t m m.length H us (kvs.map (·.2))) : Q (.ref p) (upd H p (.dK kvs)) := by
  obtain ⟨n1, n2⟩ := M.fresh h
  cases al with
  | false => exact k.new M h (.dK upd_same n1 n2 (r.ex' (Ex.upd h)))
  | true =>
    have e : Ex m H (m ++ [p]) (upd H p (.dK kvs)) := Ex.alloc h
    refine k (m ++ [p]) _ _ e (M.alloc h (.dK upd_same (r.ex e (by simp)))) (.ob (by simp [← M.len]) (by simp [← M.len]))
theorem Kn.dt {p : Addr} {kvs : List (List Key × V)} {us : List U} {al : Bool} (k : Kn K fa bs t m H (fresh al (.dt (kvs.map (·.1)) us) μ).1 (fresh al (.dt (kvs.map (·.1)) us) μ).2 Q) (M : Me K fa bs t m H μ) (h : H p = none) (r : RpA K fa t m m.length H us (kvs.map (·.2))) : Q (.ref p) (upd H p (.dT kvs)) := by
  obtain ⟨n1, n2⟩ := M.fresh h
  cases al with
  | false => exact k.new M h (.dT upd_same n1 n2 (r.ex' (Ex.upd h)))
  | true =>
    have e : Ex m H (m ++ [p]) (upd H p (.dT kvs)) := Ex.alloc h
    refine k (m ++ [p]) _ _ e (M.alloc h (.dT upd_same (r.ex e (by simp)))) (.ob (by simp [← M.len]) (by simp [← M.len]))
/-- the object of a mutable one -/
theorem Me.obj (M : Me K fa bs t m H μ) {i : Nat} {v : V} {o : U} (r : Rp K fa t m m.length H (.ob i) v) (h : μ[i]? = some o) : ∃ a, v = .ref a ∧ m[i]? = some a ∧ Ct K fa t m (bs[i]?.getD m.length) H a o := by
  cases r with
  | ob hi ha => exact ⟨_, rfl, ha, M.ct i _ _ ha h⟩
theorem Me.objF (M : Me K fa bs t m H μ) {i : Nat} {v : V} {o : U} (r : Rp K fa t m m.length H (.ob i) v) (h : μ[i]? = some o) : ∃ a, v = .ref a ∧ m[i]? = some a ∧ Ct K fa t m m.length H a o := by
  obtain ⟨a, h1, h2, c⟩ := M.obj r h
  exact ⟨a, h1, h2, c.ex (Ex.refl m H) (M.bnd i) rfl⟩
/-- what stands as a list: frozen or mutable -/
theorem asL_ok (M : Me K fa bs t m H μ) {u : U} {v : V} {xs : List U} (r : Rp K fa t m m.length H u v) (h : asL μ u = some xs) : ∃ a vs, v = .ref a ∧ SqL K H a vs ∧ RpA K fa t m m.length H xs vs := by
  cases u with
  | lst ys =>
    cases h
    cases r with
    | lst f ra => exact ⟨_, _, rfl, f.sq, ra⟩
  | ob i =>
    simp only [asL] at h
    split at h
    · rename_i ys e
      cases h
      obtain ⟨a, rfl, ha, c⟩ := M.objF r e
      cases c with
      | lst hH ra => exact ⟨a, _, rfl, SqL.of hH, ra⟩
    · cases h
  | _ => simp [asL] at h
theorem asL_at (M : Me K fa bs t m H μ) {u : U} {v : V} {xs : List U} (r : Rp K fa t m m.length H u v) (h : asL μ u = some xs) : ∃ a vs, v = .ref a ∧ H a = some (.lst vs) ∧ RpA K fa t m m.length H xs vs := by
  cases u with
  | lst ys =>
    cases h
    cases r with
    | lst f ra => exact ⟨_, _, rfl, f.1, ra⟩
  | ob i =>
    simp only [asL] at h
    split at h
    · rename_i ys e
      cases h
      obtain ⟨a, rfl, ha, c⟩ := M.objF r e
      cases c with
      | lst hH ra => exact ⟨a, _, rfl, hH, ra⟩
    · cases h
  | _ => simp [asL] at h
theorem asS_ok (M : Me K fa bs t m H μ) {u : U} {v : V} {xs : List U} (r : Rp K fa t m m.length H u v) (h : asS μ u = some xs) : ∃ a vs, v = .ref a ∧ (SqL K H a vs ∨ SqT K H a vs) ∧ RpA K fa t m m.length H xs vs := by
  cases u with
  | tup ys =>
    cases h
    cases r with
    | tup f ra => exact ⟨_, _, rfl, .inr f.sq, ra⟩
  | _ =>
    obtain ⟨a, vs, e, f, ra⟩ := asL_ok M r h
    exact ⟨a, vs, e, .inl f, ra⟩

/-! ### data -/
theorem mapO_len {α β : Type} {f : α → Option β} : ∀ {xs : List α} {ys : List β}, mapO f xs = some ys → xs.length = ys.length
  | [], _, h => by cases h; rfl
  | x :: xs, ys, h => by
    simp only [mapO] at h
    split at h
    · split at h
      · rename_i e; cases h; simp [mapO_len e]
      · cases h
    · cases h
theorem mapO_cons {α β : Type} {f : α → Option β} {x : α} {xs : List α} {ys : List β} (h : mapO f (x :: xs) = some ys) : ∃ z zs, f x = some z ∧ mapO f xs = some zs ∧ ys = z :: zs := by
  simp only [mapO] at h
  split at h
  · rename_i z e
    split at h
    · rename_i zs e'; cases h; exact ⟨z, zs, e, e', rfl⟩
    · cases h
  · cases h
mutual
theorem Dp.of (M : Me K fa bs t m H μ) : ∀ (k : Nat) (u : U) (v : V) (d : PyData), Rp K fa t m m.length H u v → dat μ k u = some d → Dp K H v d ∧ d.plain = true ∧ d.depth ≤ k
  | k, .non, v, d, r, h => by
    cases r; simp [dat] at h; subst h; exact ⟨.non, rfl, Nat.zero_le _⟩
  | k, .bl b, v, d, r, h => by
    cases r; simp [dat] at h; subst h; exact ⟨.bl b, rfl, Nat.zero_le _⟩
  | k, .int i, v, d, r, h => by
    cases r; simp [dat] at h; subst h; exact ⟨.int i, rfl, Nat.zero_le _⟩
  | k, .str x, v, d, r, h => by
    cases r; simp [dat] at h; subst h; exact ⟨.str x, rfl, Nat.zero_le _⟩
  | 0, .tup xs, v, d, r, h => by simp [dat] at h
  | k + 1, .tup xs, v, d, r, h => by
    simp only [dat] at h
    split at h
    · rename_i ds e
      cases h
      cases r with
      | tup f ra =>
        obtain ⟨h1, h2, h3⟩ := Dp.ofs M k xs _ ds ra e
        exact ⟨.tup f.sq h1, h2, by simp only [PyData.depth]; omega⟩
    · cases h
  | 0, .lst xs, v, d, r, h => by simp [dat] at h
  | k + 1, .lst xs, v, d, r, h => by
    simp only [dat] at h
    split at h
    · rename_i ds e
      cases h
      cases r with
      | lst f ra =>
        obtain ⟨h1, h2, h3⟩ := Dp.ofs M k xs _ ds ra e
        exact ⟨.lst f.sq h1, h2, by simp only [PyData.depth]; omega⟩
    · cases h
  | 0, .ob i, v, d, r, h => by simp [dat] at h
  | k + 1, .ob i, v, d, r, h => by
    simp only [dat] at h
    split at h
    · rename_i o e
      obtain ⟨a, rfl, ha, c⟩ := M.objF r e
      cases c with
      | lst hH ra =>
        cases k with
        | zero => simp [dat] at h
        | succ k =>
          simp only [dat] at h
          split at h
          · rename_i ds e
            cases h
            obtain ⟨h1, h2, h3⟩ := Dp.ofs M k _ _ ds ra e
            exact ⟨.lst (SqL.of hH) h1, h2, by simp only [PyData.depth]; omega⟩
          · cases h
      | dK _ _ => cases k <;> simp [dat] at h
      | dT _ _ => cases k <;> simp [dat] at h
    · cases h
  | k, .dk _ _, v, d, r, h => by cases k <;> simp [dat] at h
  | k, .dt _ _, v, d, r, h => by cases k <;> simp [dat] at h
  | k, .fn _, v, d, r, h => by cases k <;> simp [dat] at h
  | k, .scr _, v, d, r, h => by cases k <;> simp [dat] at h
theorem Dp.ofs (M : Me K fa bs t m H μ) : ∀ (k : Nat) (us : List U) (vs : List V) (ds : List PyData), RpA K fa t m m.length H us vs → mapO (dat μ k) us = some ds → DpAll K H vs ds ∧ PyData.plainAll ds = true ∧ PyData.depthAll ds ≤ k
  | k, [], _, ds, .nil, h => by cases h; exact ⟨.nil, rfl, Nat.zero_le _⟩
  | k, u :: us, _, ds, .cons r ra, h => by
    obtain ⟨z, zs, e1, e2, rfl⟩ := mapO_cons h
    obtain ⟨a1, a2, a3⟩ := Dp.of M k u _ z r e1
    obtain ⟨b1, b2, b3⟩ := Dp.ofs M k us _ zs ra e2
    exact ⟨.cons a1 b1, by simp [PyData.plainAll, a2, b2], by simp only [PyData.depthAll]; omega⟩
end
end
end R

set_option Elab.async false
set_option linter.all false
set_option maxRecDepth 100000
set_option maxHeartbeats 4000000
/-! R3t: tuple * int, any -/
namespace R
open PySem PySem.Spec PyProof.Rows L2
open AutoSeq1 (wpAny_loadPart')

theorem tuple_mul0 (l : Addr) (items : Array Value) (n : Nat) (dd : Option Addr) (sl : Array (Option Value)) (x : Int) (u : Tok) (c0 : (decide (x < -(2 ^ 63)) || decide (x ≥ 2 ^ 63)) = false) (c1 : (items.isEmpty || x == 1) = false) (c2 : (decide (x ≤ 0) || items.isEmpty) = true) :
    Meets (Builtin.«tuple.__mul__» ⟨[.ref l, .int x u], []⟩) (fun _ R s => s.heap.get? l = some { cls := .type "tuple", dict := dd, data := .seq items n, slots := sl } ∧
      R (.ok (.ret (Value.ref s.heap.objs.size))) { s with heap := s.heap.push { cls := Value.type "tuple", data := Data.seq #[] }, toks := s.toks }) :=
  .of_wp fun prog w A R s h => by
    obtain ⟨hp, g, d, tk, os⟩ := s
    obtain ⟨hl, h⟩ := h
    have f1 := AutoSeq1.idx_int
    wp_walk using wpAny_loadPart' hl
    repeat (first
      | (refine wpAny_ite_false (decide_eq_false (by rw [c0]; exact Bool.false_ne_true)) ?_; wp_walk using wpAny_loadPart' hl)
      | (refine wpAny_ite_false (decide_eq_false (by rw [c1]; exact Bool.false_ne_true)) ?_; wp_walk using wpAny_loadPart' hl)
      | (refine wpAny_ite_true (decide_eq_true c2) ?_; wp_walk using wpAny_loadPart' hl))
    exact ⟨_, rfl, h⟩
theorem tuple_mul1 (l : Addr) (items : Array Value) (n : Nat) (dd : Option Addr) (sl : Array (Option Value)) (x : Int) (u : Tok) (c0 : (decide (x < -(2 ^ 63)) || decide (x ≥ 2 ^ 63)) = false) (c1 : (items.isEmpty || x == 1) = true) :
    Meets (Builtin.«tuple.__mul__» ⟨[.ref l, .int x u], []⟩) (fun _ R s => s.heap.get? l = some { cls := .type "tuple", dict := dd, data := .seq items n, slots := sl } ∧
      R (.ok (.ret (Value.ref l))) { s with heap := s.heap, toks := s.toks }) :=
  .of_wp fun prog w A R s h => by
    obtain ⟨hp, g, d, tk, os⟩ := s
    obtain ⟨hl, h⟩ := h
    have f1 := AutoSeq1.idx_int
    wp_walk using wpAny_loadPart' hl
    repeat (first
      | (refine wpAny_ite_false (decide_eq_false (by rw [c0]; exact Bool.false_ne_true)) ?_; wp_walk using wpAny_loadPart' hl)
      | (refine wpAny_ite_true (decide_eq_true c1) ?_; wp_walk using wpAny_loadPart' hl))
    exact ⟨_, rfl, h⟩

def rMulT (K : PySem.W.Frag) : R2 := fun x y H Q => ∃ l k xs, x = .ref l ∧ y = .int k ∧ SqT K H l xs ∧ -(2 ^ 63) ≤ k ∧ k < 2 ^ 63 ∧ xs.length * k.toNat ≤ sizeLine ∧
  ((xs = [] ∨ k = 1) → Q (.ref l) H) ∧ (¬ (xs = [] ∨ k = 1) → ∀ p, H p = none → Q (.ref p) (upd H p (.tup (List.replicate k.toNat xs).flatten)))
section
variable {X : Cx}
theorem op_mulT : OpR X (binaryOp .Mult) (rMulT X.K) := by
  intro pins s σ H x y v u Q I rx ry h
  obtain ⟨l, k, xs, rfl, rfl, hT, h1, h2, hz, q1, q2⟩ := h
  cases rx
  obtain ⟨t, rfl⟩ := ry
  obtain ⟨its, r, ⟨⟨cls, dd, data, sl⟩, ho, hc, n, hd⟩, hs⟩ := I.tuple hT
  simp only at hc hd
  subst hc hd
  have hle : its.length = xs.length := r.length.symm
  have c0 : (decide (k < -(2 ^ 63)) || decide (k ≥ 2 ^ 63)) = false := by
    rw [decide_eq_false (by omega), decide_eq_false (by omega)] <;> rfl
  have hsz0 : its.toArray.size = xs.length := by rw [List.size_toArray, hle]
  have he : its.toArray.isEmpty = decide (xs = []) := by
    cases its with
    | nil => cases r; rfl
    | cons a b => cases r; rfl
  refine wpAny_binaryOp_repeat_ref (T := "tuple") (U := "int") (by decide) ⟨_, ho, rfl⟩ (fun s' => typeIs_int s' k t) noFill_tuple_mul F.fills_int_mul F.slot_int_rmul repeat_tuple F.slot_int_index.lookup
    (call_meets F.slot_int_rmul (typeIs_int s k t) F.entry_int_rmul (F.args_int_rmul_2 _ _) (int_rmul_tuple k t l its.toArray n dd sl)
      ⟨ho, rfl, ⟨_, ho, rfl⟩, ?_⟩)
  by_cases hw : xs = [] ∨ k = 1
  · have c1 : (its.toArray.isEmpty || k == 1) = true := by
      rw [he]
      rcases hw with e | e
      · simp [e]
      · simp [e]
    exact call_meets F.slot_tuple_mul ⟨_, ho, rfl⟩ F.entry_tuple_mul (F.args_tuple_mul_2 _ _) (tuple_mul1 l its.toArray n dd sl k t c0 c1) ⟨ho, ⟨.ref l, H, I, rfl, q1 hw⟩⟩
  · have hne : xs ≠ [] := fun e => hw (.inl e)
    have hk1 : k ≠ 1 := fun e => hw (.inr e)
    have hi : its.toArray.isEmpty = false := by rw [he]; exact decide_eq_false hne
    have c1 : (its.toArray.isEmpty || k == 1) = false := by
      rw [hi, Bool.false_or]
      exact beq_eq_false_iff_ne.mpr hk1
    by_cases hk : k ≤ 0
    · have c2 : (decide (k ≤ 0) || its.toArray.isEmpty) = true := by simp [hk]
      refine call_meets F.slot_tuple_mul ⟨_, ho, rfl⟩ F.entry_tuple_mul (F.args_tuple_mul_2 _ _) (tuple_mul0 l its.toArray n dd sl k t c0 c1 c2) ⟨ho, ?_⟩
      have e0 : (List.replicate k.toNat xs).flatten = [] := by rw [show k.toNat = 0 by omega]; rfl
      have qq := q2 hw s.heap.objs.size (I.hok.fresh (Nat.le_refl _))
      rw [e0] at qq
      exact ⟨.ref s.heap.objs.size, _, I.laid (t' := s.toks) (o := .tup []) (fun b ob q => Heap.get?_push_of_some _ q) (Nat.le_refl _) ⟨Nat.zero_le _, [], .nil, IsTup.new _ _⟩, rfl, qq⟩
    · have c2 : (decide (k ≤ 0) || its.toArray.isEmpty) = false := by
        rw [hi, Bool.or_false]
        exact decide_eq_false (by omega)
      have flen : (List.replicate k.toNat its).flatten.length ≤ sizeLine := by
        rw [PyProof.Rows.lm_len_rep_flat, hle, Nat.mul_comm]; exact hz
      have hm : ((its.toArray.size : Nat) : Int) * k ≤ sizeLine := by
        rw [hsz0]
        have : ((xs.length * k.toNat : Nat) : Int) ≤ (sizeLine : Nat) := by exact_mod_cast hz
        rw [Int.natCast_mul, Int.toNat_of_nonneg (by omega)] at this
        exact this
      have hsl := sizeLine_eq
      have c4 : Builtin.Tuple.tupleTooMany (((its.toArray.size : Nat) : Int) * k) = false := by
        unfold Builtin.Tuple.tupleTooMany
        rw [sizeLine_eq]
        exact decide_eq_false (by omega)
      refine call_meets F.slot_tuple_mul ⟨_, ho, rfl⟩ F.entry_tuple_mul (F.args_tuple_mul_2 _ _) (tuple_mulW l its.toArray n dd sl k t c0 c1 c2 (by omega) c4 (by rw [size_rep, List.size_toArray]; exact flen)) ⟨ho, ?_⟩
      rw [size_rep]
      refine ⟨.ref s.heap.objs.size, _, I.laid (t' := s.toks) (o := .tup (List.replicate k.toNat xs).flatten) (fun b ob q => Heap.get?_push_of_some _ q) (Nat.le_refl _) ?_, rfl, q2 hw _ (I.hok.fresh (Nat.le_refl _))⟩
      exact ⟨by rw [PyProof.Rows.lm_len_rep_flat, Nat.mul_comm]; exact hz, _, r.rep k.toNat, IsTup.new _ _⟩
end
end R

set_option Elab.async false
set_option linter.all false
set_option maxRecDepth 100000
set_option maxHeartbeats 4000000
/-! R3b: operators by values -/
namespace R
open PySem PySem.Spec PyProof.Rows L2

def Bo.op : Bo → Operator
  | .add => .Add | .sub => .Sub | .mul => .Mult | .fdiv => .FloorDiv | .mod => .Mod | .pow => .Pow | .shl => .LShift | .shr => .RShift | .band => .BitAnd | .bor => .BitOr | .bxor => .BitXor
def Co.op : Co → CmpOp
  | .eq => .Eq | .ne => .NotEq | .lt => .Lt | .le => .LtE | .gt => .Gt | .ge => .GtE | .isin => .In | .notin => .NotIn | .is_ => .Is | .isnot => .IsNot

section
variable {X : Cx} {fa : Nat → Option Addr}
theorem binR (al : Bool) (op : Bo) : OpR X (binaryOp op.op) (rV2 X.K fa fun μ a b => evBin al μ op a b) := by
  intro pins s σ H x y v u Q I rx ry h
  obtain ⟨t, bs, m, μ, a, b, w, μ', M, ra, rb, h, k⟩ := h
  have hz := sz_line
  simp only [evBin] at h
  split at h
  · cases h; cases ra; cases rb; exact op_add pins s σ H _ _ v u Q I rx ry ⟨_, _, rfl, rfl, k.here M (.int _)⟩
  · cases h; cases ra; cases rb; exact op_sub pins s σ H _ _ v u Q I rx ry ⟨_, _, rfl, rfl, k.here M (.int _)⟩
  · split at h
    · rename_i hm
      cases h; cases ra; cases rb
      refine op_mul pins s σ H _ _ v u Q I rx ry ⟨_, _, rfl, rfl, ?_, k.here M (.int _)⟩
      simpa [mulOk, CMul] using hm
    · cases h
  · split at h
    · rename_i hm
      cases h; cases ra; cases rb
      exact op_fdiv pins s σ H _ _ v u Q I rx ry ⟨_, _, rfl, rfl, hm, k.here M (.int _)⟩
    · cases h
  · split at h
    · rename_i hm
      cases h; cases ra; cases rb
      exact op_mod pins s σ H _ _ v u Q I rx ry ⟨_, _, rfl, rfl, hm, k.here M (.int _)⟩
    · cases h
  · split at h
    · rename_i hm
      cases h; cases ra; cases rb
      exact op_pow pins s σ H _ _ v u Q I rx ry ⟨_, _, rfl, rfl, hm, k.here M (.int _)⟩
    · cases h
  · split at h
    · rename_i hm
      cases h; cases ra; cases rb
      exact op_shl pins s σ H _ _ v u Q I rx ry ⟨_, _, rfl, rfl, hm, k.here M (.int _)⟩
    · cases h
  · split at h
    · rename_i hm
      cases h; cases ra; cases rb
      exact op_shr pins s σ H _ _ v u Q I rx ry ⟨_, _, rfl, rfl, hm, k.here M (.int _)⟩
    · cases h
  · cases h; cases ra; cases rb; exact op_and pins s σ H _ _ v u Q I rx ry ⟨_, _, rfl, rfl, k.here M (.int _)⟩
  · cases h; cases ra; cases rb; exact op_or pins s σ H _ _ v u Q I rx ry ⟨_, _, rfl, rfl, k.here M (.int _)⟩
  · cases h; cases ra; cases rb; exact op_xor pins s σ H _ _ v u Q I rx ry ⟨_, _, rfl, rfl, k.here M (.int _)⟩
  · split at h
    · rename_i hm
      cases h; cases ra; cases rb
      exact op_add_str pins s σ H _ _ v u Q I rx ry ⟨_, _, rfl, rfl, by omega, k.here M (.str _)⟩
    · cases h
  · split at h
    · rename_i xs ys hm
      cases h
      cases ra with
      | tup f1 r1 =>
        cases rb with
        | tup f2 r2 =>
          have l1 := r1.length
          have l2 := r2.length
          refine op_catA pins s σ H _ _ v u Q I rx ry ⟨_, _, _, _, rfl, rfl, f1.sq, f2.sq, by omega, fun e => ?_, fun _ e => ?_, fun _ _ p hp => k.tup M hp (r1.append r2)⟩
          · subst e
            cases r1
            exact k.here M (.tup f2 r2)
          · subst e
            cases r2
            refine k.here M ?_
            rw [List.append_nil]
            exact .tup f1 r1
    · cases h
  · split at h
    · rename_i xs ys e1 e2
      split at h
      · rename_i hm
        obtain ⟨rfl, rfl⟩ := Prod.mk.inj (Option.some.inj h)
        obtain ⟨l, vs, rfl, hl, r1⟩ := asL_at M ra e1
        obtain ⟨l', ws, rfl, hl', r2⟩ := asL_at M rb e2
        have l1 := r1.length
        have l2 := r2.length
        exact op_cat pins s σ H _ _ v u Q I rx ry ⟨_, _, _, _, rfl, rfl, hl, hl', by omega, fun p hp => k.lst M hp (r1.append r2)⟩
      · cases h
    · cases h
  · split at h
    · rename_i xs kk hm
      cases h
      cases ra with
      | tup f1 r1 =>
        cases rb
        have l1 := r1.length
        refine op_mulT pins s σ H _ _ v u Q I rx ry ⟨_, _, _, rfl, rfl, f1.sq, hm.1, hm.2.1, by rw [← l1]; omega, fun e => ?_, fun _ p hp => k.tup M hp (r1.rep _)⟩
        refine k.here M ?_
        rcases e with e | e
        · subst e
          cases r1
          have : (List.replicate (Int.toNat kk) ([] : List U)).flatten = [] := List.flatten_replicate_nil
          rw [this]
          exact .tup f1 .nil
        · rw [e]
          have : (List.replicate (Int.toNat 1) xs).flatten = xs := by
            show (List.replicate 1 xs).flatten = xs
            simp
          rw [this]
          exact .tup f1 r1
    · cases h
  · split at h
    · rename_i xs e1
      split at h
      · rename_i hm
        obtain ⟨rfl, rfl⟩ := Prod.mk.inj (Option.some.inj h)
        obtain ⟨l, vs, rfl, hl, r1⟩ := asL_at M ra e1
        cases rb
        have l1 := r1.length
        exact op_rep pins s σ H _ _ v u Q I rx ry ⟨_, _, _, rfl, rfl, hl, hm.1, hm.2.1, by rw [← l1]; omega, fun p hp => k.lst M hp (r1.rep _)⟩
      · cases h
    · cases h
  · cases h

/-! ### comparisons -/
theorem room_eq {k : Nat} (r : Room k X.A) : X.A.units + 66 < cLine := by have := r.un; omega
def rC2 (K : PySem.W.Frag) (fa : Nat → Option Addr) (f : Mu → U → U → Option Bool) : R2 := fun x y H Q => ∃ t bs m μ a b c, Me K fa bs t m H μ ∧ Rp K fa t m m.length H a x ∧ Rp K fa t m m.length H b y ∧ f μ a b = some c ∧ Q (.bl c) H
theorem neg?_some {o : Option Bool} {c : Bool} (h : neg? o = some c) : ∃ d, o = some d ∧ c = !d := by
  cases o with
  | none => cases h
  | some d => exact ⟨d, rfl, (Option.some.inj h).symm⟩
theorem evEq_some {μ : Mu} {a b : U} {c : Bool} (h : evEq μ a b = some c) : ∃ d e, dat μ D0 a = some d ∧ dat μ D0 b = some e ∧ c = PyData.eqv d e := by
  simp only [evEq] at h
  split at h
  · rename_i d e h1 h2
    exact ⟨d, e, h1, h2, (Option.some.inj h).symm⟩
  · cases h
theorem evLt_some {μ : Mu} {a b : U} {c : Bool} (h : evLt μ a b = some c) : (∃ i j, a = .int i ∧ b = .int j ∧ c = decide (i < j)) ∨
    ∃ d e, dat μ D0 a = some d ∧ dat μ D0 b = some e ∧ d ≠ .none ∧ PySem.W.alike d e = true ∧ c = PySem.W.dataLt d e := by
  unfold evLt at h
  split at h
  · exact .inl ⟨_, _, rfl, rfl, (Option.some.inj h).symm⟩
  · cases h1 : dat μ D0 a with
    | none => rw [h1] at h; simp at h
    | some d =>
      cases h2 : dat μ D0 b with
      | none => rw [h1, h2] at h; cases d <;> simp at h
      | some e =>
        rw [h1, h2] at h
        by_cases hd : d = .none
        · subst hd; simp at h
        · have h' : (if PySem.W.alike d e = true then some (PySem.W.dataLt d e) else none) = some c := by
            cases d <;> first | exact absurd rfl hd | exact h
          by_cases ha : PySem.W.alike d e = true
          · rw [if_pos ha] at h'
            exact .inr ⟨d, e, rfl, rfl, hd, ha, (Option.some.inj h').symm⟩
          · rw [if_neg ha] at h'; cases h'
theorem d0 : D0 = 12 := rfl
theorem eqR (hu : X.A.units + 66 < cLine) : OpR X (compareOp .Eq) (rC2 X.K fa evEq) := by
  intro pins s σ H x y v u Q I rx ry h
  obtain ⟨t, bs, m, μ, a, b, c, M, ra, rb, h, q⟩ := h
  obtain ⟨d, e, h1, h2, rfl⟩ := evEq_some h
  obtain ⟨a1, a2, a3⟩ := Dp.of M D0 a x d ra h1
  obtain ⟨b1, b2, b3⟩ := Dp.of M D0 b y e rb h2
  obtain ⟨as, r1⟩ := Dp.reads I d x v a1 rx
  obtain ⟨bs, r2⟩ := Dp.reads I e y u b1 ry
  have hd := d0
  exact SeqAt.eq_plain r1 r2 a2 b2 (by omega) ⟨.bl _, H, I, rfl, q⟩
theorem neR (hu : X.A.units + 66 < cLine) : OpR X (compareOp .NotEq) (rC2 X.K fa fun μ a b => neg? (evEq μ a b)) := by
  intro pins s σ H x y v u Q I rx ry h
  obtain ⟨t, bs, m, μ, a, b, c, M, ra, rb, h, q⟩ := h
  obtain ⟨c', h0, rfl⟩ := neg?_some h
  obtain ⟨d, e, h1, h2, rfl⟩ := evEq_some h0
  obtain ⟨a1, a2, a3⟩ := Dp.of M D0 a x d ra h1
  obtain ⟨b1, b2, b3⟩ := Dp.of M D0 b y e rb h2
  obtain ⟨as, r1⟩ := Dp.reads I d x v a1 rx
  obtain ⟨bs, r2⟩ := Dp.reads I e y u b1 ry
  have hd := d0
  exact SeqAt.ne_plain r1 r2 a2 b2 (by omega) ⟨.bl _, H, I, rfl, q⟩
theorem ltR (hu : X.A.units + 66 < cLine) : OpR X (compareOp .Lt) (rC2 X.K fa evLt) := by
  intro pins s σ H x y v u Q I rx ry h
  obtain ⟨t, bs, m, μ, a, b, c, M, ra, rb, h, q⟩ := h
  have hd := d0
  rcases evLt_some h with ⟨i, j, rfl, rfl, rfl⟩ | ⟨d, e, h1, h2, hn, ha, rfl⟩
  · cases ra; cases rb
    exact op_lt pins s σ H _ _ v u Q I rx ry ⟨_, _, rfl, rfl, q⟩
  · obtain ⟨a1, a2, a3⟩ := Dp.of M D0 a x d ra h1
    obtain ⟨b1, b2, b3⟩ := Dp.of M D0 b y e rb h2
    obtain ⟨as, r1⟩ := Dp.reads I d x v a1 rx
    obtain ⟨bs, r2⟩ := Dp.reads I e y u b1 ry
    exact PySem.W.lt_data r1 r2 ha hn (by omega) ⟨.bl _, H, I, rfl, q⟩
theorem gtR (hu : X.A.units + 66 < cLine) : OpR X (compareOp .Gt) (rC2 X.K fa fun μ a b => evLt μ b a) := by
  intro pins s σ H x y v u Q I rx ry h
  obtain ⟨t, bs, m, μ, a, b, c, M, ra, rb, h, q⟩ := h
  have hd := d0
  rcases evLt_some h with ⟨i, j, rfl, rfl, rfl⟩ | ⟨d, e, h1, h2, hn, ha, rfl⟩
  · cases ra; cases rb
    exact op_gt pins s σ H _ _ v u Q I rx ry ⟨_, _, rfl, rfl, q⟩
  · obtain ⟨a1, a2, a3⟩ := Dp.of M D0 b y d rb h1
    obtain ⟨b1, b2, b3⟩ := Dp.of M D0 a x e ra h2
    obtain ⟨as, r1⟩ := Dp.reads I d y u a1 ry
    obtain ⟨bs, r2⟩ := Dp.reads I e x v b1 rx
    exact PySem.W.gt_data r2 r1 (by rw [PySem.W.alike_comm]; exact ha) (PySem.W.ne_none_both ha hn) (by omega) ⟨.bl _, H, I, rfl, q⟩
theorem leR (hu : X.A.units + 66 < cLine) : OpR X (compareOp .LtE) (rC2 X.K fa fun μ a b => neg? (evLt μ b a)) := by
  intro pins s σ H x y v u Q I rx ry h
  obtain ⟨t, bs, m, μ, a, b, c, M, ra, rb, h, q⟩ := h
  have hd := d0
  obtain ⟨c', h0, rfl⟩ := neg?_some h
  rcases evLt_some h0 with ⟨i, j, rfl, rfl, rfl⟩ | ⟨d, e, h1, h2, hn, ha, rfl⟩
  · cases ra; cases rb
    refine op_le pins s σ H _ _ v u Q I rx ry ⟨_, _, rfl, rfl, ?_⟩
    have e1 : (!decide (i < j)) = decide (j ≤ i) := by
      by_cases z : i < j
      · rw [decide_eq_true z, decide_eq_false (by omega)]; rfl
      · rw [decide_eq_false z, decide_eq_true (by omega)]; rfl
    rw [e1] at q; exact q
  · obtain ⟨a1, a2, a3⟩ := Dp.of M D0 b y d rb h1
    obtain ⟨b1, b2, b3⟩ := Dp.of M D0 a x e ra h2
    obtain ⟨as, r1⟩ := Dp.reads I d y u a1 ry
    obtain ⟨bs, r2⟩ := Dp.reads I e x v b1 rx
    exact PySem.W.le_data r2 r1 (by rw [PySem.W.alike_comm]; exact ha) (PySem.W.ne_none_both ha hn) (by omega) ⟨.bl _, H, I, rfl, q⟩
theorem geR (hu : X.A.units + 66 < cLine) : OpR X (compareOp .GtE) (rC2 X.K fa fun μ a b => neg? (evLt μ a b)) := by
  intro pins s σ H x y v u Q I rx ry h
  obtain ⟨t, bs, m, μ, a, b, c, M, ra, rb, h, q⟩ := h
  have hd := d0
  obtain ⟨c', h0, rfl⟩ := neg?_some h
  rcases evLt_some h0 with ⟨i, j, rfl, rfl, rfl⟩ | ⟨d, e, h1, h2, hn, ha, rfl⟩
  · cases ra; cases rb
    refine op_ge pins s σ H _ _ v u Q I rx ry ⟨_, _, rfl, rfl, ?_⟩
    have e1 : (!decide (i < j)) = decide (j ≤ i) := by
      by_cases z : i < j
      · rw [decide_eq_true z, decide_eq_false (by omega)]; rfl
      · rw [decide_eq_false z, decide_eq_true (by omega)]; rfl
    rw [e1] at q; exact q
  · obtain ⟨a1, a2, a3⟩ := Dp.of M D0 a x d ra h1
    obtain ⟨b1, b2, b3⟩ := Dp.of M D0 b y e rb h2
    obtain ⟨as, r1⟩ := Dp.reads I d x v a1 rx
    obtain ⟨bs, r2⟩ := Dp.reads I e y u b1 ry
    exact PySem.W.ge_data r1 r2 ha hn (by omega) ⟨.bl _, H, I, rfl, q⟩

/-! ### is None -/
theorem isN_ok {t m : List Addr} {n : Nat} {H : Hp} {u : U} {v : V} {K : PySem.W.Frag} (r : Rp K fa t m n H u v) : decide (v = .non) = isNon u := by
  cases r <;> rfl
theorem isR : OpR X (compareOp .Is) (rC2 X.K fa fun μ a b => evCmp μ .is_ a b) := by
  intro pins s σ H x y v u Q I rx ry h
  obtain ⟨t, bs, m, μ, a, b, c, M, ra, rb, h, q⟩ := h
  cases b <;> simp [evCmp] at h
  subst h
  cases rb
  exact op_isN pins s σ H _ _ v u Q I rx ry ⟨rfl, by rw [isN_ok ra]; exact q⟩
theorem isnotR : OpR X (compareOp .IsNot) (rC2 X.K fa fun μ a b => evCmp μ .isnot a b) := by
  intro pins s σ H x y v u Q I rx ry h
  obtain ⟨t, bs, m, μ, a, b, c, M, ra, rb, h, q⟩ := h
  cases b with
  | non =>
    have h' : some (!isNon a) = some c := h
    cases h'
    cases rb
    exact op_notN pins s σ H _ _ v u Q I rx ry ⟨rfl, by rw [isN_ok ra]; exact q⟩
  | _ => simp [evCmp] at h

/-! ### dicts -/
theorem lk_valV {κ : Type} [DecidableEq κ] {K : PySem.W.Frag} {t m : List Addr} {n : Nat} {H : Hp} : ∀ {kvs : List (κ × V)} {us : List U} (q : κ), RpA K fa t m n H us (kvs.map (·.2)) →
    (∃ u v, lk (kvs.map (·.1)) us q = some u ∧ valV kvs q = some v ∧ Rp K fa t m n H u v) ∨ (lk (kvs.map (·.1)) us q = none ∧ valV kvs q = none)
  | [], _, q, .nil => .inr ⟨rfl, rfl⟩
  | kv :: kvs, _, q, .cons (u := u) r ra => by
    by_cases hk : kv.1 = q
    · exact .inl ⟨u, kv.2, by simp [lk, hk], valV_pos hk, r⟩
    · rcases lk_valV q ra with ⟨u', v', e1, e2, r'⟩ | ⟨e1, e2⟩
      · exact .inl ⟨u', v', by simp [lk, hk, e1], by rw [valV_neg hk]; exact e2, r'⟩
      · exact .inr ⟨by simp [lk, hk, e1], by rw [valV_neg hk]; exact e2⟩
theorem sky_ok {K : PySem.W.Frag} {t m : List Addr} {n : Nat} {H : Hp} {u : U} {v : V} {q : Key} (r : Rp K fa t m n H u v) (h : sky u = some q) : v = kV q := by
  cases r <;> simp [sky] at h <;> subst h <;> rfl
theorem skys_ok {K : PySem.W.Frag} {t m : List Addr} {n : Nat} {H : Hp} : ∀ {us : List U} {vs : List V} {qs : List Key}, RpA K fa t m n H us vs → mapO sky us = some qs → vs = qs.map kV
  | _, _, _, .nil, h => by cases h; rfl
  | _, _, _, .cons r ra, h => by
    obtain ⟨z, zs, e1, e2, rfl⟩ := mapO_cons h
    rw [sky_ok r e1, skys_ok ra e2]; rfl
theorem tky_ok {K : PySem.W.Frag} {t m : List Addr} {n : Nat} {H : Hp} {u : U} {v : V} {q : List Key} (r : Rp K fa t m n H u v) (h : tky u = some q) : ∃ b, v = .ref b ∧ H b = some (.tup (q.map kV)) := by
  cases u <;> simp [tky] at h
  cases r with
  | tup f ra =>
    rw [← skys_ok ra h]
    exact ⟨_, rfl, f.1⟩
/-- the dict at v -/
theorem dk_at {K : PySem.W.Frag} {t m : List Addr} {H : Hp} {bs : List Nat} {μ : Mu} {u : U} {v : V} {ks : List Key} {us : List U} (M : Me K fa bs t m H μ) (r : Rp K fa t m m.length H u v) (h : cont μ u = some (.dk ks us)) :
    ∃ a kvs, v = .ref a ∧ H a = some (.dK kvs) ∧ kvs.map (·.1) = ks ∧ RpA K fa t m m.length H us (kvs.map (·.2)) := by
  cases u with
  | ob i =>
    simp only [cont] at h
    obtain ⟨a, rfl, ha, c⟩ := M.objF r h
    cases c with
    | dK hH ra => exact ⟨a, _, rfl, hH, rfl, ra⟩
  | dk ks' us' =>
    cases h
    cases r with
    | dK hH _ _ ra => exact ⟨_, _, rfl, hH, rfl, ra⟩
  | _ => simp [cont] at h
theorem dt_at {K : PySem.W.Frag} {t m : List Addr} {H : Hp} {bs : List Nat} {μ : Mu} {u : U} {v : V} {ks : List (List Key)} {us : List U} (M : Me K fa bs t m H μ) (r : Rp K fa t m m.length H u v) (h : cont μ u = some (.dt ks us)) :
    ∃ a kvs, v = .ref a ∧ H a = some (.dT kvs) ∧ kvs.map (·.1) = ks ∧ RpA K fa t m m.length H us (kvs.map (·.2)) := by
  cases u with
  | ob i =>
    simp only [cont] at h
    obtain ⟨a, rfl, ha, c⟩ := M.objF r h
    cases c with
    | dT hH ra => exact ⟨a, _, rfl, hH, rfl, ra⟩
  | dt ks' us' =>
    cases h
    cases r with
    | dT hH _ _ ra => exact ⟨_, _, rfl, hH, rfl, ra⟩
  | _ => simp [cont] at h
theorem dget_ok {K : PySem.W.Frag} {t m : List Addr} {H : Hp} {bs : List Nat} {μ : Mu} {d k : U} {x y : V} {o : Option U} (M : Me K fa bs t m H μ) (r : Rp K fa t m m.length H d x) (rk : Rp K fa t m m.length H k y) (h : dget μ d k = some o) :
    ∃ a, x = .ref a ∧ IsD H a ∧ ((∃ u v, o = some u ∧ DGet H a y (some v) ∧ Rp K fa t m m.length H u v) ∨ (o = none ∧ DGet H a y none)) := by
  simp only [dget] at h
  split at h
  · rename_i ks us hc
    obtain ⟨a, kvs, rfl, hH, rfl, ra⟩ := dk_at M r hc
    split at h
    · rename_i q hq
      cases h
      have ey := sky_ok rk hq
      subst ey
      refine ⟨a, rfl, .inl ⟨_, .inl hH⟩, ?_⟩
      rcases lk_valV q ra with ⟨u', v', e1, e2, r'⟩ | ⟨e1, e2⟩
      · exact .inl ⟨u', v', e1, .inl ⟨kvs, q, .inl hH, rfl, e2.symm⟩, r'⟩
      · exact .inr ⟨e1, .inl ⟨kvs, q, .inl hH, rfl, e2.symm⟩⟩
    · cases h
  · rename_i ks us hc
    obtain ⟨a, kvs, rfl, hH, rfl, ra⟩ := dt_at M r hc
    split at h
    · rename_i q hq
      cases h
      obtain ⟨b, rfl, hb⟩ := tky_ok rk hq
      refine ⟨a, rfl, .inr ⟨_, .inl hH⟩, ?_⟩
      rcases lk_valV q ra with ⟨u', v', e1, e2, r'⟩ | ⟨e1, e2⟩
      · exact .inl ⟨u', v', e1, .inr ⟨kvs, q, b, .inl hH, rfl, hb, e2.symm⟩, r'⟩
      · exact .inr ⟨e1, .inr ⟨kvs, q, b, .inl hH, rfl, hb, e2.symm⟩⟩
    · cases h
  · cases h

/-! ### in -/
theorem evIn_some {μ : Mu} {a b : U} {c : Bool} (h : evIn μ a b = some c) : (∃ o, dget μ b a = some o ∧ c = o.isSome) ∨
    ∃ x ys, dat μ D0 a = some x ∧ (dat μ D0 b = some (.tuple ys) ∨ dat μ D0 b = some (.list ys)) ∧ c = ys.any fun y => y.eqv x := by
  simp only [evIn] at h
  split at h
  · split at h
    · rename_i o ho; exact .inl ⟨o, ho, (Option.some.inj h).symm⟩
    · cases h
  · split at h
    · rename_i o ho; exact .inl ⟨o, ho, (Option.some.inj h).symm⟩
    · cases h
  · split at h
    · rename_i x ys h1 h2; exact .inr ⟨x, ys, h1, .inl h2, (Option.some.inj h).symm⟩
    · rename_i x ys h1 h2; exact .inr ⟨x, ys, h1, .inr h2, (Option.some.inj h).symm⟩
    · cases h
theorem inR (hu : X.A.units + 66 < cLine) : OpR X (compareOp .In) (rC2 X.K fa evIn) := by
  intro pins s σ H x y v u Q I rx ry h
  obtain ⟨t, bs, m, μ, a, b, c, M, ra, rb, h, q⟩ := h
  have hd := d0
  rcases evIn_some h with ⟨o, ho, rfl⟩ | ⟨d, ys, h1, h2, rfl⟩
  · obtain ⟨p, rfl, _, hg⟩ := dget_ok M rb ra ho
    cases ry
    rcases hg with ⟨u', v', rfl, g, _⟩ | ⟨rfl, g⟩
    · exact d_in (by omega) I g rx fun s' I' => ⟨.bl true, H, I', rfl, q⟩
    · exact d_in (by omega) I g rx fun s' I' => ⟨.bl false, H, I', rfl, q⟩
  · obtain ⟨a1, a2, a3⟩ := Dp.of M D0 a x d ra h1
    obtain ⟨as, r1⟩ := Dp.reads I d x v a1 rx
    rcases h2 with h2 | h2
    · obtain ⟨b1, b2, b3⟩ := Dp.of M D0 b y _ rb h2
      obtain ⟨bs, r2⟩ := Dp.reads I _ y u b1 ry
      exact SeqAt.in_tuple_data r2 r1 b2 a2 (by simp only [PyData.depth] at b3; omega) ⟨.bl _, H, I, rfl, q⟩
    · obtain ⟨b1, b2, b3⟩ := Dp.of M D0 b y _ rb h2
      obtain ⟨bs, r2⟩ := Dp.reads I _ y u b1 ry
      exact SeqAt.in_list_data r2 r1 b2 a2 (by simp only [PyData.depth] at b3; omega) ⟨.bl _, H, I, rfl, q⟩
theorem notinR (hu : X.A.units + 66 < cLine) : OpR X (compareOp .NotIn) (rC2 X.K fa fun μ a b => neg? (evIn μ a b)) := by
  intro pins s σ H x y v u Q I rx ry h
  obtain ⟨t, bs, m, μ, a, b, c, M, ra, rb, h, q⟩ := h
  have hd := d0
  obtain ⟨c', h0, rfl⟩ := neg?_some h
  rcases evIn_some h0 with ⟨o, ho, rfl⟩ | ⟨d, ys, h1, h2, rfl⟩
  · obtain ⟨p, rfl, _, hg⟩ := dget_ok M rb ra ho
    cases ry
    rcases hg with ⟨u', v', rfl, g, _⟩ | ⟨rfl, g⟩
    · exact d_notIn (by omega) I g rx fun s' I' => ⟨.bl false, H, I', rfl, q⟩
    · exact d_notIn (by omega) I g rx fun s' I' => ⟨.bl true, H, I', rfl, q⟩
  · obtain ⟨a1, a2, a3⟩ := Dp.of M D0 a x d ra h1
    obtain ⟨as, r1⟩ := Dp.reads I d x v a1 rx
    rcases h2 with h2 | h2
    · obtain ⟨b1, b2, b3⟩ := Dp.of M D0 b y _ rb h2
      obtain ⟨bs, r2⟩ := Dp.reads I _ y u b1 ry
      exact SeqAt.notIn_tuple_data r2 r1 b2 a2 (by simp only [PyData.depth] at b3; omega) ⟨.bl _, H, I, rfl, q⟩
    · obtain ⟨b1, b2, b3⟩ := Dp.of M D0 b y _ rb h2
      obtain ⟨bs, r2⟩ := Dp.reads I _ y u b1 ry
      exact SeqAt.notIn_list_data r2 r1 b2 a2 (by simp only [PyData.depth] at b3; omega) ⟨.bl _, H, I, rfl, q⟩
/-- any comparison -/
theorem cmpR (hu : X.A.units + 66 < cLine) (op : Co) : OpR X (compareOp op.op) (rC2 X.K fa fun μ a b => evCmp μ op a b) := by
  cases op
  · exact eqR hu
  · exact neR hu
  · exact ltR hu
  · exact leR hu
  · exact gtR hu
  · exact geR hu
  · exact inR hu
  · exact notinR hu
  · exact isR
  · exact isnotR
end
end R

set_option Elab.async false
set_option linter.all false
set_option maxRecDepth 100000
set_option maxHeartbeats 4000000
/-! R3c: subscripts, slices, builtins, isinstance, methods -/
namespace R
open PySem PySem.Spec PyProof.Rows L2

section
variable {X : Cx} {fa : Nat → Option Addr}
/-! ### what a value is, by its content -/
theorem cont_lst {K : PySem.W.Frag} {t m : List Addr} {H : Hp} {bs : List Nat} {μ : Mu} {u : U} {v : V} {xs : List U} (M : Me K fa bs t m H μ) (r : Rp K fa t m m.length H u v) (h : cont μ u = some (.lst xs)) :
    ∃ a vs, v = .ref a ∧ H a = some (.lst vs) ∧ RpA K fa t m m.length H xs vs := by
  have h' : asL μ u = some xs := by
    cases u <;> simp [cont] at h <;> simp [asL, h]
  exact asL_at M r h'
theorem ob_not {K : PySem.W.Frag} {t m : List Addr} {H : Hp} {bs : List Nat} {μ : Mu} {i : Nat} {v : V} {o : U} (M : Me K fa bs t m H μ) (r : Rp K fa t m m.length H (.ob i) v) (h : μ[i]? = some o) :
    (∃ xs, o = .lst xs) ∨ (∃ ks us, o = .dk ks us) ∨ ∃ ks us, o = .dt ks us := by
  obtain ⟨a, _, _, c⟩ := M.objF r h
  cases c with
  | lst _ _ => exact .inl ⟨_, rfl⟩
  | dK _ _ => exact .inr (.inl ⟨_, _, rfl⟩)
  | dT _ _ => exact .inr (.inr ⟨_, _, rfl⟩)
theorem cont_tup {K : PySem.W.Frag} {t m : List Addr} {H : Hp} {bs : List Nat} {μ : Mu} {u : U} {v : V} {xs : List U} (M : Me K fa bs t m H μ) (r : Rp K fa t m m.length H u v) (h : cont μ u = some (.tup xs)) : u = .tup xs := by
  cases u with
  | ob i => rcases ob_not M r h with ⟨_, e⟩ | ⟨_, _, e⟩ | ⟨_, _, e⟩ <;> cases e
  | tup ys => cases h; rfl
  | _ => simp [cont] at h
theorem cont_str {K : PySem.W.Frag} {t m : List Addr} {H : Hp} {bs : List Nat} {μ : Mu} {u : U} {v : V} {x : Str} (M : Me K fa bs t m H μ) (r : Rp K fa t m m.length H u v) (h : cont μ u = some (.str x)) : u = .str x := by
  cases u with
  | ob i => rcases ob_not M r h with ⟨_, e⟩ | ⟨_, _, e⟩ | ⟨_, _, e⟩ <;> cases e
  | str ys => cases h; rfl
  | _ => simp [cont] at h

theorem atI_ok {K : PySem.W.Frag} {t m : List Addr} {n : Nat} {H : Hp} {xs : List U} {vs : List V} {i : Int} {u : U} (r : RpA K fa t m n H xs vs) (h : atI xs i = some u) : ∃ v, atI vs i = some v ∧ Rp K fa t m n H u v := by
  unfold atI at h ⊢
  rw [r.length] at h
  cases e : ixN vs.length i with
  | none => rw [e] at h; cases h
  | some j =>
    rw [e] at h
    exact r.get h
def rIdx (K : PySem.W.Frag) (fa : Nat → Option Addr) : R2 := fun x y H Q => ∃ t bs m μ a b u, Me K fa bs t m H μ ∧ Rp K fa t m m.length H a x ∧ Rp K fa t m m.length H b y ∧ evIdx μ a b = some u ∧ ∀ v, Rp K fa t m m.length H u v → Q v H
theorem idxR (hu : X.A.units + 66 < cLine) : IxR X (rIdx X.K fa) := by
  intro value slice pins s σ H x y v u Q I rx ry h hs
  obtain ⟨t, bs, m, μ, a, b, w, M, ra, rb, h, q⟩ := h
  have dict : ∀ o, dget μ a b = some o → o = some w → wpAny (model X.prog X.w) X.A (subscriptTail value slice v u) (EP X pins σ Q) X.xe s := fun o ho eo => by
    obtain ⟨p, rfl, _, hg⟩ := dget_ok M ra rb ho
    cases rx
    rcases hg with ⟨u', v', rfl, g, r'⟩ | ⟨rfl, g⟩
    · cases eo
      exact tail_any (dict_typeIs I g) PySem.F.slot_dict_getitem.lookup (d_getItem (by omega) I g ry fun w' s3 I3 rw' => ⟨v', H, I3, rw', q v' r'⟩) (hs)
    · cases eo
  simp only [evIdx] at h
  split at h
  · cases ho : dget μ a b with
    | none => rw [ho] at h; cases h
    | some o => rw [ho] at h; exact dict o ho h
  · cases ho : dget μ a b with
    | none => rw [ho] at h; cases h
    | some o => rw [ho] at h; exact dict o ho h
  · rename_i z hc
    have ea := cont_str M ra hc
    subst ea
    split at h
    · rename_i j
      split at h
      · rename_i hz
        split at h
        · rename_i c hcc
          cases h
          cases ra; cases rb
          have hl := sz_line
          exact ix_seq value slice pins s σ H _ _ v u Q I rx ry (.inr (.inr ⟨z, j, c, rfl, rfl, by omega, hcc, q _ (.str _)⟩)) hs
        · cases h
      · cases h
    · cases h
  · rename_i xs hc
    have ea := cont_tup M ra hc
    subst ea
    split at h
    · rename_i j
      cases rb
      cases ra with
      | tup f r1 =>
        obtain ⟨w', e1, r'⟩ := atI_ok r1 h
        exact ix_seq value slice pins s σ H _ _ v u Q I rx ry (.inr (.inl ⟨_, _, j, w', rfl, rfl, f.sq, e1, q _ r'⟩)) hs
    · cases h
  · rename_i xs hc
    obtain ⟨p, vs, rfl, hH, r1⟩ := cont_lst M ra hc
    split at h
    · rename_i j
      cases rb
      obtain ⟨w', e1, r'⟩ := atI_ok r1 h
      exact ix_seq value slice pins s σ H _ _ v u Q I rx ry (.inl ⟨_, _, j, w', rfl, rfl, SqL.of hH, e1, q _ r'⟩) hs
    · cases h
  · cases h

/-! ### slices -/
def rSlU (K : PySem.W.Frag) (fa : Nat → Option Addr) (al : Bool) : V → Option Int → Option Int → Hp → VK → Prop := fun x lo hi H Q => ∃ t bs m μ a l h u μ', Me K fa bs t m H μ ∧ Rp K fa t m m.length H a x ∧ bnd l = some lo ∧ bnd h = some hi ∧ evSlc al μ a l h = some (u, μ') ∧ Kn K fa bs t m H u μ' Q
theorem cut_ok {K : PySem.W.Frag} {t m : List Addr} {n : Nat} {H : Hp} {xs : List U} {vs : List V} (lo hi : Option Int) (r : RpA K fa t m n H xs vs) : RpA K fa t m n H (cutU xs lo hi) (cutV vs lo hi) := by
  unfold cutU cutV
  rw [r.length]
  exact (r.drop _).take _
theorem cut_whole {xs : List U} {lo hi : Option Int} (h : HT.sIx xs.length 0 lo = 0 ∧ HT.sIx xs.length xs.length hi = xs.length) : cutU xs lo hi = xs := by
  unfold cutU
  rw [h.1, h.2, List.drop_zero, Nat.sub_zero, List.take_length]
theorem slR (al : Bool) : SlR X (rSlU X.K fa al) := by
  intro pins s σ H x v vl vu lo hi sl Q I rx hs pl pu h
  obtain ⟨t, bs, m, μ, a, l, hh, u, μ', M, ra, e1, e2, h, k⟩ := h
  simp only [evSlc, e1, e2] at h
  split at h
  · rename_i xs
    cases h
    cases ra with
    | tup f r1 =>
      refine sl_tupA pins s σ H _ v vl vu lo hi sl Q I rx hs pl pu ⟨_, _, rfl, f.sq, fun hw => ?_, fun _ p hp => k.tup M hp (cut_ok lo hi r1)⟩
      rw [← r1.length] at hw
      refine k.here M ?_
      rw [cut_whole hw]
      exact .tup f r1
  · rename_i z
    split at h
    · rename_i hz
      cases h
      cases ra
      have hl := sz_line
      exact C8.sl_txt pins s σ H _ v vl vu lo hi sl Q I rx hs pl pu ⟨z, rfl, by omega, k.here M (.str _)⟩
    · cases h
  · split at h
    · rename_i xs hx
      obtain ⟨rfl, rfl⟩ := Prod.mk.inj (Option.some.inj h)
      obtain ⟨p, vs, rfl, hH, r1⟩ := asL_at M ra hx
      exact sl_list pins s σ H _ v vl vu lo hi sl Q I rx hs pl pu ⟨_, _, rfl, SqL.of hH, fun p hp => k.lst M hp (cut_ok lo hi r1)⟩
    · cases h

/-! ### truth -/
def rTru (K : PySem.W.Frag) (fa : Nat → Option Addr) : V → Hp → (Bool → Hp → Prop) → Prop := fun x H Q => ∃ t bs m μ a b, Me K fa bs t m H μ ∧ Rp K fa t m m.length H a x ∧ truth μ a = some b ∧ Q b H
theorem truV_ok {K : PySem.W.Frag} {t m : List Addr} {H : Hp} {bs : List Nat} {μ : Mu} {a : U} {x : V} {b : Bool} (M : Me K fa bs t m H μ) (r : Rp K fa t m m.length H a x) (h : truth μ a = some b) : TruV K x H b := by
  have hl := sz_line
  cases a with
  | non => cases r; cases h; rfl
  | bl c => cases r; cases h; rfl
  | int i => cases r; cases h; rfl
  | str z =>
    cases r
    simp only [truth] at h
    split at h
    · rename_i hz; cases h; exact ⟨by omega, rfl⟩
    · cases h
  | tup xs =>
    cases h
    cases r with
    | tup f ra => exact .inr (.inl ⟨_, f.sq, by cases ra <;> rfl⟩)
  | lst xs =>
    cases h
    cases r with
    | lst f ra => exact .inl ⟨_, f.sq, by cases ra <;> rfl⟩
  | ob i =>
    simp only [truth] at h
    split at h
    · rename_i xs e
      cases h
      obtain ⟨p, rfl, _, c⟩ := M.objF r e
      cases c with
      | lst hH ra => exact .inl ⟨_, SqL.of hH, by cases ra <;> rfl⟩
    · rename_i ks us e
      cases h
      obtain ⟨p, rfl, _, c⟩ := M.objF r e
      cases c with
      | @dK kvs _ hH ra => exact .inr (.inr ⟨_, hH, by cases kvs <;> rfl⟩)
    · cases h
  | _ => simp [truth] at h
theorem truR : TruR X (rTru X.K fa) := by
  intro pins s σ H x v Q I rx h
  obtain ⟨t, bs, m, μ, a, b, M, ra, h, q⟩ := h
  exact tru_ok pins s σ H x v Q I rx ⟨b, truV_ok M ra h, q⟩
end
end R

set_option Elab.async false
set_option linter.all false
set_option maxRecDepth 100000
set_option maxHeartbeats 4000000
/-! R3d: builtin functions, isinstance, methods, stores, by values -/
namespace R
open PySem PySem.Spec PyProof.Rows L2

section
variable {X : Cx} {fa : Nat → Option Addr}
/-- values in, a value out -/
def rVs (K : PySem.W.Frag) (fa : Nat → Option Addr) (f : Mu → List U → Option (U × Mu)) : List V → Hp → VK → Prop := fun xs H Q => ∃ t bs m μ us u μ', Me K fa bs t m H μ ∧ RpA K fa t m m.length H us xs ∧ f μ us = some (u, μ') ∧ Kn K fa bs t m H u μ' Q
theorem rpa1 {K : PySem.W.Frag} {t m : List Addr} {n : Nat} {H : Hp} {u : U} {xs : List V} (r : RpA K fa t m n H [u] xs) : ∃ v, xs = [v] ∧ Rp K fa t m n H u v := by
  cases r with
  | cons h q => cases q; exact ⟨_, rfl, h⟩
theorem rpa2 {K : PySem.W.Frag} {t m : List Addr} {n : Nat} {H : Hp} {u w : U} {xs : List V} (r : RpA K fa t m n H [u, w] xs) : ∃ v z, xs = [v, z] ∧ Rp K fa t m n H u v ∧ Rp K fa t m n H w z := by
  cases r with
  | cons h q =>
    obtain ⟨z, rfl, h2⟩ := rpa1 q
    exact ⟨_, z, rfl, h, h2⟩
def biF (b : Bi) : Mu → List U → Option (U × Mu) := fun μ us => match evBi μ b us with
  | some u => some (u, μ)
  | none => none
theorem biF_some {b : Bi} {μ μ' : Mu} {us : List U} {u : U} (h : biF b μ us = some (u, μ')) : evBi μ b us = some u ∧ μ' = μ := by
  unfold biF at h
  split at h
  · rename_i u' e
    cases h
    exact ⟨e, rfl⟩
  · cases h
theorem intsRp {K : PySem.W.Frag} {t m : List Addr} {n : Nat} {H : Hp} : ∀ {us : List U} {vs : List V} {ns : List Int}, RpA K fa t m n H us vs → mapO asInt us = some ns → vs = ns.map V.int
  | _, _, _, .nil, h => by cases h; rfl
  | _, _, _, .cons r ra, h => by
    obtain ⟨z, zs, e1, e2, rfl⟩ := mapO_cons h
    rw [intsRp ra e2]
    cases r <;> simp [asInt] at e1
    subst e1; rfl
theorem blsRp {K : PySem.W.Frag} {t m : List Addr} {n : Nat} {H : Hp} : ∀ {us : List U} {vs : List V} {ns : List Bool}, RpA K fa t m n H us vs → mapO asBl us = some ns → vs = ns.map V.bl
  | _, _, _, .nil, h => by cases h; rfl
  | _, _, _, .cons r ra, h => by
    obtain ⟨z, zs, e1, e2, rfl⟩ := mapO_cons h
    rw [blsRp ra e2]
    cases r <;> simp [asBl] at e1
    subst e1; rfl
theorem lenR : CallR X (.builtin "len") (rVs X.K fa (biF .len)) := by
  intro pins s σ H xs us Q I rx h
  obtain ⟨t, bs, m, μ, as, u, μ', M, ra, h, k⟩ := h
  obtain ⟨h, rfl⟩ := biF_some h
  have hl := sz_line
  match as, h with
  | [a], h =>
    obtain ⟨v, rfl, r⟩ := rpa1 ra
    simp only [evBi] at h
    split at h
    · rename_i z hc
      have ea := cont_str M r hc
      subst ea
      split at h
      · rename_i hz
        cases h
        cases r
        exact call_len pins s σ H _ us Q I rx ⟨_, _, rfl, ⟨by omega, rfl⟩, k.here M (.int _)⟩
      · cases h
    · rename_i ys hc
      have ea := cont_tup M r hc
      subst ea
      cases h
      cases r with
      | tup f r1 => exact call_len pins s σ H _ us Q I rx ⟨_, _, rfl, .inr ⟨_, f.sq, rfl⟩, by rw [← r1.length]; exact k.here M (.int _)⟩
    · rename_i ys hc
      obtain ⟨p, vs, rfl, hH, r1⟩ := cont_lst M r hc
      cases h
      exact call_len pins s σ H _ us Q I rx ⟨_, _, rfl, .inl ⟨_, SqL.of hH, rfl⟩, by rw [← r1.length]; exact k.here M (.int _)⟩
    · rename_i ks ys hc
      obtain ⟨p, kvs, rfl, hH, rfl, r1⟩ := dk_at M r hc
      cases h
      exact call_lenD pins s σ H _ us Q I rx ⟨_, _, rfl, hH, by have q := k.here M (.int _); rw [List.length_map] at q; exact q⟩
    · rename_i ks ys hc
      obtain ⟨p, kvs, rfl, hH, rfl, r1⟩ := dt_at M r hc
      cases h
      exact call_len_dT pins s σ H _ us Q I rx ⟨_, _, rfl, hH, by have q := k.here M (.int _); rw [List.length_map] at q; exact q⟩
    · cases h
  | [], h => simp [evBi] at h
  | _ :: _ :: _, h => simp [evBi] at h
theorem intR : CallR X (.type "int") (rVs X.K fa (biF .int)) := by
  intro pins s σ H xs us Q I rx h
  obtain ⟨t, bs, m, μ, as, u, μ', M, ra, h, k⟩ := h
  obtain ⟨h, rfl⟩ := biF_some h
  match as, h with
  | [.int i], h =>
    obtain ⟨v, rfl, r⟩ := rpa1 ra
    cases h; cases r
    exact call_int1 pins s σ H _ us Q I rx (.inl ⟨i, rfl, k.here M (.int _)⟩)
  | [.bl b], h =>
    obtain ⟨v, rfl, r⟩ := rpa1 ra
    cases h; cases r
    exact call_int1 pins s σ H _ us Q I rx (.inr ⟨b, rfl, k.here M (.int _)⟩)
theorem absR : CallR X (.builtin "abs") (rVs X.K fa (biF .abs)) := by
  intro pins s σ H xs us Q I rx h
  obtain ⟨t, bs, m, μ, as, u, μ', M, ra, h, k⟩ := h
  obtain ⟨h, rfl⟩ := biF_some h
  match as, h with
  | [.int i], h =>
    obtain ⟨v, rfl, r⟩ := rpa1 ra
    cases h; cases r
    exact call_abs pins s σ H _ us Q I rx ⟨i, rfl, k.here M (.int _)⟩
theorem bls_ok {K : PySem.W.Frag} {t m : List Addr} {H : Hp} {bs : List Nat} {μ : Mu} {a : U} {v : V} {ns : List Bool} (M : Me K fa bs t m H μ) (r : Rp K fa t m m.length H a v) (h : bls μ a = some ns) : ∃ p, v = .ref p ∧ SqL K H p (ns.map V.bl) := by
  unfold bls at h
  split at h
  · rename_i xs e
    obtain ⟨p, vs, rfl, hH, r1⟩ := asL_at M r e
    have := blsRp r1 h
    subst this
    exact ⟨p, rfl, SqL.of hH⟩
  · cases h
theorem intL_ok {K : PySem.W.Frag} {t m : List Addr} {H : Hp} {bs : List Nat} {μ : Mu} {a : U} {v : V} {ns : List Int} (M : Me K fa bs t m H μ) (r : Rp K fa t m m.length H a v) (h : intL μ a = some ns) : ∃ p, v = .ref p ∧ SqL K H p (ns.map V.int) := by
  unfold intL at h
  split at h
  · rename_i xs e
    obtain ⟨p, vs, rfl, hH, r1⟩ := asL_at M r e
    have := intsRp r1 h
    subst this
    exact ⟨p, rfl, SqL.of hH⟩
  · cases h
theorem intT_ok {K : PySem.W.Frag} {t m : List Addr} {H : Hp} {bs : List Nat} {μ : Mu} {a : U} {v : V} {ns : List Int} (M : Me K fa bs t m H μ) (r : Rp K fa t m m.length H a v) (h : intT μ a = some ns) : ∃ p, v = .ref p ∧ (SqL K H p (ns.map V.int) ∨ SqT K H p (ns.map V.int)) := by
  unfold intT at h
  split at h
  · rename_i xs e
    obtain ⟨p, vs, rfl, hH, r1⟩ := asS_ok M r e
    have := intsRp r1 h
    subst this
    exact ⟨p, rfl, hH⟩
  · cases h
theorem allR (hc : X.calm = true) : CallR X (.builtin "all") (rVs X.K fa (biF .all)) := by
  intro pins s σ H xs us Q I rx h
  obtain ⟨t, bs, m, μ, as, u, μ', M, ra, h, k⟩ := h
  obtain ⟨h, rfl⟩ := biF_some h
  match as, h with
  | [a], h =>
    obtain ⟨v, rfl, r⟩ := rpa1 ra
    simp only [evBi, Option.map_eq_some_iff] at h
    obtain ⟨ns, e, rfl⟩ := h
    obtain ⟨p, rfl, hS⟩ := bls_ok M r e
    exact cr_all hc pins s σ H _ us Q I rx ⟨p, ns, rfl, hS, k.here M (.bl _)⟩
  | [], h => simp [evBi] at h
  | _ :: _ :: _, h => simp [evBi] at h
theorem anyR (hc : X.calm = true) : CallR X (.builtin "any") (rVs X.K fa (biF .any)) := by
  intro pins s σ H xs us Q I rx h
  obtain ⟨t, bs, m, μ, as, u, μ', M, ra, h, k⟩ := h
  obtain ⟨h, rfl⟩ := biF_some h
  match as, h with
  | [a], h =>
    obtain ⟨v, rfl, r⟩ := rpa1 ra
    simp only [evBi, Option.map_eq_some_iff] at h
    obtain ⟨ns, e, rfl⟩ := h
    obtain ⟨p, rfl, hS⟩ := bls_ok M r e
    exact cr_any hc pins s σ H _ us Q I rx ⟨p, ns, rfl, hS, k.here M (.bl _)⟩
  | [], h => simp [evBi] at h
  | _ :: _ :: _, h => simp [evBi] at h
theorem sumR (hc : X.calm = true) : CallR X (.builtin "sum") (rVs X.K fa (biF .sum)) := by
  intro pins s σ H xs us Q I rx h
  obtain ⟨t, bs, m, μ, as, u, μ', M, ra, h, k⟩ := h
  obtain ⟨h, rfl⟩ := biF_some h
  match as, h with
  | [a], h =>
    obtain ⟨v, rfl, r⟩ := rpa1 ra
    simp only [evBi, Option.map_eq_some_iff] at h
    obtain ⟨ns, e, rfl⟩ := h
    obtain ⟨p, rfl, hS⟩ := intL_ok M r e
    exact cr_sum hc pins s σ H _ us Q I rx ⟨p, ns, rfl, hS, k.here M (.int _)⟩
  | [], h => simp [evBi] at h
  | _ :: _ :: _, h => simp [evBi] at h
theorem min2R (hc : X.calm = true) : CallR X (.builtin "min") (rVs X.K fa (biF .min2)) := by
  intro pins s σ H xs us Q I rx h
  obtain ⟨t, bs, m, μ, as, u, μ', M, ra, h, k⟩ := h
  obtain ⟨h, rfl⟩ := biF_some h
  match as, h with
  | [.int i, .int j], h =>
    obtain ⟨v, z, rfl, r, r2⟩ := rpa2 ra
    cases h; cases r; cases r2
    exact call_min2 hc pins s σ H _ us Q I rx ⟨i, j, rfl, k.here M (.int _)⟩
theorem max2R (hc : X.calm = true) : CallR X (.builtin "max") (rVs X.K fa (biF .max2)) := by
  intro pins s σ H xs us Q I rx h
  obtain ⟨t, bs, m, μ, as, u, μ', M, ra, h, k⟩ := h
  obtain ⟨h, rfl⟩ := biF_some h
  match as, h with
  | [.int i, .int j], h =>
    obtain ⟨v, z, rfl, r, r2⟩ := rpa2 ra
    cases h; cases r; cases r2
    exact call_max2 hc pins s σ H _ us Q I rx ⟨i, j, rfl, k.here M (.int _)⟩
theorem reads_ints {h : Heap} : ∀ {vs : List Value} {ns : List Int}, Vals (ns.map V.int) vs → ReadsAll h vs (ns.map PyData.int) []
  | [], [], _ => ReadsAll.nil
  | v :: vs, n :: ns, .cons r t => by
    obtain ⟨k, rfl⟩ := r
    exact ReadsAll.cons (as := []) (bs := []) (Reads.int n k) (reads_ints t)
theorem alike_intsAll (ns : List Int) : PySem.W.AlikeAll (ns.map PyData.int) := by
  refine ⟨fun x hx y hy => ?_, fun x hx => ?_⟩
  · obtain ⟨i, _, rfl⟩ := List.mem_map.mp hx
    obtain ⟨j, _, rfl⟩ := List.mem_map.mp hy
    rfl
  · obtain ⟨i, _, rfl⟩ := List.mem_map.mp hx
    exact fun z => by cases z
theorem maxD_ints : ∀ (ns : List Int) (x : Int), PySem.W.maxD (.int x) (ns.map PyData.int) = .int (ns.foldl (fun a b => if a < b then b else a) x)
  | [], x => rfl
  | n :: ns, x => by
    have ih := maxD_ints ns (if x < n then n else x)
    unfold PySem.W.maxD at ih ⊢
    rw [List.map_cons, List.foldl_cons, List.foldl_cons, ← ih]
    congr 1
    rw [PySem.W.dataLt_int]
    by_cases h : x < n <;> simp [h]
theorem minD_ints : ∀ (ns : List Int) (x : Int), PySem.W.minD (.int x) (ns.map PyData.int) = .int (ns.foldl (fun a b => if b < a then b else a) x)
  | [], x => rfl
  | n :: ns, x => by
    have ih := minD_ints ns (if n < x then n else x)
    unfold PySem.W.minD at ih ⊢
    rw [List.map_cons, List.foldl_cons, List.foldl_cons, ← ih]
    congr 1
    rw [PySem.W.dataLt_int]
    by_cases h : n < x <;> simp [h]
theorem depth_intsAll (ns : List Int) : PyData.depthAll (ns.map PyData.int) = 0 := PySem.W.depth_ints ns
theorem max1R (hc : X.calm = true) (hu : X.A.units + 66 < cLine) : CallR X (.builtin "max") (rVs X.K fa (biF .max1)) := by
  intro pins s σ H xs us Q I rx h
  obtain ⟨t, bs, m, μ, as, u, μ', M, ra, h, k⟩ := h
  obtain ⟨h, rfl⟩ := biF_some h
  match as, h with
  | [a], h =>
    obtain ⟨v, rfl, r⟩ := rpa1 ra
    simp only [evBi, Option.map_eq_some_iff] at h
    obtain ⟨z, e, rfl⟩ := h
    cases e1 : intT μ' a with
    | none => rw [e1] at e; cases e
    | some ns =>
      rw [e1] at e
      obtain ⟨p, rfl, hS⟩ := intT_ok M r e1
      obtain ⟨uu, rfl, ru⟩ := vals1 rx
      cases ru
      match ns, e with
      | n :: ns, e =>
        cases e
        have dz : X.A.units + 1 + PyData.depthAll (PyData.int n :: ns.map PyData.int) < cLine := by
          have := depth_intsAll (n :: ns)
          rw [List.map_cons] at this
          rw [this]; omega
        rcases hS with hS | hS
        · obtain ⟨its, rv, pl, _⟩ := I.list hS
          refine PySem.W.max_list_data (I.ok.hd hc) pl.isList (reads_ints rv) (alike_intsAll (n :: ns)) dz fun i v h' tk bs hv hr hk => ?_
          rw [maxD_ints] at hr
          cases hr
          exact ⟨.int _, H, I.kept (t' := tk) hk, ⟨_, rfl⟩, k.here M (.int _)⟩
        · obtain ⟨its, rv, pl, _⟩ := I.tuple hS
          refine PySem.W.max_tuple_data (I.ok.hd hc) (show s.heap.IsTuple p its.toArray from pl) (reads_ints rv) (alike_intsAll (n :: ns)) dz fun i v h' tk bs hv hr hk => ?_
          rw [maxD_ints] at hr
          cases hr
          exact ⟨.int _, H, I.kept (t' := tk) hk, ⟨_, rfl⟩, k.here M (.int _)⟩
  | [], h => simp [evBi] at h
  | _ :: _ :: _, h => simp [evBi] at h
theorem min1R (hc : X.calm = true) (hu : X.A.units + 66 < cLine) : CallR X (.builtin "min") (rVs X.K fa (biF .min1)) := by
  intro pins s σ H xs us Q I rx h
  obtain ⟨t, bs, m, μ, as, u, μ', M, ra, h, k⟩ := h
  obtain ⟨h, rfl⟩ := biF_some h
  match as, h with
  | [a], h =>
    obtain ⟨v, rfl, r⟩ := rpa1 ra
    simp only [evBi, Option.map_eq_some_iff] at h
    obtain ⟨z, e, rfl⟩ := h
    cases e1 : intT μ' a with
    | none => rw [e1] at e; cases e
    | some ns =>
      rw [e1] at e
      obtain ⟨p, rfl, hS⟩ := intT_ok M r e1
      obtain ⟨uu, rfl, ru⟩ := vals1 rx
      cases ru
      match ns, e with
      | n :: ns, e =>
        cases e
        have dz : X.A.units + 1 + PyData.depthAll (PyData.int n :: ns.map PyData.int) < cLine := by
          have := depth_intsAll (n :: ns)
          rw [List.map_cons] at this
          rw [this]; omega
        rcases hS with hS | hS
        · obtain ⟨its, rv, pl, _⟩ := I.list hS
          refine PySem.W.min_list_data (I.ok.hd hc) pl.isList (reads_ints rv) (alike_intsAll (n :: ns)) dz fun i v h' tk bs hv hr hk => ?_
          rw [minD_ints] at hr
          cases hr
          exact ⟨.int _, H, I.kept (t' := tk) hk, ⟨_, rfl⟩, k.here M (.int _)⟩
        · obtain ⟨its, rv, pl, _⟩ := I.tuple hS
          refine PySem.W.min_tuple_data (I.ok.hd hc) (show s.heap.IsTuple p its.toArray from pl) (reads_ints rv) (alike_intsAll (n :: ns)) dz fun i v h' tk bs hv hr hk => ?_
          rw [minD_ints] at hr
          cases hr
          exact ⟨.int _, H, I.kept (t' := tk) hk, ⟨_, rfl⟩, k.here M (.int _)⟩
  | [], h => simp [evBi] at h
  | _ :: _ :: _, h => simp [evBi] at h

/-- the name, the value of each builtin -/
def Bi.nm : Bi → Str
  | .len => "len" | .int => "int" | .abs => "abs" | .all => "all" | .any => "any" | .sum => "sum" | .min1 => "min" | .max1 => "max" | .min2 => "min" | .max2 => "max"
end
end R

set_option Elab.async false
set_option linter.all false
set_option maxRecDepth 100000
set_option maxHeartbeats 4000000
/-! R3e: expressions -/
namespace R
open PySem PySem.Spec PyProof.Rows L2

theorem _root_.L2.PE.imp {X : Cx} {e : Expr} {t t' : TE} (h : PE X e t) (hi : ∀ σ H Q, t' σ H Q → t σ H Q) : PE X e t' := R.PE.imp h hi
theorem _root_.L2.PT.imp {X : Cx} {e : Expr} {t t' : TT} (h : PT X e t) (hi : ∀ σ H Q, t' σ H Q → t σ H Q) : PT X e t' := R.PT.imp h hi
theorem _root_.L2.PW.imp {X : Cx} {e : Expr} {t t' : TT} (h : PW X e t) (hi : ∀ σ H Q, t' σ H Q → t σ H Q) : PW X e t' := R.PW.imp h hi
theorem _root_.L2.PA.imp {X : Cx} {e : List Expr} {t t' : TA} (h : PA X e t) (hi : ∀ σ H Q, t' σ H Q → t σ H Q) : PA X e t' := R.PA.imp h hi
theorem _root_.L2.PS.imp {X : Cx} {e : Stmt} {t t' : TS} (h : PS X e t) (hi : ∀ D σ H, t' D σ H → t D σ H) : PS X e t' := R.PS.imp h hi
theorem _root_.L2.PSs.imp {X : Cx} {e : List Stmt} {t t' : TS} (h : PSs X e t) (hi : ∀ D σ H, t' D σ H → t D σ H) : PSs X e t' := R.PSs.imp h hi
/-- the forms that an expression of ours may have -/
def okh : Expr → Bool
  | .Name .. | .Constant .. | .BinOp .. | .UnaryOp .. | .Compare .. | .BoolOp .. | .IfExp .. | .Subscript .. | .Call .. | .Tuple .. | .List .. | .Dict .. | .ListComp .. => true
  | _ => false
theorem okh_star {e : Expr} {es : List Expr} {env : PySem.Env} (h : okh e = true) : starEach (e :: es) env = (false, eval e env) :: starEach es env := by
  cases e <;> first | rfl | cases h
theorem okh_back : ∀ {es : List Expr} {env : PySem.Env} {pos : Pos}, es.all okh = true → (backTo pos (starEach es env)).any (·.1) = false
  | [], _, _, _ => rfl
  | e :: es, env, pos, h => by
    simp only [List.all_cons, Bool.and_eq_true] at h
    rw [okh_star h.1]
    have ih := okh_back (env := env) (pos := pos) h.2
    show (false || (backTo pos (starEach es env)).any (·.1)) = false
    rw [ih] <;> rfl
theorem okh_all : ∀ {es : List Expr} {env : PySem.Env} {pos : Pos}, es.all okh = true → (backTo pos (starEach es env)).all (fun x => !x.1) = true
  | [], _, _, _ => rfl
  | e :: es, env, pos, h => by
    simp only [List.all_cons, Bool.and_eq_true] at h
    rw [okh_star h.1]
    have ih := okh_all (env := env) (pos := pos) h.2
    show (true && (backTo pos (starEach es env)).all (fun x => !x.1)) = true
    rw [ih] <;> rfl
theorem okh_ix {e : Expr} (h : okh e = true) : PlainIx e := by
  intro o i
  cases e <;> first | rfl | cases h
theorem okh_mark {e : Expr} {op : CmpOp} (h : okh e = true) : behindInMarks op e = false := by
  cases e <;> first | rfl | cases h
/-- a receiver of a method: no call without arguments -/
def okr : Expr → Bool
  | .Name .. | .Subscript .. => true
  | .Call _ (_ :: _) [] _ => true
  | _ => false
theorem okr_base {e : Expr} {m : Str} {env : PySem.Env} {w : Sem Value} (h : okr e = true) : attributeBase e m env w = w := by
  cases e with
  | Call f as kw pos =>
    cases as with
    | nil => cases h
    | cons a as => cases kw <;> first | (cases f <;> (unfold attributeBase; rfl)) | cases h
  | Name => unfold attributeBase; rfl
  | Subscript => unfold attributeBase; rfl
  | _ => cases h

section
variable {X : Cx} {fa : Nat → Option Addr} {cal : Nat → List U → Mu → Option (U × Mu)} {n0 : Nat}
abbrev PEv (X : Cx) (fa : Nat → Option Addr) (cal : Nat → List U → Mu → Option (U × Mu)) (n0 : Nat) (x : Expr) (e : E) : Prop := PE X x (tE X.K fa n0 (evalE cal n0 e))
abbrev PTv (X : Cx) (fa : Nat → Option Addr) (cal : Nat → List U → Mu → Option (U × Mu)) (n0 : Nat) (x : Expr) (e : E) : Prop := PT X x (tT X.K fa n0 (evalE cal n0 e))
abbrev PAv (X : Cx) (fa : Nat → Option Addr) (cal : Nat → List U → Mu → Option (U × Mu)) (n0 : Nat) (x : List Expr) (e : List E) : Prop := PA X x (tL X.K fa n0 (evalL cal n0 e))
variable {a b c : E} {xa xb xc : Expr} {pos : Pos}

/-- a test by its value -/
theorem t_of_e (h : PEv X fa cal n0 xa a) (he : ∀ whole, isTrue xa X.env whole = (do let v ← whole; standAt xa.pos; holding [v] (truthy v))) : PTv X fa cal n0 xa a :=
  (pt_truth h he).imp fun σV H Q q => by
    obtain ⟨t, bs, m, σ, μ, u, μ', d, hb, he, M, ev, tr, k⟩ := q
    exact ⟨t, bs, m, σ, μ, u, μ', hb, he, M, ev, fun m' H' v x1 M1 r1 => ⟨d, truV_ok M1 r1 tr, k m' H' x1 M1⟩⟩

theorem e_var {i : Nat} {x : Str} (hN : X.N[i]? = some x) (hv : Vis X.env.scope x) (hd : (x == ("__debug__" : Str)) = false) (hcd : (x == ("__classdict__" : Str)) = false) : PEv X fa cal n0 (.Name x pos) (.var i) :=
  (pe_var hN hv hd hcd).imp fun σV H Q q => by
    obtain ⟨t, bs, m, σ, μ, u, μ', hb, he, M, ev, k⟩ := q
    simp only [evalE] at ev
    split at ev
    · rename_i u' e
      cases ev
      obtain ⟨v, e1, r⟩ := he.at_ i _ e
      exact ⟨v, e1, k.here M r⟩
    · cases ev
theorem e_c {e : E} {x : Expr} {u : U} {v : V} (h : PE X x (tC v)) (he : ∀ σ μ, evalE cal n0 e σ μ = some (u, μ)) (r : ∀ t m n H, Rp X.K fa t m n H u v) : PEv X fa cal n0 x e :=
  h.imp fun σV H Q q => by
    obtain ⟨t, bs, m, σ, μ, u, μ', hb, hE, M, ev, k⟩ := q
    rw [he] at ev
    cases ev
    exact k.here M (r _ _ _ _)
theorem e_non {j} : PEv X fa cal n0 (.Constant .none j pos) .non := e_c pe_non (fun _ _ => rfl) fun _ _ _ _ => .non
theorem e_bl {j} {d : Bool} : PEv X fa cal n0 (.Constant (.bool d) j pos) (.bl d) := e_c pe_bl (fun _ _ => rfl) fun _ _ _ _ => .bl d
theorem e_int {j} {i : Int} : PEv X fa cal n0 (.Constant (.int i) j pos) (.int i) := e_c pe_int (fun _ _ => rfl) fun _ _ _ _ => .int i
theorem e_str {j} {z : Str} : PEv X fa cal n0 (.Constant (.str z) j pos) (.str z) := e_c pe_str (fun _ _ => rfl) fun _ _ _ _ => .str z
theorem e_gint {x : Str} {i : Int} (hg : Gl X x) (hm : ∃ t, X.mg x = some (.int i t)) (hd : (x == ("__debug__" : Str)) = false) : PEv X fa cal n0 (.Name x pos) (.gint i) := by
  obtain ⟨t, e⟩ := hm
  exact e_c (pe_glob hg e (v := .int i) ⟨t, rfl⟩ hd) (fun _ _ => rfl) fun _ _ _ _ => .int i
theorem e_fnv {x : Str} {f : Nat} {p : Addr} (hg : Gl X x) (hm : X.mg x = some (.ref p)) (hf : fa f = some p) (hd : (x == ("__debug__" : Str)) = false) : PEv X fa cal n0 (.Name x pos) (.fnv f) :=
  e_c (pe_glob hg hm (v := .ref p) rfl hd) (fun _ _ => rfl) fun _ _ _ _ => .fn hf

/-- one value, then something -/
theorem seq1 {K : PySem.W.Frag} {t m : List Addr} {bs : List Nat} {σ : Env} {σV : L2.St} {H : Hp} {μ μ1 : Mu} {u1 : U} {ev : Ev} (hb : bs.length = n0) (he : EnvR K fa t m H σ σV) (M : Me K fa bs t m H μ) (e1 : ev σ μ = some (u1, μ1))
    {R : V → Hp → Prop} (k : ∀ m1 H1 v1, Ex m H m1 H1 → Me K fa bs t m1 H1 μ1 → Rp K fa t m1 m1.length H1 u1 v1 → R v1 H1) : tE K fa n0 ev σV H R := ⟨t, bs, m, σ, μ, u1, μ1, hb, he, M, e1, k⟩
theorem seq2 {K : PySem.W.Frag} {t m : List Addr} {bs : List Nat} {σ : Env} {σV : L2.St} {H : Hp} {μ μ1 μ2 : Mu} {u1 u2 : U} {ev ev2 : Ev} (hb : bs.length = n0) (he : EnvR K fa t m H σ σV) (M : Me K fa bs t m H μ) (e1 : ev σ μ = some (u1, μ1)) (e2 : ev2 σ μ1 = some (u2, μ2))
    {R : V → V → Hp → Prop} (k : ∀ m2 H2 v1 v2, Ex m H m2 H2 → Me K fa bs t m2 H2 μ2 → Rp K fa t m2 m2.length H2 u1 v1 → Rp K fa t m2 m2.length H2 u2 v2 → R v1 v2 H2) :
    tE K fa n0 ev σV H fun x H1 => tE K fa n0 ev2 σV H1 fun y H2 => R x y H2 :=
  seq1 hb he M e1 fun m1 H1 v1 x1 M1 r1 => seq1 hb (he.ex x1) M1 e2 fun m2 H2 v2 x2 M2 r2 => k m2 H2 v1 v2 (x1.trans x2) M2 (r1.ex' x2) r2

theorem e_bin {al : Bool} {op : Bo} (ha : PEv X fa cal n0 xa a) (hb : PEv X fa cal n0 xb b) : PEv X fa cal n0 (.BinOp xa op.op xb pos) (.bin al op a b) :=
  (pe_op (binR al op) ha hb).imp fun σV H Q q => by
    obtain ⟨t, bs, m, σ, μ, u, μ', hb, he, M, ev, k⟩ := q
    simp only [evalE] at ev
    split at ev
    · rename_i u1 μ1 e1
      split at ev
      · rename_i u2 μ2 e2
        exact seq2 hb he M e1 e2 fun m2 H2 v1 v2 x M2 r1 r2 => ⟨t, bs, m2, μ2, u1, u2, u, μ', M2, r1, r2, ev, k.ex x⟩
      · cases ev
    · cases ev
theorem e_neg (ha : PEv X fa cal n0 xa a) : PEv X fa cal n0 (.UnaryOp .USub xa pos) (.neg a) :=
  (pe_un un_neg ha).imp fun σV H Q q => by
    obtain ⟨t, bs, m, σ, μ, u, μ', hb, he, M, ev, k⟩ := q
    simp only [evalE] at ev
    split at ev
    · rename_i i μ1 e1
      cases ev
      refine seq1 hb he M e1 fun m1 H1 v1 x M1 r1 => ?_
      cases r1
      exact ⟨i, rfl, k m1 H1 _ x M1 (.int _)⟩
    · cases ev
theorem cmp_rd {op : Co} {σV : L2.St} {H : Hp} {Q : VK} (q : tE X.K fa n0 (evalE cal n0 (.cmp op a b)) σV H Q) : tOp (rC2 X.K fa fun μ a b => evCmp μ op a b) (tE X.K fa n0 (evalE cal n0 a)) (tE X.K fa n0 (evalE cal n0 b)) σV H Q := by
  obtain ⟨t, bs, m, σ, μ, u, μ', hb, he, M, ev, k⟩ := q
  simp only [evalE] at ev
  split at ev
  · rename_i u1 μ1 e1
    split at ev
    · rename_i u2 μ2 e2
      split at ev
      · rename_i d e3
        cases ev
        exact seq2 hb he M e1 e2 fun m2 H2 v1 v2 x M2 r1 r2 => ⟨t, bs, m2, _, u1, u2, d, M2, r1, r2, e3, k m2 H2 _ x M2 (.bl _)⟩
      · cases ev
    · cases ev
  · cases ev
theorem e_cmp {op : Co} (hu : X.A.units + 66 < cLine) (ha : PEv X fa cal n0 xa a) (hb : PEv X fa cal n0 xb b) (hk : okh xb = true) : PEv X fa cal n0 (.Compare xa [op.op] [xb] pos) (.cmp op a b) :=
  (pe_cmpR (cmpR hu op) ha hb (okh_mark hk)).imp fun σV H Q q => cmp_rd q
theorem cmp_bl {op : Co} {σ : Env} {μ μ' : Mu} {u : U} (h : evalE cal n0 (.cmp op a b) σ μ = some (u, μ')) : ∃ d, u = .bl d := by
  simp only [evalE] at h
  split at h
  · split at h
    · split at h
      · cases h; exact ⟨_, rfl⟩
      · cases h
    · cases h
  · cases h
/-- a bool's test -/
theorem tT_bl {K : PySem.W.Frag} {ev : Ev} {σV : L2.St} {H : Hp} {Q : Bool → Hp → Prop} (hbl : ∀ σ μ u μ', ev σ μ = some (u, μ') → ∃ d, u = .bl d) (h : tT K fa n0 ev σV H Q) : tE K fa n0 ev σV H fun x H' => ∃ k, x = .bl k ∧ Q k H' := by
  obtain ⟨t, bs, m, σ, μ, u, μ', d, hb, he, M, ev, tr, k⟩ := h
  obtain ⟨e, rfl⟩ := hbl _ _ _ _ ev
  cases tr
  exact ⟨t, bs, m, σ, μ, _, μ', hb, he, M, ev, fun m1 H1 v x1 M1 r1 => by cases r1; exact ⟨d, rfl, k m1 H1 x1 M1⟩⟩
theorem t_cmp {op : Co} (hu : X.A.units + 66 < cLine) (ha : PEv X fa cal n0 xa a) (hb : PEv X fa cal n0 xb b) (hk : okh xb = true) : PTv X fa cal n0 (.Compare xa [op.op] [xb] pos) (.cmp op a b) :=
  (pt_cmpR (cmpR hu op) ha hb (okh_mark hk)).imp fun σV H Q q => cmp_rd (tT_bl (fun _ _ _ _ e => cmp_bl e) q)
theorem chain_rd {op op' : Co} {σV : L2.St} {H : Hp} {Q : VK} (q : tE X.K fa n0 (evalE cal n0 (.chain op op' a b c)) σV H Q) :
    tChain (rC2 X.K fa fun μ a b => evCmp μ op a b) (rC2 X.K fa fun μ a b => evCmp μ op' a b) (tE X.K fa n0 (evalE cal n0 a)) (tE X.K fa n0 (evalE cal n0 b)) (tE X.K fa n0 (evalE cal n0 c)) σV H Q := by
  obtain ⟨t, bs, m, σ, μ, u, μ', hb, he, M, ev, k⟩ := q
  simp only [evalE] at ev
  split at ev
  · rename_i u1 μ1 e1
    split at ev
    · rename_i u2 μ2 e2
      refine seq2 hb he M e1 e2 fun m2 H2 v1 v2 x M2 r1 r2 => ?_
      split at ev
      · rename_i e3
        cases ev
        refine ⟨t, bs, m2, _, u1, u2, false, M2, r1, r2, e3, false, rfl, ?_⟩
        rw [if_neg (by decide)]
        exact k m2 H2 _ x M2 (.bl _)
      · rename_i e3
        refine ⟨t, bs, m2, μ2, u1, u2, true, M2, r1, r2, e3, true, rfl, ?_⟩
        rw [if_pos rfl]
        split at ev
        · rename_i w μ3 e4
          split at ev
          · rename_i d e5
            cases ev
            refine seq1 hb (he.ex x) M2 e4 fun m3 H3 v3 x3 M3 r3 => ?_
            exact ⟨t, bs, m3, _, u2, w, d, M3, r2.ex' x3, r3, e5, k m3 H3 _ (x.trans x3) M3 (.bl _)⟩
          · cases ev
        · cases ev
      · cases ev
    · cases ev
  · cases ev
theorem chain_bl {op op' : Co} {σ : Env} {μ μ' : Mu} {u : U} (h : evalE cal n0 (.chain op op' a b c) σ μ = some (u, μ')) : ∃ d, u = .bl d := by
  simp only [evalE] at h
  split at h
  · split at h
    · split at h
      · cases h; exact ⟨_, rfl⟩
      · split at h
        · split at h
          · cases h; exact ⟨_, rfl⟩
          · cases h
        · cases h
      · cases h
    · cases h
  · cases h
theorem okh_last {op op' : CmpOp} {e f : Expr} (h : okh f = true) : lastMarks [op, op'] [e, f] = false := okh_mark (op := op') h
theorem e_chain {op op' : Co} (hu : X.A.units + 66 < cLine) (ha : PEv X fa cal n0 xa a) (hb : PEv X fa cal n0 xb b) (hc : PEv X fa cal n0 xc c) (hk : okh xc = true) : PEv X fa cal n0 (.Compare xa [op.op, op'.op] [xb, xc] pos) (.chain op op' a b c) :=
  (pe_chain (cmpR hu op) (cmpR hu op') ha hb hc (okh_last hk)).imp fun σV H Q q => chain_rd q
theorem t_chain {op op' : Co} (hu : X.A.units + 66 < cLine) (ha : PEv X fa cal n0 xa a) (hb : PEv X fa cal n0 xb b) (hc : PEv X fa cal n0 xc c) (hk : okh xc = true) : PTv X fa cal n0 (.Compare xa [op.op, op'.op] [xb, xc] pos) (.chain op op' a b c) :=
  (pt_chain (cmpR hu op) (cmpR hu op') ha hb hc (okh_last hk)).imp fun σV H Q q => chain_rd (tT_bl (fun _ _ _ _ e => chain_bl e) q)
theorem e_not (ha : PEv X fa cal n0 xa a) : PEv X fa cal n0 (.UnaryOp .Not xa pos) (.not a) :=
  (pe_notT ha).imp fun σV H Q q => by
    obtain ⟨t, bs, m, σ, μ, u, μ', hb, he, M, ev, k⟩ := q
    simp only [evalE] at ev
    split at ev
    · rename_i u1 μ1 e1
      split at ev
      · rename_i d e2
        cases ev
        exact seq1 hb he M e1 fun m1 H1 v1 x M1 r1 => ⟨d, truV_ok M1 r1 e2, k m1 H1 _ x M1 (.bl _)⟩
      · cases ev
    · cases ev
theorem t_not (ha : PTv X fa cal n0 xa a) : PTv X fa cal n0 (.UnaryOp .Not xa pos) (.not a) :=
  (pt_not ha).imp fun σV H Q q => by
    obtain ⟨t, bs, m, σ, μ, u, μ', d, hb, he, M, ev, tr, k⟩ := q
    simp only [evalE] at ev
    split at ev
    · rename_i u1 μ1 e1
      split at ev
      · rename_i d' e2
        cases ev
        cases tr
        exact ⟨t, bs, m, σ, μ, u1, _, d', hb, he, M, e1, e2, k⟩
      · cases ev
    · cases ev
theorem e_ite (hc : PTv X fa cal n0 xc c) (ha : PEv X fa cal n0 xa a) (hb : PEv X fa cal n0 xb b) : PEv X fa cal n0 (.IfExp xc xa xb pos) (.ite c a b) :=
  (pe_ifExp hc ha hb).imp fun σV H Q q => by
    obtain ⟨t, bs, m, σ, μ, u, μ', hb, he, M, ev, k⟩ := q
    simp only [evalE] at ev
    split at ev
    · rename_i u1 μ1 e1
      split at ev
      · rename_i e2
        refine ⟨t, bs, m, σ, μ, u1, μ1, true, hb, he, M, e1, e2, fun m1 H1 x1 M1 => ?_⟩
        simp only [↓reduceIte]
        exact ⟨t, bs, m1, σ, μ1, u, μ', hb, he.ex x1, M1, ev, k.ex x1⟩
      · rename_i e2
        refine ⟨t, bs, m, σ, μ, u1, μ1, false, hb, he, M, e1, e2, fun m1 H1 x1 M1 => ?_⟩
        simp only [↓reduceIte, Bool.false_eq_true]
        exact ⟨t, bs, m1, σ, μ1, u, μ', hb, he.ex x1, M1, ev, k.ex x1⟩
      · cases ev
    · cases ev
/-- a test of a if c else b -/
theorem pt_ifExp {tc ta tb : TT} (hc : PT X xc tc) (ha : PT X xa ta) (hb : PT X xb tb) : PT X (.IfExp xc xa xb pos) (fun σ H Q => tc σ H fun d H1 => if d = true then ta σ H1 Q else tb σ H1 Q) := by
  refine ⟨fun pins s σ H Q I h => ?_⟩
  unfold PySem.isTrue
  refine wpAny_bind (thn (hc.run pins s σ H _ I h) fun d s1 ⟨H1, I1, q1⟩ => ?_)
  cases d with
  | true => exact ha.run pins s1 σ H1 Q I1 q1
  | false => exact hb.run pins s1 σ H1 Q I1 q1
theorem t_ite (hc : PTv X fa cal n0 xc c) (ha : PTv X fa cal n0 xa a) (hb : PTv X fa cal n0 xb b) : PTv X fa cal n0 (.IfExp xc xa xb pos) (.ite c a b) :=
  (pt_ifExp hc ha hb).imp fun σV H Q q => by
    obtain ⟨t, bs, m, σ, μ, u, μ', d, hb, he, M, ev, tr, k⟩ := q
    simp only [evalE] at ev
    split at ev
    · rename_i u1 μ1 e1
      split at ev
      · rename_i e2
        refine ⟨t, bs, m, σ, μ, u1, μ1, true, hb, he, M, e1, e2, fun m1 H1 x1 M1 => ?_⟩
        simp only [↓reduceIte]
        exact ⟨t, bs, m1, σ, μ1, u, μ', d, hb, he.ex x1, M1, ev, tr, fun m2 H2 x2 M2 => k m2 H2 (x1.trans x2) M2⟩
      · rename_i e2
        refine ⟨t, bs, m, σ, μ, u1, μ1, false, hb, he, M, e1, e2, fun m1 H1 x1 M1 => ?_⟩
        simp only [↓reduceIte, Bool.false_eq_true]
        exact ⟨t, bs, m1, σ, μ1, u, μ', d, hb, he.ex x1, M1, ev, tr, fun m2 H2 x2 M2 => k m2 H2 (x1.trans x2) M2⟩
      · cases ev
    · cases ev
theorem e_idx (hu : X.A.units + 66 < cLine) (ha : PEv X fa cal n0 xa a) (hb : PEv X fa cal n0 xb b) (hk : okh xb = true) : PEv X fa cal n0 (.Subscript xa xb pos) (.idx a b) :=
  (pe_ix (idxR hu) ha hb (okh_ix hk)).imp fun σV H Q q => by
    obtain ⟨t, bs, m, σ, μ, u, μ', hb, he, M, ev, k⟩ := q
    simp only [evalE] at ev
    split at ev
    · rename_i u1 μ1 e1
      split at ev
      · rename_i u2 μ2 e2
        split at ev
        · rename_i w e3
          cases ev
          exact seq2 hb he M e1 e2 fun m2 H2 v1 v2 x M2 r1 r2 => ⟨t, bs, m2, _, u1, u2, _, M2, r1, r2, e3, fun v r => k m2 H2 v x M2 r⟩
        · cases ev
      · cases ev
    · cases ev
/-- arguments -/
theorem a_nil : PAv X fa cal n0 [] [] := pa_nil.imp fun σV H Q q => by
  obtain ⟨t, bs, m, σ, μ, us, μ', hb, he, M, ev, k⟩ := q
  simp only [evalL] at ev
  cases ev
  exact k m H [] (Ex.refl m H) M .nil
theorem a_cons {es : List E} {xs : List Expr} (ha : PEv X fa cal n0 xa a) (hr : PAv X fa cal n0 xs es) (hk : okh xa = true) : PAv X fa cal n0 (xa :: xs) (a :: es) :=
  (pa_cons ha hr (okh_star hk)).imp fun σV H Q q => by
    obtain ⟨t, bs, m, σ, μ, us, μ', hb, he, M, ev, k⟩ := q
    simp only [evalL] at ev
    split at ev
    · rename_i u1 μ1 e1
      split at ev
      · rename_i us2 μ2 e2
        cases ev
        exact seq1 hb he M e1 fun m1 H1 v1 x1 M1 r1 => ⟨t, bs, m1, σ, μ1, us2, _, hb, he.ex x1, M1, e2, fun m2 H2 vs x2 M2 ra => k m2 H2 _ (x1.trans x2) M2 (.cons (r1.ex' x2) ra)⟩
      · cases ev
    · cases ev
theorem e_tup {es : List E} {xs : List Expr} {j} (h : PAv X fa cal n0 xs es) : PEv X fa cal n0 (.Tuple xs j pos) (.tup es) :=
  (pe_tup h).imp fun σV H Q q => by
    obtain ⟨t, bs, m, σ, μ, u, μ', hb, he, M, ev, k⟩ := q
    simp only [evalE] at ev
    split at ev
    · rename_i us μ1 e1
      split at ev
      · rename_i hz
        cases ev
        have hl := sz_line
        exact ⟨t, bs, m, σ, μ, us, _, hb, he, M, e1, fun m1 H1 vs x1 M1 ra => ⟨by rw [← ra.length]; omega, fun p hp => (k.ex x1).tup M1 hp ra⟩⟩
      · cases ev
    · cases ev
theorem e_lst {al : Bool} {es : List E} {xs : List Expr} (h : PAv X fa cal n0 xs es) : PEv X fa cal n0 (.List xs pos) (.lst al es) :=
  (pe_lst h).imp fun σV H Q q => by
    obtain ⟨t, bs, m, σ, μ, u, μ', hb, he, M, ev, k⟩ := q
    simp only [evalE] at ev
    split at ev
    · rename_i us μ1 e1
      split at ev
      · rename_i hz
        obtain ⟨rfl, rfl⟩ := Prod.mk.inj (Option.some.inj ev)
        have hl := sz_line
        exact ⟨t, bs, m, σ, μ, us, _, hb, he, M, e1, fun m1 H1 vs x1 M1 ra => ⟨by rw [← ra.length]; omega, fun p hp => (k.ex x1).lst M1 hp ra⟩⟩
      · cases ev
    · cases ev
end
end R

set_option Elab.async false
set_option linter.all false
set_option maxRecDepth 100000
set_option maxHeartbeats 4000000
/-! R3f: temporaries that become values; slices, displays, and/or, builtins, methods -/
namespace R
open PySem PySem.Spec PyProof.Rows L2

section
variable {K : PySem.W.Frag} {fa : Nat → Option Addr} {t m m' : List Addr} {n n' : Nat} {H H' : Hp} {bs : List Nat} {μ : Mu} {D : Addr}
mutual
/-- the temporary becomes a mutable one -/
theorem Rp.ad : ∀ {u : U} {v : V}, Rp K fa (D :: t) m n H u v → Rp K fa t (m ++ [D]) n H u v
  | _, _, .non => .non
  | _, _, .bl b => .bl b
  | _, _, .int i => .int i
  | _, _, .str x => .str x
  | _, _, .tup h r => .tup ⟨h.1, fun z => by
      rcases List.mem_append.mp z with z | z
      · exact h.2.1 z
      · exact h.2.2 (by simp at z; simp [z]), fun z => h.2.2 (by simp [z])⟩ (RpA.ad r)
  | _, _, .lst h r => .lst ⟨h.1, fun z => by
      rcases List.mem_append.mp z with z | z
      · exact h.2.1 z
      · exact h.2.2 (by simp at z; simp [z]), fun z => h.2.2 (by simp [z])⟩ (RpA.ad r)
  | _, _, .dK h q z r => .dK h (fun y => by
      rcases List.mem_append.mp y with y | y
      · exact q y
      · exact z (by simp at y; simp [y])) (fun y => z (by simp [y])) (RpA.ad r)
  | _, _, .dT h q z r => .dT h (fun y => by
      rcases List.mem_append.mp y with y | y
      · exact q y
      · exact z (by simp at y; simp [y])) (fun y => z (by simp [y])) (RpA.ad r)
  | _, _, .ob hi h => .ob hi (by rw [List.getElem?_append_left (List.getElem?_eq_some_iff.mp h).1]; exact h)
  | _, _, .fn h => .fn h
  | _, _, .scr h => .scr (h.elim (fun q => .inl ⟨q.1, fun z => by
      rcases List.mem_append.mp z with z | z
      · exact q.2.1 z
      · exact q.2.2 (by simp at z; simp [z]), fun z => q.2.2 (by simp [z])⟩) .inr)
theorem RpA.ad : ∀ {us : List U} {vs : List V}, RpA K fa (D :: t) m n H us vs → RpA K fa t (m ++ [D]) n H us vs
  | _, _, .nil => .nil
  | _, _, .cons h r => .cons (Rp.ad h) (RpA.ad r)
end
mutual
theorem Rp.mono (hn : n ≤ n') : ∀ {u : U} {v : V}, Rp K fa t m n H u v → Rp K fa t m n' H u v
  | _, _, h => h.ex (Ex.refl m H) hn
/-- no mutable one within: any bound -/
theorem Rp.nomut : ∀ {u : U} {v : V}, Rp K fa t m n H u v → nomut u = true → Rp K fa t m n' H u v
  | _, _, .non, _ => .non
  | _, _, .bl b, _ => .bl b
  | _, _, .int i, _ => .int i
  | _, _, .str x, _ => .str x
  | _, _, .tup h r, z => .tup h (RpA.nomut r (by simpa [R.nomut] using z))
  | _, _, .lst h r, z => .lst h (RpA.nomut r (by simpa [R.nomut] using z))
  | _, _, .dK h q y r, z => .dK h q y (RpA.nomut r (by simpa [R.nomut] using z))
  | _, _, .dT h q y r, z => .dT h q y (RpA.nomut r (by simpa [R.nomut] using z))
  | _, _, .ob hi h, z => by simp [R.nomut] at z
  | _, _, .fn h, _ => .fn h
  | _, _, .scr h, _ => .scr h
theorem RpA.nomut : ∀ {us : List U} {vs : List V}, RpA K fa t m n H us vs → nomuts us = true → RpA K fa t m n' H us vs
  | _, _, .nil, _ => .nil
  | _, _, .cons h r, z => by
    simp only [nomuts, Bool.and_eq_true] at z
    exact .cons (Rp.nomut h z.1) (RpA.nomut r z.2)
end
theorem RpA.erase : ∀ {us : List U} {vs : List V} (i : Nat), RpA K fa t m n H us vs → RpA K fa t m n H (us.eraseIdx i) (vs.eraseIdx i)
  | _, _, _, .nil => .nil
  | _, _, 0, .cons _ r => r
  | _, _, i + 1, .cons h r => .cons h (RpA.erase i r)
theorem RpA.dropL {us : List U} {vs : List V} (r : RpA K fa t m n H us vs) : RpA K fa t m n H us.dropLast vs.dropLast := by
  rw [List.dropLast_eq_take, List.dropLast_eq_take, r.length]
  exact r.take _
theorem Ex.tmp (e : Ex m H m' H') (h : H D = none) {o : HO} : Ex m H m' (L2.upd H' D o) :=
  ⟨e.pre, fun a u q n => by rw [upd_ne (ne_of_none q h)]; exact e.keep a u q n, e.new⟩
theorem Ex.adopt (e : Ex m H m' H') (h : H D = none) : Ex m H (m' ++ [D]) H' :=
  ⟨by obtain ⟨t, rfl⟩ := e.pre; exact ⟨t ++ [D], by simp⟩, e.keep, fun a q n => by
    rcases List.mem_append.mp q with q | q
    · exact e.new a q n
    · simp at q; subst q; exact h⟩
theorem Me.adopt (M : Me K fa bs (D :: t) m H μ) (hD : D ∉ t) {o : U} (c : Ct K fa t (m ++ [D]) (m.length + 1) H D o) : Me K fa bs t (m ++ [D]) H (μ ++ [o]) := by
  have nm := (M.tt D (by simp)).1
  have e : Ex m H (m ++ [D]) H → True := fun _ => trivial
  refine ⟨by simp [M.len], by have := M.low; simp; omega, ?_, fun i a u h1 h2 => ?_, M.bd, fun a ha => ?_⟩
  · rw [List.nodup_append]
    refine ⟨M.nd, by simp, fun a ha b hb => ?_⟩
    simp at hb; subst hb
    exact fun z => nm (z ▸ ha)
  · by_cases hi : i < m.length
    · rw [List.getElem?_append_left hi] at h1
      rw [List.getElem?_append_left (by rw [← M.len]; exact hi)] at h2
      have q := M.ct i a u h1 h2
      have hb : (bs[i]?.getD m.length) ≤ (bs[i]?.getD (m ++ [D]).length) := by
        cases hb : bs[i]? with
        | none => simp
        | some b => simp
      cases q with
      | lst q r => exact .lst q (r.ad.ex (Ex.refl _ _) hb)
      | dK q r => exact .dK q (r.ad.ex (Ex.refl _ _) hb)
      | dT q r => exact .dT q (r.ad.ex (Ex.refl _ _) hb)
    · have hi' : i = m.length := by
        have := (List.getElem?_eq_some_iff.mp h1).1
        simp at this; omega
      subst hi'
      simp at h1
      rw [M.len] at h2
      simp at h2
      subst h1 h2
      have hb : bs[m.length]? = none := List.getElem?_eq_none_iff.mpr M.low
      rw [hb]
      simpa using c
  · obtain ⟨h1, o', h2, h3⟩ := M.tt a (by simp [ha])
    refine ⟨fun z => ?_, o', h2, h3⟩
    rcases List.mem_append.mp z with z | z
    · exact h1 z
    · simp at z; subst z; exact hD ha
/-- a temporary list becomes the value -/
theorem Kn.tmpL {m2 : List Addr} {H3 : Hp} {μ2 : Mu} {us : List U} {vs : List V} {al : Bool} {Q : VK} (k : Kn K fa bs t m H (fresh al (.lst us) μ2).1 (fresh al (.lst us) μ2).2 Q) (hD : H D = none) (hDt : D ∉ t) (e : Ex m H m2 H3)
    (M : Me K fa bs (D :: t) m2 H3 μ2) (hH : H3 D = some (.lst vs)) (ra : RpA K fa (D :: t) m2 m2.length H3 us vs) : Q (.ref D) H3 := by
  cases al with
  | false => exact k m2 H3 _ e (M.tw fun a ha => by simp [ha]) (.lst ⟨hH, (M.tt D (by simp)).1, hDt⟩ (ra.tw fun a ha => by simp [ha]))
  | true =>
    have ra' : RpA K fa t (m2 ++ [D]) (m2.length + 1) H3 us vs := ra.ad.ex (Ex.refl _ _) (by omega)
    exact k (m2 ++ [D]) H3 _ (e.adopt hD) (M.adopt hDt (.lst hH ra')) (.ob (by simp [← M.len]) (by simp [← M.len]))
theorem Kn.tmpK {m2 : List Addr} {H3 : Hp} {μ2 : Mu} {us : List U} {kvs : List (Key × V)} {al : Bool} {Q : VK} (k : Kn K fa bs t m H (fresh al (.dk (kvs.map (·.1)) us) μ2).1 (fresh al (.dk (kvs.map (·.1)) us) μ2).2 Q) (hD : H D = none) (hDt : D ∉ t) (e : Ex m H m2 H3)
    (M : Me K fa bs (D :: t) m2 H3 μ2) (hH : H3 D = some (.dK kvs)) (ra : RpA K fa (D :: t) m2 m2.length H3 us (kvs.map (·.2))) : Q (.ref D) H3 := by
  cases al with
  | false => exact k m2 H3 _ e (M.tw fun a ha => by simp [ha]) (.dK hH (M.tt D (by simp)).1 hDt (ra.tw fun a ha => by simp [ha]))
  | true =>
    have ra' : RpA K fa t (m2 ++ [D]) (m2.length + 1) H3 us (kvs.map (·.2)) := ra.ad.ex (Ex.refl _ _) (by omega)
    exact k (m2 ++ [D]) H3 _ (e.adopt hD) (M.adopt hDt (.dK hH ra')) (.ob (by simp [← M.len]) (by simp [← M.len]))
theorem EnvR.tn {σ : Env} {σV : L2.St} {o : HO} (h : EnvR K fa t m H σ σV) (hD : H D = none) : EnvR K fa (D :: t) m (L2.upd H D o) σ σV :=
  ⟨h.len, fun i u q => let ⟨v, a, b⟩ := h.at_ i u q; ⟨v, a, (b.tn hD).ex (Ex.upd hD) (Nat.le_refl _)⟩⟩
theorem EnvR.set {σ : Env} {σV : L2.St} {i : Nat} {u : U} {v : V} (h : EnvR K fa t m H σ σV) (r : Rp K fa t m m.length H u v) : EnvR K fa t m H (σ.set i (some u)) (σV.set i (some v)) := by
  refine ⟨by simp [h.len], fun j w q => ?_⟩
  by_cases hj : i = j
  · subst hj
    have hl : i < σ.length := by
      have := (List.getElem?_eq_some_iff.mp q).1
      simpa using this
    rw [List.getElem?_set_self hl] at q
    cases q
    exact ⟨v, by rw [List.getElem?_set_self (by rw [← h.len]; exact hl)], r⟩
  · rw [List.getElem?_set_ne hj] at q ⊢
    exact h.at_ j w q
theorem EnvR.setN {σ : Env} {σV : L2.St} {i : Nat} (h : EnvR K fa t m H σ σV) : EnvR K fa t m H (σ.set i none) (σV.set i none) := by
  refine ⟨by simp [h.len], fun j w q => ?_⟩
  by_cases hj : i = j
  · subst hj
    have hl : i < σ.length := by
      have := (List.getElem?_eq_some_iff.mp q).1
      simpa using this
    rw [List.getElem?_set_self hl] at q
    cases q
  · rw [List.getElem?_set_ne hj] at q ⊢
    exact h.at_ j w q
theorem EnvR.wipe {σ : Env} {σV : L2.St} (h : EnvR K fa t m H σ σV) : ∀ ws : List Nat, EnvR K fa t m H (wipeE σ ws) (L2.wipe σV ws)
  | [] => h
  | w :: ws => (EnvR.wipe h ws).setN
end

section
variable {X : Cx} {fa : Nat → Option Addr} {cal : Nat → List U → Mu → Option (U × Mu)} {n0 : Nat}
variable {a b c : E} {xa xb xc : Expr} {pos : Pos}
/-! ### slices -/
/-- a slice's part: left out, None or an int -/
def tPartU (te : TE) : TO := fun σ H Q => te σ H fun x H1 => ∃ o, (x = .non ∧ o = none ∨ ∃ i, x = .int i ∧ o = some i) ∧ Q o H1
theorem po_u {e : Expr} {te : TE} (h : PE X e te) : PO X (some e) (tPartU te) := by
  refine ⟨fun pins s σ H Q I hw => ?_⟩
  rw [evalPart_some]
  refine thn (h.run pins s σ H _ I hw) fun u s1 ⟨x, H1, I1, r1, o, hx, q⟩ => ?_
  rcases hx with ⟨rfl, rfl⟩ | ⟨i, rfl, rfl⟩
  · cases r1
    exact ⟨none, H1, I1, .none, q⟩
  · obtain ⟨t, rfl⟩ := r1
    exact ⟨some i, H1, I1, .int i t, q⟩
/-- a part in our language -/
def POv (X : Cx) (fa : Nat → Option Addr) (cal : Nat → List U → Mu → Option (U × Mu)) (n0 : Nat) (x : Option Expr) (e : E) : Prop :=
  PO X x (fun σV H Q => ∃ t bs m σ μ u μ' o, bs.length = n0 ∧ EnvR X.K fa t m H σ σV ∧ Me X.K fa bs t m H μ ∧ evalE cal n0 e σ μ = some (u, μ') ∧ bnd u = some o ∧ ∀ m' H', Ex m H m' H' → Me X.K fa bs t m' H' μ' → Q o H')
theorem PO.imp {e : Option Expr} {t t' : TO} (h : PO X e t) (hi : ∀ σ H Q, t' σ H Q → t σ H Q) : PO X e t' := ⟨fun pins s σ H Q I q => h.run pins s σ H Q I (hi _ _ _ q)⟩
theorem pov_none : POv X fa cal n0 none .non := PO.imp po_none fun σV H Q q => by
  obtain ⟨t, bs, m, σ, μ, u, μ', o, hb, he, M, ev, eb, k⟩ := q
  cases ev
  cases eb
  exact k m H (Ex.refl m H) M
theorem pov_some (h : PEv X fa cal n0 xa a) : POv X fa cal n0 (some xa) a := PO.imp (po_u h) fun σV H Q q => by
  obtain ⟨t, bs, m, σ, μ, u, μ', o, hb, he, M, ev, eb, k⟩ := q
  refine seq1 hb he M ev fun m1 H1 v1 x M1 r1 => ⟨o, ?_, k m1 H1 x M1⟩
  cases u with
  | non => cases r1; cases eb; exact .inl ⟨rfl, rfl⟩
  | int i => cases r1; cases eb; exact .inr ⟨i, rfl, rfl⟩
  | _ => cases eb
theorem e_slc {al : Bool} {lo hi : E} {xlo xhi : Option Expr} {p2 : Pos} (ha : PEv X fa cal n0 xa a) (hl : POv X fa cal n0 xlo lo) (hh : POv X fa cal n0 xhi hi) : PEv X fa cal n0 (.Subscript xa (.Slice xlo xhi none p2) pos) (.slc al a lo hi) :=
  (pe_slice (slR al) ha hl hh).imp fun σV H Q q => by
    obtain ⟨t, bs, m, σ, μ, u, μ', hb, he, M, ev, k⟩ := q
    simp only [evalE] at ev
    split at ev
    · rename_i u1 μ1 e1
      split at ev
      · rename_i u2 μ2 e2
        split at ev
        · rename_i u3 μ3 e3
          cases e4 : bnd u2 with
          | none => simp [evSlc, e4] at ev
          | some l =>
            cases e5 : bnd u3 with
            | none => simp [evSlc, e4, e5] at ev
            | some h =>
              refine seq1 hb he M e1 fun m1 H1 v1 x1 M1 r1 => ?_
              refine ⟨t, bs, m1, σ, μ1, u2, μ2, l, hb, he.ex x1, M1, e2, e4, fun m2 H2 x2 M2 => ?_⟩
              refine ⟨t, bs, m2, σ, μ2, u3, μ3, h, hb, (he.ex x1).ex x2, M2, e3, e5, fun m3 H3 x3 M3 => ?_⟩
              exact ⟨t, bs, m3, μ3, u1, u2, u3, u, μ', M3, (r1.ex' x2).ex' x3, e4, e5, ev, k.ex (x1.trans (x2.trans x3))⟩
        · cases ev
      · cases ev
    · cases ev
/-- xs[::-1] of a list -/
theorem e_revL {al : Bool} {j} {p1 p2 p3 : Pos} (ha : PEv X fa cal n0 xa a) : PEv X fa cal n0 (.Subscript xa (.Slice none none (some (.UnaryOp .USub (.Constant (.int 1) j p1) p2)) p3) pos) (.rev al a) :=
  (pe_revL ha).imp fun σV H Q q => by
    obtain ⟨t, bs, m, σ, μ, u, μ', hb, he, M, ev, k⟩ := q
    simp only [evalE] at ev
    split at ev
    · rename_i u1 μ1 e1
      refine seq1 hb he M e1 fun m1 H1 v1 x1 M1 r1 => ?_
      simp only [evRev] at ev
      split at ev
      · rename_i xs e2
        obtain ⟨rfl, rfl⟩ := Prod.mk.inj (Option.some.inj ev)
        obtain ⟨p, vs, rfl, hH, ra⟩ := asL_at M1 r1 e2
        exact ⟨p, vs, rfl, SqL.of hH, fun q hq => (k.ex x1).lst M1 hq ra.rev⟩
      · cases ev
    · cases ev
/-! ### and, or -/
def bop : Bool → BoolOp
  | true => .And
  | false => .Or
abbrev PBv (X : Cx) (fa : Nat → Option Addr) (cal : Nat → List U → Mu → Option (U × Mu)) (n0 : Nat) (x : Expr) (and : Bool) (es : List E) : Prop := PE X x (tE X.K fa n0 (evalB cal n0 and es))
abbrev PBw (X : Cx) (fa : Nat → Option Addr) (cal : Nat → List U → Mu → Option (U × Mu)) (n0 : Nat) (x : Expr) (and : Bool) (es : List E) : Prop := PW X x (tT X.K fa n0 (evalB cal n0 and es))
theorem b_one {and : Bool} (ha : PEv X fa cal n0 xa a) : PBv X fa cal n0 (.BoolOp (bop and) [xa] pos) and [a] := (pe_one ha).imp fun σV H Q q => by simpa only [evalB] using q
theorem b_cons {and : Bool} {e2 : E} {es : List E} {xs : List Expr} (ha : PEv X fa cal n0 xa a) (hr : PBv X fa cal n0 (.BoolOp (bop and) (xb :: xs) pos) and (e2 :: es)) : PBv X fa cal n0 (.BoolOp (bop and) (xa :: xb :: xs) pos) and (a :: e2 :: es) := by
  have rd : ∀ {σV : L2.St} {H : Hp} {Q : VK}, tE X.K fa n0 (evalB cal n0 and (a :: e2 :: es)) σV H Q → tE X.K fa n0 (evalE cal n0 a) σV H fun x H1 => ∃ k, TruV X.K x H1 k ∧ if k = and then tE X.K fa n0 (evalB cal n0 and (e2 :: es)) σV H1 Q else Q x H1 := by
    intro σV H Q q
    obtain ⟨t, bs, m, σ, μ, u, μ', hb, he, M, ev, k⟩ := q
    simp only [evalB] at ev
    split at ev
    · rename_i u1 μ1 e1
      split at ev
      · rename_i d e3
        refine seq1 hb he M e1 fun m1 H1 v1 x1 M1 r1 => ⟨d, truV_ok M1 r1 e3, ?_⟩
        by_cases hd : d = and
        · rw [if_pos hd] at ev ⊢
          exact ⟨t, bs, m1, σ, μ1, u, μ', hb, he.ex x1, M1, ev, k.ex x1⟩
        · rw [if_neg hd] at ev ⊢
          cases ev
          exact k m1 H1 v1 x1 M1 r1
      · cases ev
    · cases ev
  cases and with
  | true =>
    refine (pe_andT ha hr).imp fun σV H Q q => ?_
    exact rd q
  | false =>
    refine (pe_orT ha hr).imp fun σV H Q q => ?_
    obtain ⟨t, bs, m, σ, μ, u, μ', hb, he, M, ev, k⟩ := rd q
    refine ⟨t, bs, m, σ, μ, u, μ', hb, he, M, ev, fun m1 H1 v x1 M1 r1 => ?_⟩
    obtain ⟨d, td, z⟩ := k m1 H1 v x1 M1 r1
    refine ⟨d, td, ?_⟩
    cases d with
    | true => simpa using z
    | false => simpa using z
theorem w_one {and : Bool} (ha : PTv X fa cal n0 xa a) : PBw X fa cal n0 (.BoolOp (bop and) [xa] pos) and [a] := by
  cases and with
  | true => exact (pw_and1 ha).imp fun σV H Q q => by simpa only [evalB] using q
  | false => exact (pw_or1 ha).imp fun σV H Q q => by simpa only [evalB] using q
theorem w_cons {and : Bool} {e2 : E} {es : List E} {xs : List Expr} (ha : PTv X fa cal n0 xa a) (hr : PBw X fa cal n0 (.BoolOp (bop and) (xb :: xs) pos) and (e2 :: es)) : PBw X fa cal n0 (.BoolOp (bop and) (xa :: xb :: xs) pos) and (a :: e2 :: es) := by
  have rd : ∀ {σV : L2.St} {H : Hp} {Q : Bool → Hp → Prop}, tT X.K fa n0 (evalB cal n0 and (a :: e2 :: es)) σV H Q → tT X.K fa n0 (evalE cal n0 a) σV H fun k H1 => if k = and then tT X.K fa n0 (evalB cal n0 and (e2 :: es)) σV H1 Q else Q k H1 := by
    intro σV H Q q
    obtain ⟨t, bs, m, σ, μ, u, μ', w, hb, he, M, ev, tr, k⟩ := q
    simp only [evalB] at ev
    split at ev
    · rename_i u1 μ1 e1
      split at ev
      · rename_i d e3
        refine ⟨t, bs, m, σ, μ, u1, μ1, d, hb, he, M, e1, e3, fun m1 H1 x1 M1 => ?_⟩
        by_cases hd : d = and
        · rw [if_pos hd] at ev
          simp only [hd, if_true]
          exact ⟨t, bs, m1, σ, μ1, u, μ', w, hb, he.ex x1, M1, ev, tr, fun m2 H2 x2 M2 => k m2 H2 (x1.trans x2) M2⟩
        · rw [if_neg hd] at ev
          simp only [hd, if_false]
          cases ev
          rw [e3] at tr
          cases tr
          exact k m1 H1 x1 M1
      · cases ev
    · cases ev
  cases and with
  | true =>
    refine (pw_and ha hr).imp fun σV H Q q => ?_
    obtain ⟨t, bs, m, σ, μ, u, μ', w, hb, he, M, ev, tr, k⟩ := rd q
    refine ⟨t, bs, m, σ, μ, u, μ', w, hb, he, M, ev, tr, fun m1 H1 x1 M1 => ?_⟩
    have z := k m1 H1 x1 M1
    cases w with
    | true => simpa using z
    | false => simpa using z
  | false =>
    refine (pw_or ha hr).imp fun σV H Q q => ?_
    obtain ⟨t, bs, m, σ, μ, u, μ', w, hb, he, M, ev, tr, k⟩ := rd q
    refine ⟨t, bs, m, σ, μ, u, μ', w, hb, he, M, ev, tr, fun m1 H1 x1 M1 => ?_⟩
    have z := k m1 H1 x1 M1
    cases w with
    | true => simpa using z
    | false => simpa using z
theorem e_bool {and : Bool} {es : List E} {x : Expr} (h : PBv X fa cal n0 x and es) : PEv X fa cal n0 x (.bool and es) := h.imp fun σV H Q q => by simpa only [evalE] using q
theorem t_bool {and : Bool} {es : List E} {x : Expr} (h : PBw X fa cal n0 x and es) : PTv X fa cal n0 x (.bool and es) := h.pt.imp fun σV H Q q => by simpa only [evalE] using q
end
end R

set_option Elab.async false
set_option linter.all false
set_option maxRecDepth 100000
set_option maxHeartbeats 4000000
/-! R3g: dict stores and displays, builtins, isinstance, methods -/
namespace R
open PySem PySem.Spec PyProof.Rows L2

section
variable {K : PySem.W.Frag} {fa : Nat → Option Addr} {t m m' : List Addr} {n n' : Nat} {H H' : Hp} {bs : List Nat} {μ : Mu} {D : Addr}
theorem putK_keys {κ : Type} [DecidableEq κ] (kvs : List (κ × V)) (k : κ) (v : V) : (putK kvs k v).map (·.1) = ptk (kvs.map (·.1)) k := by
  unfold putK ptk
  have e : (kvs.any fun kv => decide (kv.1 = k)) = true ↔ k ∈ kvs.map (·.1) := by
    simp only [List.any_eq_true, decide_eq_true_eq, List.mem_map]
  by_cases h : k ∈ kvs.map (·.1)
  · rw [if_pos (e.mpr h), if_pos h, List.map_map]
    refine List.map_congr_left fun kv _ => ?_
    simp only [Function.comp]
    split <;> rfl
  · rw [if_neg (fun z => h (e.mp z)), if_neg h]
    simp
theorem rpl_ok {κ : Type} [DecidableEq κ] {u : U} {v : V} {q : κ} (hu : Rp K fa t m n H u v) : ∀ {kvs : List (κ × V)} {us : List U}, RpA K fa t m n H us (kvs.map (·.2)) →
    RpA K fa t m n H (rpl (kvs.map (·.1)) us q u) ((kvs.map fun kv => if kv.1 = q then (kv.1, v) else kv).map (·.2))
  | [], _, .nil => .nil
  | kv :: kvs, _, .cons r ra => by
    simp only [List.map_cons, rpl]
    refine .cons ?_ (rpl_ok hu ra)
    by_cases h : kv.1 = q
    · simp only [h, if_true]; exact hu
    · simp only [h, if_false]; exact r
theorem putK_ok {κ : Type} [DecidableEq κ] {u : U} {v : V} {q : κ} (hu : Rp K fa t m n H u v) {kvs : List (κ × V)} {us : List U} (ra : RpA K fa t m n H us (kvs.map (·.2))) :
    RpA K fa t m n H (pt (kvs.map (·.1)) us q u) ((putK kvs q v).map (·.2)) := by
  unfold putK pt
  have e : (kvs.any fun kv => decide (kv.1 = q)) = true ↔ q ∈ kvs.map (·.1) := by
    simp only [List.any_eq_true, decide_eq_true_eq, List.mem_map]
  by_cases h : q ∈ kvs.map (·.1)
  · rw [if_pos (e.mpr h), if_pos h]
    exact rpl_ok hu ra
  · rw [if_neg (fun z => h (e.mp z)), if_neg h]
    rw [List.map_append]
    exact ra.append (.one hu)
theorem okw_rp {n0 i : Nat} {u : U} {v : V} (hb : bs.length = n0) (h : okw n0 i u = true) (r : Rp K fa t m m.length H u v) : Rp K fa t m (bs[i]?.getD m.length) H u v := by
  unfold okw at h
  simp only [Bool.or_eq_true, decide_eq_true_eq] at h
  rcases h with h | h
  · rw [List.getElem?_eq_none_iff.mpr (by omega)]
    exact r
  · exact r.nomut h
/-- the pairs of a display -/
inductive RpP (K : PySem.W.Frag) (fa : Nat → Option Addr) (t m : List Addr) (n : Nat) (H : Hp) : List (U × U) → List (V × V) → Prop
  | nil : RpP K fa t m n H [] []
  | cons {p : U × U} {q : V × V} {ps : List (U × U)} {qs : List (V × V)} : Rp K fa t m n H p.1 q.1 → Rp K fa t m n H p.2 q.2 → RpP K fa t m n H ps qs → RpP K fa t m n H (p :: ps) (q :: qs)
theorem RpP.ex (e : Ex m H m' H') (hn : n ≤ n') : ∀ {ps : List (U × U)} {qs : List (V × V)}, RpP K fa t m n H ps qs → RpP K fa t m' n' H' ps qs
  | _, _, .nil => .nil
  | _, _, .cons a b r => .cons (a.ex e hn) (b.ex e hn) (RpP.ex e hn r)
theorem RpP.td {o : HO} (hD : D ∈ t) : ∀ {ps : List (U × U)} {qs : List (V × V)}, RpP K fa t m n H ps qs → RpP K fa t m n (L2.upd H D o) ps qs
  | _, _, .nil => .nil
  | _, _, .cons a b r => .cons (a.td hD) (b.td hD) (RpP.td hD r)
/-- merging pairs with plain keys -/
theorem mergeU_k {tk : Bool} : ∀ {ps : List (U × U)} {qs : List (V × V)} {kvs0 : List (Key × V)} {us : List U} {o : U}, RpP K fa t m n H ps qs → RpA K fa t m n H us (kvs0.map (·.2)) → mergeU tk ps (.dk (kvs0.map (·.1)) us) = some o →
    ∃ (kvs : List (Key × V)) (us' : List U), qs = kvs.map (fun kv => (kV kv.1, kv.2)) ∧ o = .dk ((mergeK kvs0 kvs).map (·.1)) us' ∧ RpA K fa t m n H us' ((mergeK kvs0 kvs).map (·.2))
  | _, _, kvs0, us, o, .nil, ra, h => by
    simp only [mergeU] at h
    cases h
    exact ⟨[], us, rfl, rfl, ra⟩
  | _, _, kvs0, us, o, .cons (p := p) (q := q) a b r, ra, h => by
    simp only [mergeU] at h
    split at h
    · rename_i o' e
      simp only [dput] at e
      split at e
      · rename_i k hk
        split at e
        · cases e
          have ek := sky_ok a hk
          rw [← putK_keys _ _ q.2] at h
          obtain ⟨kvs, us', e1, e2, e3⟩ := mergeU_k r (putK_ok b ra) h
          exact ⟨(k, q.2) :: kvs, us', by rw [e1, List.map_cons, ← ek], e2, e3⟩
        · cases e
      · cases e
    · cases h
theorem pairUp_cons {es : List U} {k v : U} {ps : List (U × U)} (h : pairUp (k :: v :: es) = some ps) : ∃ qs, pairUp es = some qs ∧ ps = (k, v) :: qs := by
  simp only [pairUp] at h
  split at h
  · rename_i qs e
    cases h
    exact ⟨qs, e, rfl⟩
  · cases h
end

section
variable {X : Cx} {fa : Nat → Option Addr} {cal : Nat → List U → Mu → Option (U × Mu)} {n0 : Nat}
variable {a b c : E} {xa xb xc : Expr} {pos : Pos}
/-! ### displays of dicts -/
def trsOf (X : Cx) (fa : Nat → Option Addr) (cal : Nat → List U → Mu → Option (U × Mu)) (n0 : Nat) : List E → List (TE × TE)
  | k :: v :: es => (tE X.K fa n0 (evalE cal n0 k), tE X.K fa n0 (evalE cal n0 v)) :: trsOf X fa cal n0 es
  | _ => []
theorem pairs_rd {R : List (V × V) → Hp → Prop} : ∀ (es : List E) (ps : List (U × U)) {t m : List Addr} {bs : List Nat} {σ : Env} {σV : L2.St} {H : Hp} {μ μ' : Mu} {us : List U}, bs.length = n0 → EnvR X.K fa t m H σ σV → Me X.K fa bs t m H μ →
    evalL cal n0 es σ μ = some (us, μ') → pairUp us = some ps → (∀ m' H' qs, Ex m H m' H' → Me X.K fa bs t m' H' μ' → RpP X.K fa t m' m'.length H' ps qs → R qs H') → tPairs (trsOf X fa cal n0 es) σV H R
  | [], ps, t, m, bs, σ, σV, H, μ, μ', us, hb, he, M, ev, ep, k => by
    simp only [evalL] at ev
    cases ev
    cases ep
    exact k m H [] (Ex.refl m H) M .nil
  | [e], ps, t, m, bs, σ, σV, H, μ, μ', us, hb, he, M, ev, ep, k => by
    simp only [evalL] at ev
    split at ev
    · cases ev
      cases ep
    · cases ev
  | e :: f :: es, ps, t, m, bs, σ, σV, H, μ, μ', us, hb, he, M, ev, ep, k => by
    simp only [evalL] at ev
    split at ev
    · rename_i u1 μ1 e1
      split at ev
      · rename_i us2 μ2 e2
        split at e2
        · rename_i u2 μ3 e3
          split at e2
          · rename_i us3 μ4 e4
            cases e2
            cases ev
            obtain ⟨qs, ep', rfl⟩ := pairUp_cons ep
            refine seq2 hb he M e1 e3 fun m2 H2 v1 v2 x M2 r1 r2 => ?_
            exact pairs_rd es qs hb (he.ex x) M2 e4 ep' fun m' H' pq x' M' rp => k m' H' _ (x.trans x') M' (.cons (r1.ex' x') (r2.ex' x') rp)
          · cases e2
        · cases e2
      · cases ev
    · cases ev
/-- keys and values of a display, flat -/
def flatE : List (Option Expr) → List Expr → Option (List Expr)
  | some k :: ks, v :: vs => match flatE ks vs with
    | some r => some (k :: v :: r)
    | none => none
  | [], [] => some []
  | _, _ => none
theorem flat_ok : ∀ {keys : List (Option Expr)} {vals : List Expr} {es : List E} {r : List Expr}, flatE keys vals = some r → (∀ (i : Nat) x e, r[i]? = some x → es[i]? = some e → PEv X fa cal n0 x e) → r.length = es.length →
    PPs X pos keys vals (trsOf X fa cal n0 es) ∧ keys.all (·.isSome) = true ∧ keys.length = vals.length
  | [], [], es, r, h, hp, hl => by
    cases h
    cases es with
    | nil => exact ⟨pps_nil, rfl, rfl⟩
    | cons => simp at hl
  | some k :: ks, v :: vs, es, r, h, hp, hl => by
    simp only [flatE] at h
    split at h
    · rename_i r' e
      cases h
      match es, hl, hp with
      | e1 :: e2 :: es, hl, hp =>
        obtain ⟨h1, h2, h3⟩ := flat_ok (es := es) e (fun i x f a b => hp (i + 2) x f (by simpa using a) (by simpa using b)) (by simpa using hl)
        exact ⟨pps_cons (hp 0 k e1 rfl rfl) (hp 1 v e2 rfl rfl) h1, by simpa using h2, by simp [h3]⟩
    · cases h
  | [], _ :: _, _, _, h, _, _ => by cases h
  | none :: _, _, _, _, h, _, _ => by simp [flatE] at h
  | some _ :: _, [], _, _, h, _, _ => by simp [flatE] at h
theorem e_dct {al : Bool} {es : List E} {keys : List (Option Expr)} {vals : List Expr} {r : List Expr} (h : flatE keys vals = some r) (hp : ∀ (i : Nat) x e, r[i]? = some x → es[i]? = some e → PEv X fa cal n0 x e) (hl : r.length = es.length) (h0 : keys ≠ []) (h15 : keys.length ≤ 15) :
    PEv X fa cal n0 (.Dict keys vals pos) (.dct al false es) := by
  obtain ⟨h1, h2, h3⟩ := flat_ok (pos := pos) h hp hl
  refine (pe_disp h1 h2 h3 h0 h15).imp fun σV H Q q => ?_
  obtain ⟨t, bs, m, σ, μ, u, μ', hb, he, M, ev, k⟩ := q
  simp only [evalE] at ev
  split at ev
  · rename_i us μ1 e1
    split at ev
    · rename_i ps e2
      split at ev
      · rename_i h15
        split at ev
        · rename_i o e3
          obtain ⟨rfl, rfl⟩ := Prod.mk.inj (Option.some.inj ev)
          intro p hp
          obtain ⟨pm, pt'⟩ := M.fresh hp
          refine pairs_rd es ps (t := p :: t) (bs := bs) hb (he.tn hp) (M.tn hp) e1 e2 fun m2 H2 qs x M2 rp => ?_
          have hp2 : H2 p = some (.dK []) := x.keep p _ upd_same pm
          have e3' : mergeU false ps (.dk (([] : List (Key × V)).map (·.1)) []) = some o := by simpa using e3
          obtain ⟨kvs, us', rfl, rfl, ra⟩ := mergeU_k (kvs0 := []) rp .nil e3'
          refine ⟨hp2, kvs, rfl, ?_, ?_⟩
          · have : ps.length = kvs.length := by
              have : ∀ {ps : List (U × U)} {qs : List (V × V)}, RpP X.K fa (p :: t) m2 m2.length H2 ps qs → ps.length = qs.length := by
                intro ps qs r
                induction r with
                | nil => rfl
                | cons _ _ _ ih => simp [ih]
              have := this rp
              simpa using this
            omega
          · have x0 : Ex m H m2 (upd H2 p (.dK (mergeK [] kvs))) := ((Ex.upd hp).trans x).tmp hp
            exact k.tmpK hp pt' x0 (M2.td (by simp)) upd_same (ra.td (by simp))
        · cases ev
      · cases ev
    · cases ev
  · cases ev
theorem e_dnew {al tk : Bool} : PEv X fa cal n0 (.Dict [] [] pos) (.dct al tk []) := by
  cases tk with
  | false =>
    refine pe_dnewK.imp fun σV H Q q => ?_
    obtain ⟨t, bs, m, σ, μ, u, μ', hb, he, M, ev, k⟩ := q
    simp only [evalE, evalL, pairUp, mergeU] at ev
    rw [if_pos (by decide)] at ev
    obtain ⟨rfl, rfl⟩ := Prod.mk.inj (Option.some.inj ev)
    intro p hp
    exact k.dk (kvs := []) M hp .nil
  | true =>
    refine pe_dnewT.imp fun σV H Q q => ?_
    obtain ⟨t, bs, m, σ, μ, u, μ', hb, he, M, ev, k⟩ := q
    simp only [evalE, evalL, pairUp, mergeU] at ev
    rw [if_pos (by decide)] at ev
    obtain ⟨rfl, rfl⟩ := Prod.mk.inj (Option.some.inj ev)
    intro p hp
    exact k.dt (kvs := []) M hp .nil

/-! ### builtin functions -/
theorem vs_rd {f : Mu → List U → Option (U × Mu)} {ev : Ev} {es : List E} {σV : L2.St} {H : Hp} {Q : VK} (he : ∀ σ μ u μ', ev σ μ = some (u, μ') → ∃ us μ1, evalL cal n0 es σ μ = some (us, μ1) ∧ f μ1 us = some (u, μ'))
    (q : tE X.K fa n0 ev σV H Q) : tL X.K fa n0 (evalL cal n0 es) σV H fun vs H1 => rVs X.K fa f vs H1 Q := by
  obtain ⟨t, bs, m, σ, μ, u, μ', hb, hE, M, e, k⟩ := q
  obtain ⟨us, μ1, e1, e2⟩ := he _ _ _ _ e
  exact ⟨t, bs, m, σ, μ, us, μ1, hb, hE, M, e1, fun m1 H1 vs x1 M1 ra => ⟨t, bs, m1, μ1, us, u, μ', M1, ra, e2, k.ex x1⟩⟩
theorem bi_ev {b : Bi} {es : List E} {σ : Env} {μ μ' : Mu} {u : U} (h : evalE cal n0 (.bi b es) σ μ = some (u, μ')) : ∃ us μ1, evalL cal n0 es σ μ = some (us, μ1) ∧ biF b μ1 us = some (u, μ') := by
  simp only [evalE] at h
  split at h
  · rename_i us μ1 e1
    exact ⟨us, μ1, e1, h⟩
  · cases h
/-- what a builtin function is -/
def Bi.val : Bi → Value
  | .int => .type "int"
  | .len => .builtin "len" | .abs => .builtin "abs" | .all => .builtin "all" | .any => .builtin "any" | .sum => .builtin "sum" | .min1 => .builtin "min" | .max1 => .builtin "max" | .min2 => .builtin "min" | .max2 => .builtin "max"
theorem Bi.boot (b : Bi) : bootBuiltins b.nm = some b.val := by cases b <;> decide +kernel
theorem Bi.main (b : Bi) : b.nm ≠ "__name__" := by cases b <;> decide +kernel
theorem Bi.dbg (b : Bi) : (b.nm == ("__debug__" : Str)) = false := by cases b <;> decide +kernel
theorem biR (hc : X.calm = true) (hu : X.A.units + 66 < cLine) : ∀ b : Bi, (b = .int ∧ CallR X (.type "int") (rVs X.K fa (biF b))) ∨ ∃ id, b.val = .builtin id ∧ CallR X (.builtin id) (rVs X.K fa (biF b))
  | .int => .inl ⟨rfl, intR⟩
  | .len => .inr ⟨_, rfl, lenR⟩
  | .abs => .inr ⟨_, rfl, absR⟩
  | .all => .inr ⟨_, rfl, allR hc⟩
  | .any => .inr ⟨_, rfl, anyR hc⟩
  | .sum => .inr ⟨_, rfl, sumR hc⟩
  | .min1 => .inr ⟨_, rfl, min1R hc hu⟩
  | .max1 => .inr ⟨_, rfl, max1R hc hu⟩
  | .min2 => .inr ⟨_, rfl, min2R hc⟩
  | .max2 => .inr ⟨_, rfl, max2R hc⟩
theorem e_bi {b : Bi} {es : List E} {x : Expr} {xs : List Expr} {p : Pos} (hc : X.calm = true) (hu : X.A.units + 66 < cLine) (hg : Gl X b.nm) (hm : X.mg b.nm = none) (ha : PAv X fa cal n0 (x :: xs) es) (hk : okh x = true) (hks : xs.all okh = true) :
    PEv X fa cal n0 (.Call (.Name b.nm p) (x :: xs) [] pos) (.bi b es) := by
  rcases biR (fa := fa) hc hu b with ⟨rfl, h⟩ | ⟨id, e, h⟩
  · exact (pe_callTy h hg hm boot_int ha (Bi.main _) (Bi.dbg _) (okh_star hk) (okh_back hks)).imp fun σV H Q q => vs_rd (fun _ _ _ _ => bi_ev) q
  · exact (pe_callB h hg hm (by rw [Bi.boot, e]) ha (Bi.main _) (Bi.dbg _) (okh_star hk) (okh_back hks)).imp fun σV H Q q => vs_rd (fun _ _ _ _ => bi_ev) q

/-! ### isinstance -/
def Ty.nm : Ty → String
  | .int => "int" | .bool => "bool" | .str => "str" | .tuple => "tuple" | .list => "list" | .dict => "dict"
def Ty.st : Ty → Str
  | .int => "int" | .bool => "bool" | .str => "str" | .tuple => "tuple" | .list => "list" | .dict => "dict"
theorem Ty.boot (t : Ty) : bootBuiltins t.st = some (.type t.nm) := by cases t <;> decide +kernel
theorem Ty.main (t : Ty) : t.st ≠ "__name__" := by cases t <;> decide +kernel
theorem Ty.dbg (t : Ty) : (t.st == ("__debug__" : Str)) = false := by cases t <;> decide +kernel
theorem isi_ok {K : PySem.W.Frag} {t m : List Addr} {H : Hp} {bs : List Nat} {μ : Mu} {u : U} {v : V} {b : Bool} {ty : Ty} (M : Me K fa bs t m H μ) (r : Rp K fa t m m.length H u v) (h : evIsi μ u ty = some b) :
    ∃ T : String, TyX K H v (.type T) ∧ PySem.W.kitOne K (.type T) (.type ty.nm) = some b := by
  have kk : ∀ {T : String} {b : Bool}, kitB T ty.nm = some b → PySem.W.kitOne K (.type T) (.type ty.nm) = some b := fun h => kit_ty h
  simp only [evIsi] at h
  split at h
  · rename_i hc
    cases u with
    | ob i => rcases ob_not M r hc with ⟨_, e⟩ | ⟨_, _, e⟩ | ⟨_, _, e⟩ <;> cases e
    | non => cases r; cases h; exact ⟨_, .base .non, kk (by cases ty <;> decide +kernel)⟩
    | _ => simp [cont] at hc
  · rename_i x hc
    cases u with
    | ob i => rcases ob_not M r hc with ⟨_, e⟩ | ⟨_, _, e⟩ | ⟨_, _, e⟩ <;> cases e
    | bl y => cases r; cases h; exact ⟨_, .base (.bl _), kk (by cases ty <;> decide +kernel)⟩
    | _ => simp [cont] at hc
  · rename_i x hc
    cases u with
    | ob i => rcases ob_not M r hc with ⟨_, e⟩ | ⟨_, _, e⟩ | ⟨_, _, e⟩ <;> cases e
    | int y => cases r; cases h; exact ⟨_, .base (.int _), kk (by cases ty <;> decide +kernel)⟩
    | _ => simp [cont] at hc
  · rename_i x hc
    have e := cont_str M r hc
    subst e
    cases r; cases h; exact ⟨_, .base (.str _), kk (by cases ty <;> decide +kernel)⟩
  · rename_i x hc
    have e := cont_tup M r hc
    subst e
    cases h
    cases r with
    | tup f _ => exact ⟨_, .base (.tup f.1), kk (by cases ty <;> decide +kernel)⟩
  · rename_i x hc
    obtain ⟨p, vs, rfl, hH, _⟩ := cont_lst M r hc
    cases h; exact ⟨_, .base (.lst hH), kk (by cases ty <;> decide +kernel)⟩
  · rename_i x y hc
    obtain ⟨p, vs, rfl, hH, _⟩ := dk_at M r hc
    cases h; exact ⟨_, .base (.dK hH), kk (by cases ty <;> decide +kernel)⟩
  · rename_i x y hc
    obtain ⟨p, vs, rfl, hH, _⟩ := dt_at M r hc
    cases h; exact ⟨_, .base (.dT hH), kk (by cases ty <;> decide +kernel)⟩
  · cases h
theorem e_isi {ty : Ty} {p p2 : Pos} (hg : Gl X "isinstance") (hm : X.mg "isinstance" = none) (hg2 : Gl X ty.st) (hm2 : X.mg ty.st = none) (ha : PEv X fa cal n0 xa a) (hk : okh xa = true) :
    PEv X fa cal n0 (.Call (.Name "isinstance" p) [xa, .Name ty.st p2] [] pos) (.isi a ty) := by
  have hcls : PE X (.Name ty.st p2) (tC (.ty ty.nm)) := pe_bltn hg2 hm2 ty.boot rfl ty.main ty.dbg
  have h := pe_callB (p := p) (pos := pos) (call_isi (X := X)) hg hm boot_isinstance (pa_cons ha (pa_cons hcls pa_nil (okh_star rfl)) (okh_star hk)) (by decide) (by decide) (okh_star hk) (okh_back (es := [.Name ty.st p2]) rfl)
  refine h.imp fun σV H Q q => ?_
  obtain ⟨t, bs, m, σ, μ, u, μ', hb, hE, M, ev, k⟩ := q
  simp only [evalE] at ev
  split at ev
  · rename_i u1 μ1 e1
    split at ev
    · rename_i d e2
      cases ev
      refine seq1 hb hE M e1 fun m1 H1 v1 x1 M1 r1 => ?_
      obtain ⟨T, ht, hk'⟩ := isi_ok M1 r1 e2
      exact ⟨v1, .ty ty.nm, .type T, .type ty.nm, d, rfl, .ty _, ht, hk', k m1 H1 _ x1 M1 (.bl _)⟩
    · cases ev
  · cases ev

/-! ### methods -/
def rMe (K : PySem.W.Frag) (fa : Nat → Option Addr) (n0 : Nat) (al : Bool) (me : Mt) : V → List V → Hp → VK → Prop := fun x vs H Q => ∃ t bs m μ u us w μ', bs.length = n0 ∧ Me K fa bs t m H μ ∧ Rp K fa t m m.length H u x ∧ RpA K fa t m m.length H us vs ∧ evMe n0 al μ me u us = some (w, μ') ∧ Kn K fa bs t m H w μ' Q
def Mt.T : Mt → String
  | .get2 => "dict"
  | _ => "list"
theorem okm_ty {K : PySem.W.Frag} {t m : List Addr} {H : Hp} {bs : List Nat} {μ : Mu} {u : U} {v : V} {me : Mt} (M : Me K fa bs t m H μ) (r : Rp K fa t m m.length H u v) (h : okm μ me u = true) : tyV K me.T v H := by
  have L : (asL μ u).isSome = true → tyV K "list" v H := fun z => by
    obtain ⟨xs, e⟩ := Option.isSome_iff_exists.mp z
    obtain ⟨p, vs, rfl, q, _⟩ := asL_ok M r e
    exact .inl ⟨rfl, vs, q⟩
  cases me with
  | get2 =>
    simp only [okm] at h
    split at h
    · rename_i e
      obtain ⟨p, kvs, rfl, hH, _⟩ := dk_at M r e
      exact .inr (.inr (.inl ⟨rfl, .inl ⟨_, hH⟩⟩))
    · rename_i e
      obtain ⟨p, kvs, rfl, hH, _⟩ := dt_at M r e
      exact .inr (.inr (.inl ⟨rfl, .inr ⟨_, hH⟩⟩))
    · cases h
  | _ => exact L h
theorem me_rd {al : Bool} {me : Mt} {es : List E} {σV : L2.St} {H : Hp} {Q : VK} (q : tE X.K fa n0 (evalE cal n0 (.me al me a es)) σV H Q) : tBM X.K me.T (rMe X.K fa n0 al me) (tE X.K fa n0 (evalE cal n0 a)) (tL X.K fa n0 (evalL cal n0 es)) σV H Q := by
  obtain ⟨t, bs, m, σ, μ, u, μ', hb, he, M, ev, k⟩ := q
  simp only [evalE] at ev
  split at ev
  · rename_i u1 μ1 e1
    split at ev
    · rename_i e2
      split at ev
      · rename_i us μ2 e3
        refine seq1 hb he M e1 fun m1 H1 v1 x1 M1 r1 => ⟨okm_ty M1 r1 e2, ?_⟩
        exact ⟨t, bs, m1, σ, μ1, us, μ2, hb, he.ex x1, M1, e3, fun m2 H2 vs x2 M2 ra => ⟨t, bs, m2, μ2, u1, us, u, μ', hb, M2, r1.ex' x2, ra, ev, k.ex (x1.trans x2)⟩⟩
      · cases ev
    · cases ev
  · cases ev
theorem mtAppend {al : Bool} : MtR X "list.append" (rMe X.K fa n0 al .append) := by
  intro pins s σ H x vs v us Q I rx rv h
  obtain ⟨t, bs, m, μ, u, ws, w, μ', hb, M, r, ra, ev, k⟩ := h
  simp only [evMe] at ev
  match u, ws, ev, r, ra with
  | .ob i, [y], ev, r, ra =>
    simp only at ev
    split at ev
    · rename_i xs e
      split at ev
      · rename_i hz
        cases ev
        obtain ⟨p, rfl, hp, c⟩ := M.obj r e
        obtain ⟨z, rfl, rz⟩ := rpa1 ra
        have hl := sz_line
        generalize hn : bs[i]?.getD m.length = nn at c
        cases c with
        | @lst vx _ hH rl =>
          refine mt_append pins s σ H _ _ v us Q I rx rv ⟨p, _, z, rfl, rfl, hH, by rw [← rl.length]; omega, ?_⟩
          have ex : Ex m H m (upd H p (.lst (vx ++ [z]))) := Ex.write (List.mem_of_getElem? hp)
          have rz' := okw_rp hb hz.2 rz
          refine k m _ _ ex (M.write hp (.lst upd_same ?_)) .non
          rw [hn] at rz' ⊢
          exact (rl.append (.one rz')).ex ex (Nat.le_refl _)
      · cases ev
    · cases ev
theorem mtPop0 {al : Bool} : MtR X "list.pop" (rMe X.K fa n0 al .pop0) := by
  intro pins s σ H x vs v us Q I rx rv h
  obtain ⟨t, bs, m, μ, u, ws, w, μ', hb, M, r, ra, ev, k⟩ := h
  simp only [evMe] at ev
  match u, ws, ev, r, ra with
  | .ob i, [], ev, r, ra =>
    simp only at ev
    split at ev
    · rename_i xs e
      split at ev
      · rename_i y hy
        cases ev
        cases ra
        obtain ⟨p, rfl, hp, c⟩ := M.obj r e
        have hbn := M.bnd i
        generalize hn : bs[i]?.getD m.length = nn at c hbn
        cases c with
        | @lst vx _ hH rl =>
          have hy' := hy
          rw [rl.length] at hy'
          obtain ⟨z, hz, rz⟩ := rl.get hy'
          refine mt_pop pins s σ H _ _ v us Q I rx rv ⟨p, _, z, rfl, rfl, hH, hz, ?_⟩
          have ex : Ex m H m (upd H p (.lst vx.dropLast)) := Ex.write (List.mem_of_getElem? hp)
          refine k m _ _ ex (M.write hp (.lst upd_same ?_)) ((rz.ex (Ex.refl m H) hbn).ex' ex)
          rw [hn]
          exact rl.dropL.ex ex (Nat.le_refl _)
      · cases ev
    · cases ev
theorem mtPop1 {al : Bool} : MtR X "list.pop" (rMe X.K fa n0 al .pop1) := by
  intro pins s σ H x vs v us Q I rx rv h
  obtain ⟨t, bs, m, μ, u, ws, w, μ', hb, M, r, ra, ev, k⟩ := h
  simp only [evMe] at ev
  match u, ws, ev, r, ra with
  | .ob i, [.int j], ev, r, ra =>
    simp only at ev
    split at ev
    · rename_i xs e
      split at ev
      · rename_i hj
        split at ev
        · rename_i kk hk
          split at ev
          · rename_i y hy
            cases ev
            obtain ⟨z0, rfl, rz0⟩ := rpa1 ra
            cases rz0
            obtain ⟨p, rfl, hp, c⟩ := M.obj r e
            have hbn := M.bnd i
            generalize hn : bs[i]?.getD m.length = nn at c hbn
            cases c with
            | @lst vx _ hH rl =>
              obtain ⟨z, hz, rz⟩ := rl.get hy
              rw [rl.length] at hk
              refine mt_popAt pins s σ H _ _ v us Q I rx rv ⟨p, _, j, kk, z, rfl, rfl, hH, hj.1, hj.2, (ixN_seq hk).1, hz, ?_⟩
              have ex : Ex m H m (upd H p (.lst (vx.eraseIdx kk))) := Ex.write (List.mem_of_getElem? hp)
              refine k m _ _ ex (M.write hp (.lst upd_same ?_)) ((rz.ex (Ex.refl m H) hbn).ex' ex)
              rw [hn]
              exact (rl.erase kk).ex ex (Nat.le_refl _)
          · cases ev
        · cases ev
      · cases ev
    · cases ev
theorem mtGet2 {al : Bool} (hu : X.A.units + 66 < cLine) : MtR X "dict.get" (rMe X.K fa n0 al .get2) := by
  intro pins s σ H x vs v us Q I rx rv h
  obtain ⟨t, bs, m, μ, u, ws, w, μ', hb, M, r, ra, ev, k⟩ := h
  match ws, ev, ra with
  | [y, d], ev, ra =>
    simp only [evMe] at ev
    split at ev
    · rename_i o ho
      cases ev
      obtain ⟨y', d', rfl, ry, rd⟩ := rpa2 ra
      obtain ⟨u1, u2, rfl, ru1, ru2⟩ := rv.two
      obtain ⟨p, rfl, _, hg⟩ := dget_ok M r ry ho
      cases rx
      rcases hg with ⟨u', v', rfl, g, r'⟩ | ⟨rfl, g⟩
      · exact d_get2 (by omega) I g ru1 ru2 fun w' s3 I3 rw' => ⟨v', H, I3, rw', k.here M r'⟩
      · exact d_get2 (by omega) I g ru1 ru2 fun w' s3 I3 rw' => ⟨d', H, I3, rw', k.here M rd⟩
    · cases ev
  | [], ev, _ => cases u <;> simp [evMe] at ev
  | [_], ev, _ => cases u <;> simp [evMe] at ev
  | _ :: _ :: _ :: _, ev, _ => cases u <;> simp [evMe] at ev
theorem few_ok {e : Expr} {es : List Expr} {env : PySem.Env} {cpos : Pos} (hk : (e :: es).all okh = true) (hl : es.length < 20) :
    ((backTo cpos (starEach (e :: es) env)).all (fun x => !x.1) && (backToKw cpos (keywordEach [] env)).all (fun x => x.1.isSome)
      && decide ((e :: es).length + ([] : List Keyword).length + (if ([] : List Keyword).isEmpty then 0 else 1) < 30)) = true := by
  rw [okh_all hk]
  simp only [Bool.true_and, Bool.and_eq_true, decide_eq_true_eq]
  refine ⟨rfl, ?_⟩
  simp
  omega
theorem e_append {al : Bool} {es : List E} {x : Expr} {xs : List Expr} {apos : Pos} (ha : PEv X fa cal n0 xa a) (hs : PAv X fa cal n0 (x :: xs) es) (hr : okr xa = true) (hk : okh x = true) (hks : xs.all okh = true) (hl : xs.length < 20) (hline : (apos.endLine == pos.line) = true) :
    PEv X fa cal n0 (.Call (.Attribute xa "append" apos) (x :: xs) [] pos) (.me al .append a es) :=
  (pe_bm F.plainAttrs_list F.slot_list_append F.type_list_append (mtAppend (al := al)) ha hs (okr_base hr) (few_ok (by simp [hk, hks]) hl) hline (okh_star hk) (okh_back hks)).imp fun σV H Q q => me_rd q
theorem e_pop1 {al : Bool} {es : List E} {x : Expr} {xs : List Expr} {apos : Pos} (ha : PEv X fa cal n0 xa a) (hs : PAv X fa cal n0 (x :: xs) es) (hr : okr xa = true) (hk : okh x = true) (hks : xs.all okh = true) (hl : xs.length < 20) (hline : (apos.endLine == pos.line) = true) :
    PEv X fa cal n0 (.Call (.Attribute xa "pop" apos) (x :: xs) [] pos) (.me al .pop1 a es) :=
  (pe_bm F.plainAttrs_list F.slot_list_pop F.type_list_pop (mtPop1 (al := al)) ha hs (okr_base hr) (few_ok (by simp [hk, hks]) hl) hline (okh_star hk) (okh_back hks)).imp fun σV H Q q => me_rd q
theorem e_get2 {al : Bool} {es : List E} {x : Expr} {xs : List Expr} {apos : Pos} (hu : X.A.units + 66 < cLine) (ha : PEv X fa cal n0 xa a) (hs : PAv X fa cal n0 (x :: xs) es) (hr : okr xa = true) (hk : okh x = true) (hks : xs.all okh = true) (hl : xs.length < 20) (hline : (apos.endLine == pos.line) = true) :
    PEv X fa cal n0 (.Call (.Attribute xa "get" apos) (x :: xs) [] pos) (.me al .get2 a es) :=
  (pe_bm F.plainAttrs_dict F.slot_dict_get F.type_dict_get (mtGet2 (al := al) hu) ha hs (okr_base hr) (few_ok (by simp [hk, hks]) hl) hline (okh_star hk) (okh_back hks)).imp fun σV H Q q => me_rd q
theorem e_pop0 {al : Bool} {apos : Pos} (ha : PEv X fa cal n0 xa a) (hr : okr xa = true) (hline : (apos.endLine == pos.line) = true) :
    PEv X fa cal n0 (.Call (.Attribute xa "pop" apos) [] [] pos) (.me al .pop0 a []) :=
  (pe_bm0 F.plainAttrs_list F.slot_list_pop F.type_list_pop (mtPop0 (al := al)) ha (okr_base hr) hline).imp fun σV H Q q => by
    obtain ⟨t, bs, m, σ, μ, u, μ', hb, he, M, ev, k⟩ := me_rd q
    refine ⟨t, bs, m, σ, μ, u, μ', hb, he, M, ev, fun m1 H1 v1 x1 M1 r1 => ?_⟩
    obtain ⟨ty, t2, bs2, m2, σ2, μ2, us2, μ2', hb2, he2, M2, ev2, k2⟩ := k m1 H1 v1 x1 M1 r1
    simp only [evalL] at ev2
    cases ev2
    exact ⟨ty, k2 m2 H1 [] (Ex.refl _ _) M2 .nil⟩
end
end R

set_option Elab.async false
set_option linter.all false
set_option maxRecDepth 100000
set_option maxHeartbeats 4000000
/-! R3h: targets, statements -/
namespace R
open PySem PySem.Spec PyProof.Rows L2

theorem _root_.L2.PG.imp {X : Cx} {e : Expr} {t t' : TG} (h : PG X e t) (hi : ∀ v σ H Q, t' v σ H Q → t v σ H Q) : PG X e t' := ⟨fun pins s σ H v u Q I r q => h.run pins s σ H v u Q I r (hi _ _ _ _ q)⟩
theorem _root_.L2.PGs.imp {X : Cx} {e : List Expr} {t t' : TGs} (h : PGs X e t) (hi : ∀ v σ H Q, t' v σ H Q → t v σ H Q) : PGs X e t' := ⟨fun pins s σ H v u Q I r q => h.run pins s σ H v u Q I r (hi _ _ _ _ q)⟩
def okt : Expr → Bool
  | .Name .. | .Tuple .. => true
  | _ => false
theorem okt_each {e : Expr} {es : List Expr} {env : PySem.Env} (h : okt e = true) : assignEach (e :: es) env = (false, assign e env) :: assignEach es env := by
  cases e <;> first | rfl | cases h
theorem okt_none : ∀ {es : List Expr} {env : PySem.Env}, es.all okt = true → (assignEach es env).findIdx? (·.1) = none
  | [], _, _ => rfl
  | e :: es, env, h => by
    simp only [List.all_cons, Bool.and_eq_true] at h
    rw [okt_each h.1, List.findIdx?_cons]
    simp [okt_none (env := env) h.2]
theorem okt_len : ∀ {es : List Expr} {env : PySem.Env}, es.all okt = true → (assignEach es env).length = es.length
  | [], _, _ => rfl
  | e :: es, env, h => by
    simp only [List.all_cons, Bool.and_eq_true] at h
    rw [okt_each h.1, List.length_cons, okt_len h.2, List.length_cons]

/-! ### the order of the stores -/
def isStar : Expr → Bool
  | .Starred .. => true
  | _ => false
/-- what swappedStores answers; none: not told -/
def swF (sc : Scope) (ts vs : List Expr) : Option (Option (List Str)) :=
  if (!(ts.length == 2 || ts.length == 3) || vs.length != ts.length) = true then some none
  else if vs.any (fun | .Starred .. => true | _ => false) = true then some none
  else
    let line := (ts.head?.map (·.pos.line)).getD 0
    let names := ts.filterMap fun
      | .Name id pos => if (sc.names.lookup id == some .local && pos.line == line) = true then some id else none
      | _ => none
    if (names.length != ts.length || names.eraseDups.length != names.length) = true then some none
    else if vs.all (foldedForSure 8) = true then some none
    else if vs.all (constantsAlone 8) = true then none
    else some (some names)
theorem sw_ok {env : PySem.Env} {ts vs : List Expr} {k k2 : Nat} {p p2 : Pos} {r : Option (List Str)} (hk : env.scope.kind = .function) (h : swF env.scope ts vs = some r) :
    swappedStores [.Tuple ts k p] (.Tuple vs k2 p2) env = pure r := by
  have hb : env.blockKind = .function := by unfold PySem.Env.blockKind; rw [hk]; rfl
  unfold swF at h
  unfold swappedStores
  simp only [hb]
  have hne : (ScopeKind.function != ScopeKind.function) = false := by decide
  rw [hne, Bool.or_false]
  split at h
  · rename_i c; cases h; exact (if_pos c).trans rfl
  · rename_i c
    refine (if_neg c).trans ?_
    split at h
    · rename_i c; cases h; exact (if_pos c).trans rfl
    · rename_i c
      refine (if_neg c).trans ?_
      simp only at h
      unfold PySem.Env.kindOf
      split at h
      · rename_i c; cases h; exact (if_pos c).trans rfl
      · rename_i c
        refine (if_neg c).trans ?_
        split at h
        · rename_i c; cases h; exact (if_pos c).trans rfl
        · rename_i c
          refine (if_neg c).trans ?_
          split at h
          · cases h
          · rename_i c
            cases h
            refine (if_neg c).trans ?_
            rfl
/-- no pair of targets with a tuple -/
def noSw : Expr → Expr → Bool
  | .Tuple .., .Tuple .. => false
  | .List .., _ => false
  | _, _ => true
theorem noSw_ok {t v : Expr} {env : PySem.Env} (h : noSw t v = true) : swappedStores [t] v env = pure none := by
  cases t <;> first | rfl | (cases v <;> first | rfl | cases h)
/-- no list comprehension -/
def noLc : Expr → Bool
  | .ListComp .. => false
  | _ => true
theorem noLc_sw {v : Expr} {t : Option Expr} {l : Nat} {env : PySem.Env} (h : noLc v = true) (hk : okh v = true) : swapsWith v t l env = pure false := by
  cases v <;> first | rfl | (simp [okh] at hk; done) | (simp [noLc] at h; done)

section
variable {X : Cx} {fa : Nat → Option Addr} {cal : Nat → List U → Mu → Option (U × Mu)} {n0 : Nat}
variable {a b c : E} {xa xb xc : Expr} {pos : Pos}
/-! ### targets -/
mutual
def ptSlots : Pt → List Nat
  | .slot i => [i]
  | .tup ps => ptsSlots ps
def ptsSlots : List Pt → List Nat
  | [] => []
  | p :: ps => ptSlots p ++ ptsSlots ps
end
/-- only those slots changed -/
def Same (is : List Nat) (σV σV' : L2.St) : Prop := ∀ ws : List Nat, (∀ i ∈ is, i ∈ ws) → L2.wipe σV' ws = L2.wipe σV ws
theorem wipe_get (σ : L2.St) (j : Nat) : ∀ ws : List Nat, (L2.wipe σ ws)[j]? = if j ∈ ws then (σ[j]?).map (fun _ => none) else σ[j]?
  | [] => by simp [L2.wipe]
  | w :: ws => by
    unfold L2.wipe
    by_cases h : w = j
    · subst h
      rw [List.getElem?_set]
      simp only [if_true, wipe_length, List.mem_cons, true_or, if_true]
      by_cases hl : w < σ.length
      · simp [hl]
      · simp [hl]
    · rw [List.getElem?_set_ne h, wipe_get σ j ws]
      have : j ∈ w :: ws ↔ j ∈ ws := by
        constructor
        · intro z
          rcases List.mem_cons.mp z with z | z
          · exact absurd z.symm h
          · exact z
        · exact fun z => List.mem_cons_of_mem _ z
      simp only [this]
theorem wipe_set {σ : L2.St} {i : Nat} {x : Option V} {ws : List Nat} (h : i ∈ ws) : L2.wipe (σ.set i x) ws = L2.wipe σ ws := by
  apply List.ext_getElem?
  intro j
  rw [wipe_get, wipe_get]
  by_cases hj : j ∈ ws
  · rw [if_pos hj, if_pos hj, List.getElem?_set]
    by_cases hi : i = j
    · subst hi
      by_cases hl : i < σ.length
      · simp [hl]
      · simp [hl]
    · simp [hi]
  · rw [if_neg hj, if_neg hj, List.getElem?_set_ne (fun z => hj (by rw [← z]; exact h))]
theorem wipe_wipe {σ : L2.St} {ws : List Nat} : L2.wipe (L2.wipe σ ws) ws = L2.wipe σ ws := by
  apply List.ext_getElem?
  intro j
  rw [wipe_get, wipe_get]
  by_cases hj : j ∈ ws
  · rw [if_pos hj, if_pos hj]
    cases σ[j]? <;> rfl
  · rw [if_neg hj, if_neg hj]
theorem Same.trans {a b : List Nat} {σ σ' σ'' : L2.St} (h : Same a σ σ') (h' : Same b σ' σ'') : Same (a ++ b) σ σ'' := fun ws hw => (h' ws fun i hi => hw i (List.mem_append_right _ hi)).trans (h ws fun i hi => hw i (List.mem_append_left _ hi))
def tGp (K : PySem.W.Frag) (fa : Nat → Option Addr) (p : Pt) : TG := fun v σV H Q => ∃ t bs m μ σ u σ', EnvR K fa t m H σ σV ∧ Me K fa bs t m H μ ∧ Rp K fa t m m.length H u v ∧ bindP μ p u σ = some σ' ∧ ∀ σV', EnvR K fa t m H σ' σV' → Same (ptSlots p) σV σV' → Q σV' H
def tGs (K : PySem.W.Frag) (fa : Nat → Option Addr) (ps : List Pt) : TGs := fun vs σV H Q => ∃ t bs m μ σ us σ', EnvR K fa t m H σ σV ∧ Me K fa bs t m H μ ∧ RpA K fa t m m.length H us vs ∧ bindPs μ ps us σ = some σ' ∧ ∀ σV', EnvR K fa t m H σ' σV' → Same (ptsSlots ps) σV σV' → Q σV' H
theorem g_slot {i : Nat} {x : Str} (hN : X.N.Nodup) (hi : X.N[i]? = some x) (hx : Loc X.env.scope x) (hf : X.fn x = true ∨ X.env.scope.names.lookup x = some .local) : PG X (.Name x pos) (tGp X.K fa (.slot i)) :=
  (pg_name hN hi hx hf).imp fun v σV H Q q => by
    obtain ⟨t, bs, m, μ, σ, u, σ', he, M, r, e, k⟩ := q
    simp only [bindP] at e
    cases e
    exact k _ (he.set r) fun ws hw => wipe_set (hw i (by simp [ptSlots]))
theorem gs_nil : PGs X [] (tGs X.K fa []) := pgs_nil.imp fun vs σV H Q q => by
  obtain ⟨t, bs, m, μ, σ, us, σ', he, M, r, e, k⟩ := q
  match us, e, r with
  | [], e, r =>
    simp only [bindPs] at e
    cases e
    cases r
    exact ⟨rfl, k _ he fun _ _ => rfl⟩
theorem gs_cons {p : Pt} {ps : List Pt} {x : Expr} {xs : List Expr} (h : PG X x (tGp X.K fa p)) (hs : PGs X xs (tGs X.K fa ps)) (hk : okt x = true) : PGs X (x :: xs) (tGs X.K fa (p :: ps)) :=
  (pgs_cons h hs (by rw [okt_each hk] <;> rfl)).imp fun vs σV H Q q => by
    obtain ⟨t, bs, m, μ, σ, us, σ', he, M, r, e, k⟩ := q
    match us, e, r with
    | u :: us, e, .cons r ra =>
      simp only [bindPs] at e
      split at e
      · rename_i σ1 e1
        exact ⟨_, _, rfl, t, bs, m, μ, σ, u, σ1, he, M, r, e1, fun σV1 he1 s1 => ⟨t, bs, m, μ, σ1, us, σ', he1, M, ra, e, fun σV2 he2 s2 => k σV2 he2 (by simpa [ptsSlots] using s1.trans s2)⟩⟩
      · cases e
theorem g_tup {ps : List Pt} {xs : List Expr} {j : Nat} (hc : X.calm = true) (h : PGs X xs (tGs X.K fa ps)) (hk : xs.all okt = true) (hl : xs.length = ps.length) : PG X (.Tuple xs j pos) (tGp X.K fa (.tup ps)) :=
  (pg_tup hc h (okt_len hk) (okt_none hk)).imp fun v σV H Q q => by
    obtain ⟨t, bs, m, μ, σ, u, σ', he, M, r, e, k⟩ := q
    cases u with
    | tup us =>
      simp only [bindP] at e
      split at e
      · rename_i hl'
        cases r with
        | tup f ra => exact ⟨_, _, rfl, f.sq, by rw [← ra.length, hl, hl'], t, bs, m, μ, σ, us, σ', he, M, ra, e, fun σV' he' s' => k σV' he' (by simpa [ptSlots] using s')⟩
      · cases e
    | _ => simp [bindP] at e

/-! ### statements -/
def KnO (K : PySem.W.Frag) (fa : Nat → Option Addr) (bs : List Nat) (t m : List Addr) (H : Hp) : Out → Ends → Prop
  | .nx σ' μ', D => ∀ m' H' σV', Ex m H m' H' → Me K fa bs t m' H' μ' → EnvR K fa t m' H' σ' σV' → D.nx σV' H'
  | .rt u μ', D => Kn K fa bs t m H u μ' D.rt
  | .bk σ' μ', D => ∀ m' H' σV', Ex m H m' H' → Me K fa bs t m' H' μ' → EnvR K fa t m' H' σ' σV' → D.bk σV' H'
  | .ct σ' μ', D => ∀ m' H' σV', Ex m H m' H' → Me K fa bs t m' H' μ' → EnvR K fa t m' H' σ' σV' → D.ct σV' H'
theorem KnO.ex {K : PySem.W.Frag} {bs : List Nat} {t m m' : List Addr} {H H' : Hp} {o : Out} {D : Ends} (k : KnO K fa bs t m H o D) (e : Ex m H m' H') : KnO K fa bs t m' H' o D := by
  cases o with
  | nx σ μ => exact fun m2 H2 σV2 x M h => k m2 H2 σV2 (e.trans x) M h
  | rt u μ => exact Kn.ex k e
  | bk σ μ => exact fun m2 H2 σV2 x M h => k m2 H2 σV2 (e.trans x) M h
  | ct σ μ => exact fun m2 H2 σV2 x M h => k m2 H2 σV2 (e.trans x) M h
def tSv (K : PySem.W.Frag) (fa : Nat → Option Addr) (n0 : Nat) (ex : Env → Mu → Option Out) : TS := fun D σV H => ∃ t bs m σ μ o, bs.length = n0 ∧ EnvR K fa t m H σ σV ∧ Me K fa bs t m H μ ∧ ex σ μ = some o ∧ KnO K fa bs t m H o D
abbrev PSv (X : Cx) (fa : Nat → Option Addr) (cal : Nat → List U → Mu → Option (U × Mu)) (n0 : Nat) (x : Stmt) (s : S) : Prop := PS X x (tSv X.K fa n0 (exS cal n0 s))
abbrev PLv (X : Cx) (fa : Nat → Option Addr) (cal : Nat → List U → Mu → Option (U × Mu)) (n0 : Nat) (x : List Stmt) (s : List S) : Prop := PSs X x (tSv X.K fa n0 (exL cal n0 s))
theorem l_nil : PLv X fa cal n0 [] [] := pss_nil.imp fun D σV H q => by
  obtain ⟨t, bs, m, σ, μ, o, hb, he, M, ev, k⟩ := q
  simp only [exL] at ev
  cases ev
  exact k m H σV (Ex.refl _ _) M he
theorem l_cons {s : S} {ss : List S} {x : Stmt} {xs : List Stmt} (h : PSv X fa cal n0 x s) (hs : PLv X fa cal n0 xs ss) : PLv X fa cal n0 (x :: xs) (s :: ss) :=
  (pss_cons h hs).imp fun D σV H q => by
    obtain ⟨t, bs, m, σ, μ, o, hb, he, M, ev, k⟩ := q
    simp only [exL] at ev
    split at ev
    · rename_i σ1 μ1 e1
      exact ⟨t, bs, m, σ, μ, _, hb, he, M, e1, fun m1 H1 σV1 x1 M1 he1 => ⟨t, bs, m1, σ1, μ1, o, hb, he1, M1, ev, k.ex x1⟩⟩
    · rename_i o' hno
      refine ⟨t, bs, m, σ, μ, o, hb, he, M, ev, ?_⟩
      cases o with
      | nx σ1 μ1 => exact absurd ev (hno σ1 μ1)
      | rt u μ => exact k
      | bk σ μ => exact k
      | ct σ μ => exact k
theorem s_pass : PSv X fa cal n0 (.Pass pos) .pass := ps_pass.imp fun D σV H q => by
  obtain ⟨t, bs, m, σ, μ, o, hb, he, M, ev, k⟩ := q
  simp only [exS] at ev
  cases ev
  exact k m H σV (Ex.refl _ _) M he
theorem s_brk : PSv X fa cal n0 (.Break pos) .brk := ps_break.imp fun D σV H q => by
  obtain ⟨t, bs, m, σ, μ, o, hb, he, M, ev, k⟩ := q
  simp only [exS] at ev
  cases ev
  exact k m H σV (Ex.refl _ _) M he
theorem s_cont : PSv X fa cal n0 (.Continue pos) .cont := ps_continue.imp fun D σV H q => by
  obtain ⟨t, bs, m, σ, μ, o, hb, he, M, ev, k⟩ := q
  simp only [exS] at ev
  cases ev
  exact k m H σV (Ex.refl _ _) M he
theorem s_doc {x : Str} {j : Nat} {p2 : Pos} : PSv X fa cal n0 (.Expr (.Constant (.str x) j p2) pos) .pass := ps_doc.imp fun D σV H q => by
  obtain ⟨t, bs, m, σ, μ, o, hb, he, M, ev, k⟩ := q
  simp only [exS] at ev
  cases ev
  exact k m H σV (Ex.refl _ _) M he
theorem s_never {x : Stmt} : PSv X fa cal n0 x .stuck := ps_never.imp fun D σV H q => by
  obtain ⟨t, bs, m, σ, μ, o, hb, he, M, ev, k⟩ := q
  simp only [exS] at ev
  cases ev
theorem s_ex (h : PEv X fa cal n0 xa a) (hk : okh xa = true) (hl : noLc xa = true) : PSv X fa cal n0 (.Expr xa pos) (.ex a) :=
  (ps_expr h (noLc_sw hl hk)).imp fun D σV H q => by
    obtain ⟨t, bs, m, σ, μ, o, hb, he, M, ev, k⟩ := q
    simp only [exS] at ev
    split at ev
    · rename_i u μ1 e1
      cases ev
      exact seq1 hb he M e1 fun m1 H1 v1 x1 M1 r1 => k m1 H1 σV x1 M1 (he.ex x1)
    · cases ev
theorem s_ret (h : PEv X fa cal n0 xa a) : PSv X fa cal n0 (.Return (some xa) pos) (.ret a) :=
  (ps_ret h).imp fun D σV H q => by
    obtain ⟨t, bs, m, σ, μ, o, hb, he, M, ev, k⟩ := q
    simp only [exS] at ev
    split at ev
    · rename_i u μ1 e1
      cases ev
      exact ⟨t, bs, m, σ, μ, u, _, hb, he, M, e1, k⟩
    · cases ev
theorem s_retN : PSv X fa cal n0 (.Return none pos) (.ret .non) := ps_retN.imp fun D σV H q => by
  obtain ⟨t, bs, m, σ, μ, o, hb, he, M, ev, k⟩ := q
  simp only [exS, evalE] at ev
  cases ev
  exact k m H .non (Ex.refl _ _) M .non
theorem s_if {p q : List S} {xp xq : List Stmt} (hc : PTv X fa cal n0 xc c) (hp : PLv X fa cal n0 xp p) (hq : PLv X fa cal n0 xq q) : PSv X fa cal n0 (.If xc xp xq pos) (.iff c p q) :=
  (ps_if hc hp hq).imp fun D σV H q => by
    obtain ⟨t, bs, m, σ, μ, o, hb, he, M, ev, k⟩ := q
    simp only [exS] at ev
    split at ev
    · rename_i u1 μ1 e1
      split at ev
      · rename_i e2
        refine ⟨t, bs, m, σ, μ, u1, μ1, true, hb, he, M, e1, e2, fun m1 H1 x1 M1 => ?_⟩
        simp only [↓reduceIte]
        exact ⟨t, bs, m1, σ, μ1, o, hb, he.ex x1, M1, ev, k.ex x1⟩
      · rename_i e2
        refine ⟨t, bs, m, σ, μ, u1, μ1, false, hb, he, M, e1, e2, fun m1 H1 x1 M1 => ?_⟩
        simp only [↓reduceIte, Bool.false_eq_true]
        exact ⟨t, bs, m1, σ, μ1, o, hb, he.ex x1, M1, ev, k.ex x1⟩
      · cases ev
    · cases ev
/-- name = value -/
theorem s_set {i : Nat} {x : Str} {pos' : Pos} (hN : X.N.Nodup) (hi : X.N[i]? = some x) (hx : Loc X.env.scope x) (hf : X.fn x = true ∨ X.env.scope.names.lookup x = some .local) (h : PEv X fa cal n0 xa a) (hs : swapsWith xa (some (.Name x pos')) pos.line X.env = pure false) :
    PSv X fa cal n0 (.Assign [.Name x pos'] xa pos) (.set i a) :=
  (ps_set hN hi hx h hs hf).imp fun D σV H q => by
    obtain ⟨t, bs, m, σ, μ, o, hb, he, M, ev, k⟩ := q
    simp only [exS] at ev
    split at ev
    · rename_i u μ1 e1
      cases ev
      exact seq1 hb he M e1 fun m1 H1 v1 x1 M1 r1 => k m1 H1 _ x1 M1 ((he.ex x1).set r1)
    · cases ev
theorem s_asg {p : Pt} {tg : Expr} (hg : PG X tg (tGp X.K fa p)) (h : PEv X fa cal n0 xa a) (hk : okh xa = true) (ht : okt tg = true) (hl : noLc xa = true) (hw : swappedStores [tg] xa X.env = pure none) :
    PSv X fa cal n0 (.Assign [tg] xa pos) (.asg p a) :=
  (ps_asg h hg (noLc_sw hl hk) hw (by rw [okt_each ht] <;> rfl)).imp fun D σV H q => by
    obtain ⟨t, bs, m, σ, μ, o, hb, he, M, ev, k⟩ := q
    simp only [exS] at ev
    split at ev
    · rename_i u μ1 e1
      split at ev
      · rename_i σ1 e2
        cases ev
        exact seq1 hb he M e1 fun m1 H1 v1 x1 M1 r1 => ⟨t, bs, m1, _, σ, u, σ1, he.ex x1, M1, r1, e2, fun σV' he' _ => k m1 H1 σV' x1 M1 he'⟩
      · cases ev
    · cases ev
/-- a tuple's items, then the stores from the right -/
theorem s_par2 {i j : Nat} {x y : Str} {es : List E} {px py pt : Pos} {kt k2 : Nat} {pt2 : Pos} (hc : X.calm = true) (hN : X.N.Nodup) (hi : X.N[i]? = some x) (hj : X.N[j]? = some y) (hij : i ≠ j)
    (hx : X.env.scope.names.lookup x = some .local) (hy : X.env.scope.names.lookup y = some .local) (ha : PAv X fa cal n0 [xa, xb] es)
    (hw : swappedStores [.Tuple [.Name x px, .Name y py] kt pt] (.Tuple [xa, xb] k2 pt2) X.env = pure (some [x, y])) :
    PSv X fa cal n0 (.Assign [.Tuple [.Name x px, .Name y py] kt pt] (.Tuple [xa, xb] k2 pt2) pos) (.par [i, j] es) :=
  (ps_par hc hN hi hj hij hx hy ha hw).imp fun D σV H q => by
    obtain ⟨t, bs, m, σ, μ, o, hb, he, M, ev, k⟩ := q
    simp only [exS] at ev
    split at ev
    · rename_i us μ1 e1
      split at ev
      · rename_i σ1 e2
        cases ev
        match us, e2 with
        | [u1, u2], e2 =>
          simp only [bindI] at e2
          cases e2
          refine ⟨t, bs, m, σ, μ, _, _, hb, he, M, e1, fun m1 H1 vs x1 M1 ra => ?_⟩
          obtain ⟨v, w, rfl, r1, r2⟩ := rpa2 ra
          exact ⟨v, w, rfl, k m1 H1 _ x1 M1 (((he.ex x1).set r1).set r2)⟩
      · cases ev
    · cases ev
theorem rpa3 {K : PySem.W.Frag} {t m : List Addr} {n : Nat} {H : Hp} {u w z : U} {xs : List V} (r : RpA K fa t m n H [u, w, z] xs) : ∃ v y q, xs = [v, y, q] ∧ Rp K fa t m n H u v ∧ Rp K fa t m n H w y ∧ Rp K fa t m n H z q := by
  cases r with
  | cons h q =>
    obtain ⟨y, z, rfl, h2, h3⟩ := rpa2 q
    exact ⟨_, y, z, rfl, h, h2, h3⟩
theorem s_par3 {i j l : Nat} {x y z : Str} {es : List E} {px py pz pt : Pos} {kt k2 : Nat} {pt2 : Pos} (hc : X.calm = true) (hN : X.N.Nodup) (hi : X.N[i]? = some x) (hj : X.N[j]? = some y) (hl : X.N[l]? = some z) (hij : i ≠ j) (hil : i ≠ l) (hjl : j ≠ l)
    (hx : X.env.scope.names.lookup x = some .local) (hy : X.env.scope.names.lookup y = some .local) (hz : X.env.scope.names.lookup z = some .local) (ha : PAv X fa cal n0 [xa, xb, xc] es)
    (hw : swappedStores [.Tuple [.Name x px, .Name y py, .Name z pz] kt pt] (.Tuple [xa, xb, xc] k2 pt2) X.env = pure (some [x, y, z])) :
    PSv X fa cal n0 (.Assign [.Tuple [.Name x px, .Name y py, .Name z pz] kt pt] (.Tuple [xa, xb, xc] k2 pt2) pos) (.par [i, j, l] es) :=
  (ps_par3 hc hN hi hj hl hij hil hjl hx hy hz ha hw).imp fun D σV H q => by
    obtain ⟨t, bs, m, σ, μ, o, hb, he, M, ev, k⟩ := q
    simp only [exS] at ev
    split at ev
    · rename_i us μ1 e1
      split at ev
      · rename_i σ1 e2
        cases ev
        match us, e2 with
        | [u1, u2, u3], e2 =>
          simp only [bindI] at e2
          cases e2
          refine ⟨t, bs, m, σ, μ, _, _, hb, he, M, e1, fun m1 H1 vs x1 M1 ra => ?_⟩
          obtain ⟨v, w, q, rfl, r1, r2, r3⟩ := rpa3 ra
          exact ⟨v, w, q, rfl, k m1 H1 _ x1 M1 ((((he.ex x1).set r1).set r2).set r3)⟩
      · cases ev
    · cases ev
/-! ### o[i] = v -/
def rSetU (K : PySem.W.Frag) (fa : Nat → Option Addr) (n0 : Nat) : TSet := fun o i v H Q => ∃ t bs m μ d j u μ', bs.length = n0 ∧ Me K fa bs t m H μ ∧ Rp K fa t m m.length H d o ∧ Rp K fa t m m.length H j i ∧ Rp K fa t m m.length H u v ∧ storeSub n0 μ d j u = some μ' ∧ ∀ m' H', Ex m H m' H' → Me K fa bs t m' H' μ' → Q H'
theorem setR (hu : X.A.units + 66 < cLine) : PSet X (rSetU X.K fa n0) := by
  intro pins s σ H o i v ov iv u Q I ro ri rv h
  obtain ⟨t, bs, m, μ, d, j, w, μ', hb, M, rd, rj, rw', ev, k⟩ := h
  have hl := sz_line
  simp only [storeSub] at ev
  split at ev
  · rename_i kk
    split at ev
    · rename_i xs e
      split at ev
      · rename_i z
        split at ev
        · rename_i q hq
          split at ev
          · rename_i ho
            cases ev
            obtain ⟨p, rfl, hp, c⟩ := M.obj rd e
            have rw2 := okw_rp hb ho rw'
            cases rj
            generalize hn : bs[kk]?.getD m.length = nn at c rw2
            cases c with
            | @lst vx _ hH rl =>
              rw [rl.length] at hq
              refine set_list pins s σ H _ _ _ ov iv u Q I ro ri rv ⟨p, vx, z, q, rfl, rfl, hH, hq, ?_⟩
              have ex : Ex m H m (upd H p (.lst (vx.set q v))) := Ex.write (List.mem_of_getElem? hp)
              refine k m _ ex (M.write hp (.lst upd_same ?_))
              rw [hn]
              exact (rl.set rw2 q).ex ex (Nat.le_refl _)
          · cases ev
        · cases ev
      · cases ev
    · rename_i o hno e
      split at ev
      · rename_i o' e2
        split at ev
        · rename_i ho
          cases ev
          obtain ⟨p, rfl, hp, c⟩ := M.obj rd e
          have rw2 := okw_rp hb ho rw'
          generalize hn : bs[kk]?.getD m.length = nn at c rw2
          cases c with
          | lst hH rl => simp [dput] at e2
          | @dK kvs us hH rl =>
            simp only [dput] at e2
            split at e2
            · rename_i q hq
              split at e2
              · rename_i hz
                cases e2
                have ek := sky_ok rj hq
                subst ek
                rw [List.length_map] at hz
                cases ro
                refine d_setItem (by omega) I (DPut.k hH (by omega)) ri rv fun s' I' => ⟨_, I', ?_⟩
                have ex : Ex m H m (upd H p (.dK (putK kvs q v))) := Ex.write (List.mem_of_getElem? hp)
                refine k m _ ex (M.write hp ?_)
                rw [← putK_keys _ _ v]
                refine .dK upd_same ?_
                rw [hn]
                exact (putK_ok rw2 rl).ex ex (Nat.le_refl _)
              · cases e2
            · cases e2
          | @dT kvs us hH rl =>
            simp only [dput] at e2
            split at e2
            · rename_i q hq
              split at e2
              · rename_i hz
                cases e2
                obtain ⟨b, rfl, hbb⟩ := tky_ok rj hq
                rw [List.length_map] at hz
                cases ro
                refine d_setItem (by omega) I (DPut.t hH hbb (by omega)) ri rv fun s' I' => ⟨_, I', ?_⟩
                have ex : Ex m H m (upd H p (.dT (putK kvs q v))) := Ex.write (List.mem_of_getElem? hp)
                refine k m _ ex (M.write hp ?_)
                rw [← putK_keys _ _ v]
                refine .dT upd_same ?_
                rw [hn]
                exact (putK_ok rw2 rl).ex ex (Nat.le_refl _)
              · cases e2
            · cases e2
        · cases ev
      · cases ev
    · cases ev
  · cases ev
theorem okh_asg {o i : Expr} {p : Pos} {env : PySem.Env} (h : okh i = true) (v : Value) : assign (.Subscript o i p) env v = (do
      let ov ← holding [v] (eval o env)
      let iv ← holding [v, ov] (eval i env)
      standAt p
      holding [v, ov, iv] (setItem ov iv v)
      release [v, ov, iv] []) := by
  cases i <;> first | rfl | cases h
theorem s_sub {p2 : Pos} (hu : X.A.units + 66 < cLine) (ha : PEv X fa cal n0 xa a) (hb : PEv X fa cal n0 xb b) (hc : PEv X fa cal n0 xc c) (hkb : okh xb = true) (hkc : okh xc = true) (hl : noLc xc = true) :
    PSv X fa cal n0 (.Assign [.Subscript xa xb p2] xc pos) (.sub a b c) :=
  have hs : swapsWithSole [.Subscript xa xb p2] xc pos.line X.env = pure false := noLc_sw (t := some (.Subscript xa xb p2)) (l := pos.line) (env := X.env) hl hkc
  (ps_asg hc (pg_sub ha hb (setR (fa := fa) (n0 := n0) hu) (okh_asg hkb)) hs (noSw_ok rfl) rfl).imp fun D σV H q => by
    obtain ⟨t, bs, m, σ, μ, o, hb, he, M, ev, k⟩ := q
    simp only [exS] at ev
    split at ev
    · rename_i u μ1 e1
      split at ev
      · rename_i d μ2 e2
        split at ev
        · rename_i j μ3 e3
          split at ev
          · rename_i μ4 e4
            cases ev
            refine seq1 hb he M e1 fun m1 H1 v1 x1 M1 r1 => ?_
            refine seq2 hb (he.ex x1) M1 e2 e3 fun m3 H3 v2 v3 x3 M3 r2 r3 => ?_
            exact ⟨t, bs, m3, _, d, j, u, _, hb, M3, r2, r3, r1.ex' x3, e4, fun m4 H4 x4 M4 => k m4 H4 σV (x1.trans (x3.trans x4)) M4 ((he.ex (x1.trans x3)).ex x4)⟩
          · cases ev
        · cases ev
      · cases ev
    · cases ev
end
end R

set_option Elab.async false
set_option linter.all false
set_option maxRecDepth 100000
set_option maxHeartbeats 4000000
/-! R3i: walks, while, for, comprehensions -/
namespace R
open PySem PySem.Spec PyProof.Rows L2

section
variable {K : PySem.W.Frag} {fa : Nat → Option Addr} {t t' m m' : List Addr} {n n' : Nat} {H H' : Hp} {bs : List Nat} {μ : Mu} {D : Addr}
mutual
/-- other temporaries to be avoided: known ones or none at this heap -/
theorem Rp.tt (ht : ∀ a ∈ t', a ∈ t ∨ H a = none) : ∀ {u : U} {v : V}, Rp K fa t m n H u v → Rp K fa t' m n H u v
  | _, _, .non => .non
  | _, _, .bl b => .bl b
  | _, _, .int i => .int i
  | _, _, .str x => .str x
  | _, _, .tup h r => .tup ⟨h.1, h.2.1, fun z => (ht _ z).elim h.2.2 fun q => by have := h.1; rw [q] at this; cases this⟩ (RpA.tt ht r)
  | _, _, .lst h r => .lst ⟨h.1, h.2.1, fun z => (ht _ z).elim h.2.2 fun q => by have := h.1; rw [q] at this; cases this⟩ (RpA.tt ht r)
  | _, _, .dK h n z r => .dK h n (fun q => (ht _ q).elim z fun q => by rw [q] at h; cases h) (RpA.tt ht r)
  | _, _, .dT h n z r => .dT h n (fun q => (ht _ q).elim z fun q => by rw [q] at h; cases h) (RpA.tt ht r)
  | _, _, .ob hi h => .ob hi h
  | _, _, .fn h => .fn h
  | _, _, .scr h => .scr (h.elim (fun q => .inl ⟨q.1, q.2.1, fun z => (ht _ z).elim q.2.2 fun w => by obtain ⟨u, e⟩ := Rd.some q.1; rw [w] at e; cases e⟩) .inr)
theorem RpA.tt (ht : ∀ a ∈ t', a ∈ t ∨ H a = none) : ∀ {us : List U} {vs : List V}, RpA K fa t m n H us vs → RpA K fa t' m n H us vs
  | _, _, .nil => .nil
  | _, _, .cons h r => .cons (Rp.tt ht h) (RpA.tt ht r)
end
theorem Ex.of_keep (k : ∀ a o, H a = some o → H' a = some o) : Ex m H m H' := ⟨⟨[], by simp⟩, fun a o h _ => k a o h, fun a h n => absurd h n⟩

/-- an iterator over known items -/
structure WkL (K : PySem.W.Frag) (fa : Nat → Option Addr) (t m : List Addr) (H : Hp) (J : It) (xs : List U) : Prop where
  go : ∀ i m' H', Ex m H m' H' → i < xs.length → J.go i H'
  stop : ∀ i m' H', Ex m H m' H' → xs.length ≤ i → J.stop i H'
  yld : ∀ i m' H' t' bs μ v H'', i < xs.length → Ex m H m' H' → (∀ a ∈ t', a ∈ t ∨ H a = none) → Me K fa bs t' m' H' μ → J.yld i H' v H'' →
    ∃ u, xs[i]? = some u ∧ (∀ a o, H' a = some o → H'' a = some o) ∧ Rp K fa t' m' m'.length H'' u v
def WkJ (K : PySem.W.Frag) (fa : Nat → Option Addr) (t m : List Addr) (H : Hp) (J : It) : List U ⊕ Nat → Prop
  | .inl xs => WkL K fa t m H J xs
  | .inr i => ∃ a, m[i]? = some a ∧ J = Itl K a
def tI (K : PySem.W.Frag) (fa : Nat → Option Addr) (n0 : Nat) (ev : Env → Mu → Option (List U × Mu)) (ik : Ik) : TI := fun σV H R => ∃ t bs m σ μ us μ' w, bs.length = n0 ∧ EnvR K fa t m H σ σV ∧ Me K fa bs t m H μ ∧ ev σ μ = some (us, μ') ∧ walk μ' ik us = some w ∧
  ∀ m1 H1 J, Ex m H m1 H1 → Me K fa bs t m1 H1 μ' → WkJ K fa t m1 H1 J w → R J H1
end

section
variable {X : Cx} {fa : Nat → Option Addr} {cal : Nat → List U → Mu → Option (U × Mu)} {n0 : Nat}
variable {a b c : E} {xa xb xc : Expr} {pos : Pos}
/-! ### while -/
theorem s_wh {p : List S} {xp : List Stmt} (hp : PassesOwn (model X.prog X.w) X.A X.env X.xe) (hc : PTv X fa cal n0 xc c) (hb : PLv X fa cal n0 xp p) : PSv X fa cal n0 (.While xc xp [] pos) (.wh c p) :=
  (ps_while hp hc hb).imp fun D σV H q => by
    obtain ⟨t, bs, m0, σ0, μ0, o, hbl, he0, M0, ev, k⟩ := q
    simp only [exS] at ev
    generalize hcond : (fun (σ : Env) (μ : Mu) => match evalE cal n0 c σ μ with
      | some (u, μ) => match truth μ u with
        | some t => some (t, μ)
        | none => none
      | none => none) = cond at ev
    generalize hbody : (fun (σ : Env) (μ : Mu) => exL cal n0 p σ μ) = body at ev
    refine ⟨fun f σV' H' => ∃ m σ μ, Ex m0 H m H' ∧ EnvR X.K fa t m H' σ σV' ∧ Me X.K fa bs t m H' μ ∧ whL cond body f σ μ = some o, ⟨FU, m0, σ0, μ0, Ex.refl _ _, he0, M0, ev⟩, ?_⟩
    rintro f σV1 H1 ⟨m1, σ1, μ1, x1, he1, M1, ev1⟩
    cases f with
    | zero => simp [whL] at ev1
    | succ g =>
      simp only [whL] at ev1
      split at ev1
      · rename_i μ2 e2
        rw [← hcond] at e2
        simp only at e2
        split at e2
        · rename_i u μ3 e3
          split at e2
          · rename_i d e4
            cases e2
            refine ⟨t, bs, m1, σ1, μ1, u, _, true, hbl, he1, M1, e3, e4, fun m2 H2 x2 M2 => ?_⟩
            simp only [↓reduceIte]
            refine ⟨fun σV' H' => ∃ m σ μ, Ex m0 H m H' ∧ EnvR X.K fa t m H' σ σV' ∧ Me X.K fa bs t m H' μ ∧ whL cond body g σ μ = some o, fun σV' H' w => ⟨g, Nat.lt_succ_self g, w⟩, ?_⟩
            have x12 := x1.trans x2
            split at ev1
            · rename_i σ4 μ4 e5
              rw [← hbody] at e5
              exact ⟨t, bs, m2, σ1, _, _, hbl, he1.ex x2, M2, e5, fun m3 H3 σV3 x3 M3 he3 => ⟨m3, σ4, μ4, x12.trans x3, he3, M3, ev1⟩⟩
            · rename_i σ4 μ4 e5
              rw [← hbody] at e5
              exact ⟨t, bs, m2, σ1, _, _, hbl, he1.ex x2, M2, e5, fun m3 H3 σV3 x3 M3 he3 => ⟨m3, σ4, μ4, x12.trans x3, he3, M3, ev1⟩⟩
            · rename_i σ4 μ4 e5
              cases ev1
              rw [← hbody] at e5
              exact ⟨t, bs, m2, σ1, _, _, hbl, he1.ex x2, M2, e5, fun m3 H3 σV3 x3 M3 he3 => k m3 H3 σV3 (x12.trans x3) M3 he3⟩
            · rename_i o1 h1 h2 h3
              rw [← hbody] at ev1
              refine ⟨t, bs, m2, σ1, _, o, hbl, he1.ex x2, M2, ev1, ?_⟩
              rw [← hbody] at h1 h2 h3
              cases o with
              | nx σ μ => exact absurd ev1 (h1 σ μ)
              | ct σ μ => exact absurd ev1 (h2 σ μ)
              | bk σ μ => exact absurd ev1 (h3 σ μ)
              | rt u μ => exact Kn.ex (show Kn X.K fa bs t m0 H u μ D.rt from k) x12
          · cases e2
        · cases e2
      · rename_i μ2 e2
        rw [← hcond] at e2
        simp only at e2
        split at e2
        · rename_i u μ3 e3
          split at e2
          · rename_i d e4
            cases e2
            cases ev1
            refine ⟨t, bs, m1, σ1, μ1, u, _, false, hbl, he1, M1, e3, e4, fun m2 H2 x2 M2 => ?_⟩
            simp only [↓reduceIte, Bool.false_eq_true]
            exact k m2 H2 σV1 (x1.trans x2) M2 (he1.ex x2)
          · cases e2
        · cases e2
      · cases ev1

/-! ### for -/
theorem okh_fold {e : Expr} {env : PySem.Env} (h : okh e = true) (x : Value) : foldedSetIterable e env x = pure x := by
  cases e <;> first | rfl | cases h
theorem s_for {p : Pt} {ik : Ik} {its : List E} {tg iter : Expr} {body : List Stmt} {bd : List S} (hp : PassesOwn (model X.prog X.w) X.A X.env X.xe) (hc : X.calm = true) (hi : PI X tg iter (tI X.K fa n0 (evalL cal n0 its) ik)) (hg : PG X tg (tGp X.K fa p)) (hb : PLv X fa cal n0 body bd) (hk : okh iter = true) :
    PSv X fa cal n0 (.For tg iter body [] pos) (.for_ p ik its bd) :=
  (ps_for hp hc hi hg hb (okh_fold hk)).imp fun D σV H q => by
    obtain ⟨t, bs, m0, σ0, μ0, o, hbl, he0, M0, ev, k⟩ := q
    simp only [exS] at ev
    split at ev
    · rename_i us μ1 e1
      generalize hstep : (fun (x : U) (σ : Env) (μ : Mu) => match bindP μ p x σ with
        | some σ => exL cal n0 bd σ μ
        | none => none) = step at ev
      split at ev
      · rename_i xs e2
        refine ⟨t, bs, m0, σ0, μ0, us, μ1, .inl xs, hbl, he0, M0, e1, e2, fun m1 H1 J x1 M1 wk => ?_⟩
        have wk : WkL X.K fa t m1 H1 J xs := wk
        refine ⟨fun i mm σV' H' => mm = xs.length - i ∧ i ≤ xs.length ∧ ∃ m σ μ, Ex m1 H1 m H' ∧ EnvR X.K fa t m H' σ σV' ∧ Me X.K fa bs t m H' μ ∧ forL step (xs.drop i) σ μ = some o, ⟨xs.length, by simp, Nat.zero_le _, m1, σ0, μ1, Ex.refl _ _, he0.ex x1, M1, by simpa using ev⟩, ?_⟩
        rintro i mm σV2 H2 ⟨rfl, hle, m2, σ2, μ2, x2, he2, M2, ev2⟩
        by_cases hlt : i < xs.length
        · refine .inr ⟨wk.go i m2 H2 x2 hlt, fun σV' H' => i + 1 ≤ xs.length ∧ ∃ m σ μ, Ex m1 H1 m H' ∧ EnvR X.K fa t m H' σ σV' ∧ Me X.K fa bs t m H' μ ∧ forL step (xs.drop (i + 1)) σ μ = some o, fun σV' H' w => ⟨xs.length - (i + 1), by omega, rfl, w.1, w.2⟩, fun x H3 y => ?_⟩
          obtain ⟨u, hu, kp, r⟩ := wk.yld i m2 H2 t bs μ2 x H3 hlt x2 (fun a h => .inl h) M2 y
          have x3 : Ex m2 H2 m2 H3 := Ex.of_keep kp
          have hd : xs.drop i = u :: xs.drop (i + 1) := by
            rw [List.drop_eq_getElem_cons hlt]
            rw [List.getElem?_eq_getElem hlt] at hu
            cases hu; rfl
          rw [hd] at ev2
          simp only [forL] at ev2
          have bnd : ∀ o1, step u σ2 μ2 = some o1 → ∃ σ3, bindP μ2 p u σ2 = some σ3 ∧ exL cal n0 bd σ3 μ2 = some o1 := by
            intro o1 h
            rw [← hstep] at h
            simp only at h
            split at h
            · rename_i σ3 e; exact ⟨σ3, e, h⟩
            · cases h
          have M3 := M2.ext kp
          have x23 := x2.trans x3
          have run : ∀ o1, step u σ2 μ2 = some o1 → KnO X.K fa bs t m2 H3 o1 { D with nx := fun σV' H' => i + 1 ≤ xs.length ∧ ∃ m σ μ, Ex m1 H1 m H' ∧ EnvR X.K fa t m H' σ σV' ∧ Me X.K fa bs t m H' μ ∧ forL step (xs.drop (i + 1)) σ μ = some o, ct := fun σV' H' => i + 1 ≤ xs.length ∧ ∃ m σ μ, Ex m1 H1 m H' ∧ EnvR X.K fa t m H' σ σV' ∧ Me X.K fa bs t m H' μ ∧ forL step (xs.drop (i + 1)) σ μ = some o, bk := D.nx } →
              tGp X.K fa p x σV2 H3 fun σV3 H4 => tSv X.K fa n0 (exL cal n0 bd) { D with nx := fun σV' H' => i + 1 ≤ xs.length ∧ ∃ m σ μ, Ex m1 H1 m H' ∧ EnvR X.K fa t m H' σ σV' ∧ Me X.K fa bs t m H' μ ∧ forL step (xs.drop (i + 1)) σ μ = some o, ct := fun σV' H' => i + 1 ≤ xs.length ∧ ∃ m σ μ, Ex m1 H1 m H' ∧ EnvR X.K fa t m H' σ σV' ∧ Me X.K fa bs t m H' μ ∧ forL step (xs.drop (i + 1)) σ μ = some o, bk := D.nx } σV3 H4 := by
            intro o1 h ko
            obtain ⟨σ3, e3, e4⟩ := bnd o1 h
            exact ⟨t, bs, m2, μ2, σ2, u, σ3, he2.ex x3, M3, r, e3, fun σV3 he3 _ => ⟨t, bs, m2, σ3, μ2, o1, hbl, he3, M3, e4, ko⟩⟩
          split at ev2
          · rename_i σ4 μ4 e5
            exact run _ e5 fun m3 H4 σV3 x4 M4 he4 => ⟨hlt, m3, σ4, μ4, x23.trans x4, he4, M4, ev2⟩
          · rename_i σ4 μ4 e5
            exact run _ e5 fun m3 H4 σV3 x4 M4 he4 => ⟨hlt, m3, σ4, μ4, x23.trans x4, he4, M4, ev2⟩
          · rename_i σ4 μ4 e5
            cases ev2
            exact run _ e5 fun m3 H4 σV3 x4 M4 he4 => k m3 H4 σV3 (x1.trans (x23.trans x4)) M4 he4
          · rename_i o1 h1 h2 h3
            refine run _ ev2 ?_
            cases o with
            | nx σ μ => exact absurd ev2 (h1 σ μ)
            | ct σ μ => exact absurd ev2 (h2 σ μ)
            | bk σ μ => exact absurd ev2 (h3 σ μ)
            | rt u μ => exact Kn.ex (show Kn X.K fa bs t m0 H u μ D.rt from k) (x1.trans x23)
        · have e : i = xs.length := by omega
          subst e
          rw [List.drop_length] at ev2
          simp only [forL] at ev2
          cases ev2
          exact .inl ⟨wk.stop _ m2 H2 x2 (Nat.le_refl _), k m2 H2 σV2 (x1.trans x2) M2 he2⟩
      · rename_i iob e2
        refine ⟨t, bs, m0, σ0, μ0, us, μ1, .inr iob, hbl, he0, M0, e1, e2, fun m1 H1 J x1 M1 wk => ?_⟩
        obtain ⟨ad, had, rfl⟩ := (show ∃ a, m1[iob]? = some a ∧ J = Itl X.K a from wk)
        refine ⟨fun i f σV' H' => ∃ m σ μ, Ex m1 H1 m H' ∧ EnvR X.K fa t m H' σ σV' ∧ Me X.K fa bs t m H' μ ∧ forV step iob f i σ μ = some o, ⟨FU, m1, σ0, μ1, Ex.refl _ _, he0.ex x1, M1, ev⟩, ?_⟩
        rintro i f σV2 H2 ⟨m2, σ2, μ2, x2, he2, M2, ev2⟩
        cases f with
        | zero => simp [forV] at ev2
        | succ g =>
          simp only [forV] at ev2
          split at ev2
          · rename_i xs e3
            obtain ⟨ad', e4, hm2, c⟩ := M2.objF (v := .ref ad) (.ob (by have := (List.getElem?_eq_some_iff.mp (x2.at_ had)).1; exact this) (x2.at_ had)) e3
            cases e4
            cases c with
            | @lst vx _ hH rl =>
              have hS : SqL X.K H2 ad vx := SqL.of hH
              split at ev2
              · rename_i hnone
                cases ev2
                exact .inl ⟨⟨vx, hS, by rw [← rl.length]; exact List.getElem?_eq_none_iff.mp hnone⟩, k m2 H2 σV2 (x1.trans x2) M2 he2⟩
              · rename_i u hu
                obtain ⟨v, hv, r⟩ := rl.get hu
                refine .inr ⟨⟨vx, v, hS, hv⟩, fun σV' H' => ∃ m σ μ, Ex m1 H1 m H' ∧ EnvR X.K fa t m H' σ σV' ∧ Me X.K fa bs t m H' μ ∧ forV step iob g (i + 1) σ μ = some o, fun σV' H' w => ⟨g, Nat.lt_succ_self g, w⟩, fun x H3 y => ?_⟩
                obtain ⟨rfl, y⟩ := y
                have := y vx hS
                rw [hv] at this
                cases this
                have bnd : ∀ o1, step u σ2 μ2 = some o1 → ∃ σ3, bindP μ2 p u σ2 = some σ3 ∧ exL cal n0 bd σ3 μ2 = some o1 := by
                  intro o1 h
                  rw [← hstep] at h
                  simp only at h
                  split at h
                  · rename_i σ3 e; exact ⟨σ3, e, h⟩
                  · cases h
                have run : ∀ o1, step u σ2 μ2 = some o1 → KnO X.K fa bs t m2 H3 o1 { D with nx := fun σV' H' => ∃ m σ μ, Ex m1 H1 m H' ∧ EnvR X.K fa t m H' σ σV' ∧ Me X.K fa bs t m H' μ ∧ forV step iob g (i + 1) σ μ = some o, ct := fun σV' H' => ∃ m σ μ, Ex m1 H1 m H' ∧ EnvR X.K fa t m H' σ σV' ∧ Me X.K fa bs t m H' μ ∧ forV step iob g (i + 1) σ μ = some o, bk := D.nx } →
                    tGp X.K fa p v σV2 H3 fun σV3 H4 => tSv X.K fa n0 (exL cal n0 bd) { D with nx := fun σV' H' => ∃ m σ μ, Ex m1 H1 m H' ∧ EnvR X.K fa t m H' σ σV' ∧ Me X.K fa bs t m H' μ ∧ forV step iob g (i + 1) σ μ = some o, ct := fun σV' H' => ∃ m σ μ, Ex m1 H1 m H' ∧ EnvR X.K fa t m H' σ σV' ∧ Me X.K fa bs t m H' μ ∧ forV step iob g (i + 1) σ μ = some o, bk := D.nx } σV3 H4 := by
                  intro o1 h ko
                  obtain ⟨σ3, e5, e6⟩ := bnd o1 h
                  exact ⟨t, bs, m2, μ2, σ2, u, σ3, he2, M2, r, e5, fun σV3 he3 _ => ⟨t, bs, m2, σ3, μ2, o1, hbl, he3, M2, e6, ko⟩⟩
                split at ev2
                · rename_i σ4 μ4 e5
                  exact run _ e5 fun m3 H4 σV3 x4 M4 he4 => ⟨m3, σ4, μ4, x2.trans x4, he4, M4, ev2⟩
                · rename_i σ4 μ4 e5
                  exact run _ e5 fun m3 H4 σV3 x4 M4 he4 => ⟨m3, σ4, μ4, x2.trans x4, he4, M4, ev2⟩
                · rename_i σ4 μ4 e5
                  cases ev2
                  exact run _ e5 fun m3 H4 σV3 x4 M4 he4 => k m3 H4 σV3 (x1.trans (x2.trans x4)) M4 he4
                · rename_i o1 h1 h2 h3
                  refine run _ ev2 ?_
                  cases o with
                  | nx σ μ => exact absurd ev2 (h1 σ μ)
                  | ct σ μ => exact absurd ev2 (h2 σ μ)
                  | bk σ μ => exact absurd ev2 (h3 σ μ)
                  | rt u μ => exact Kn.ex (show Kn X.K fa bs t m0 H u μ D.rt from k) (x1.trans x2)
          · cases ev2
      · cases ev
    · cases ev
end
end R

set_option Elab.async false
set_option linter.all false
set_option maxRecDepth 100000
set_option maxHeartbeats 4000000
/-! R3j: iterators; list comprehensions -/
namespace R
open PySem PySem.Spec PyProof.Rows L2

section
variable {K : PySem.W.Frag} {fa : Nat → Option Addr} {t t' m m' : List Addr} {n n' : Nat} {H H' : Hp} {bs : List Nat} {μ : Mu} {D : Addr}
theorem wk_list {a : Addr} {vs : List V} {xs : List U} (hS : ∀ m' H', Ex m H m' H' → SqL K H' a vs) (ra : RpA K fa t m m.length H xs vs) : WkL K fa t m H (Itl K a) xs where
  go := fun i m' H' e hl => by
    have hl' : i < vs.length := by rw [← ra.length]; exact hl
    exact ⟨vs, vs[i], hS m' H' e, List.getElem?_eq_getElem hl'⟩
  stop := fun i m' H' e hl => ⟨vs, hS m' H' e, by rw [← ra.length]; exact hl⟩
  yld := fun i m' H' t' bs μ v H'' hl e ht M y => by
    obtain ⟨rfl, y⟩ := y
    obtain ⟨u, hu, r⟩ := ra.getV (y vs (hS m' _ e))
    exact ⟨u, hu, fun _ _ h => h, (r.tt ht).ex' e⟩
theorem wk_tup {a : Addr} {vs : List V} {xs : List U} (f : FT t m H a vs) (ra : RpA K fa t m m.length H xs vs) : WkL K fa t m H (Itt K a) xs where
  go := fun i m' H' e hl => by
    have hl' : i < vs.length := by rw [← ra.length]; exact hl
    exact ⟨vs, vs[i], (f.ex e).sq, List.getElem?_eq_getElem hl'⟩
  stop := fun i m' H' e hl => ⟨vs, (f.ex e).sq, by rw [← ra.length]; exact hl⟩
  yld := fun i m' H' t' bs μ v H'' hl e ht M y => by
    obtain ⟨rfl, y⟩ := y
    obtain ⟨u, hu, r⟩ := ra.getV (y vs (f.ex e).sq)
    exact ⟨u, hu, fun _ _ h => h, (r.tt ht).ex' e⟩
theorem wk_str {x : Str} : WkL K fa t m H (Its x) (x.cps.toList.map fun c => .str ⟨#[c]⟩) where
  go := fun i m' H' e hl => by simpa [Its] using hl
  stop := fun i m' H' e hl => by simpa [Its] using hl
  yld := fun i m' H' t' bs μ v H'' hl e ht M y => by
    obtain ⟨rfl, c, hc, rfl⟩ := y
    exact ⟨.str ⟨#[c]⟩, by simp [hc], fun _ _ h => h, .str _⟩
theorem rgn_len (lo hi : Int) : (rgn lo hi).length = (hi - lo).toNat := by simp [rgn]
theorem wk_rng {lo hi : Int} : WkL K fa t m H (Itr lo (hi - lo).toNat) (rgn lo hi) where
  go := fun i m' H' e hl => by rw [rgn_len] at hl; exact hl
  stop := fun i m' H' e hl => by rw [rgn_len] at hl; exact hl
  yld := fun i m' H' t' bs μ v H'' hl e ht M y => by
    obtain ⟨rfl, rfl⟩ := y
    rw [rgn_len] at hl
    exact ⟨.int (lo + i), by simp [rgn, hl], fun _ _ h => h, .int _⟩
theorem wk_enm {a : Addr} {vs : List V} {xs : List U} (f : FL t m H a vs) (ra : RpA K fa t m m.length H xs vs) : WkL K fa t m H (Ite K a) (enum xs) where
  go := fun i m' H' e hl => by
    have hl' : i < vs.length := by rw [← ra.length]; simpa [enum] using hl
    exact ⟨vs, vs[i], (f.ex e).sq, List.getElem?_eq_getElem hl'⟩
  stop := fun i m' H' e hl => ⟨vs, (f.ex e).sq, by rw [← ra.length]; simpa [enum] using hl⟩
  yld := fun i m' H' t' bs μ v H'' hl e ht M y => by
    obtain ⟨T, x, rfl, hT, rfl, y⟩ := y
    obtain ⟨u, hu, r⟩ := ra.getV (y vs (f.ex e).sq)
    have hl' : i < xs.length := by simpa [enum] using hl
    obtain ⟨n1, n2⟩ := M.fresh hT
    have r' : Rp K fa t' m' m'.length (upd H' T (.tup [.int (i : Nat), x])) u x := ((r.tt ht).ex' e).ex' (Ex.upd hT)
    refine ⟨.tup [.int (i : Nat), u], ?_, fun b o h => by rw [upd_ne (ne_of_none h hT)]; exact h, .tup ⟨upd_same, n1, n2⟩ (.cons (.int _) (.one r'))⟩
    have hu' : xs[i] = u := by rw [List.getElem?_eq_getElem hl'] at hu; exact Option.some.inj hu
    simp [enum, List.getElem?_map, List.getElem?_zip_eq_some, hl', hu']
theorem wk_zipL {a b : Addr} {vs ws : List V} {xs ys : List U} (f : FL t m H a vs) (g : FL t m H b ws) (ra : RpA K fa t m m.length H xs vs) (rb : RpA K fa t m m.length H ys ws) : WkL K fa t m H (Itz K a b) (zips xs ys) where
  go := fun i m' H' e hl => by
    simp [zips] at hl
    have h1 : i < vs.length := by rw [← ra.length]; omega
    have h2 : i < ws.length := by rw [← rb.length]; omega
    exact ⟨vs, ws, vs[i], ws[i], (f.ex e).sq, (g.ex e).sq, List.getElem?_eq_getElem h1, List.getElem?_eq_getElem h2⟩
  stop := fun i m' H' e hl => ⟨vs, ws, (f.ex e).sq, (g.ex e).sq, by
    simp [zips] at hl
    rw [← ra.length, ← rb.length]; omega⟩
  yld := fun i m' H' t' bs μ v H'' hl e ht M y => by
    obtain ⟨T, x, z, rfl, hT, rfl, y1, y2⟩ := y
    obtain ⟨u, hu, r⟩ := ra.getV (y1 vs (f.ex e).sq)
    obtain ⟨w, hw, r2⟩ := rb.getV (y2 ws (g.ex e).sq)
    obtain ⟨n1, n2⟩ := M.fresh hT
    refine ⟨.tup [u, w], by simp [zips, List.getElem?_map, List.getElem?_zip_eq_some, hu, hw], fun b o h => by rw [upd_ne (ne_of_none h hT)]; exact h, .tup ⟨upd_same, n1, n2⟩ (.cons (((r.tt ht).ex' e).ex' (Ex.upd hT)) (.one (((r2.tt ht).ex' e).ex' (Ex.upd hT))))⟩
theorem wk_zipT {a b : Addr} {vs ws : List V} {xs ys : List U} (f : FT t m H a vs) (g : FT t m H b ws) (ra : RpA K fa t m m.length H xs vs) (rb : RpA K fa t m m.length H ys ws) : WkL K fa t m H (RZ.ItzT K a b) (zips xs ys) where
  go := fun i m' H' e hl => by
    simp [zips] at hl
    have h1 : i < vs.length := by rw [← ra.length]; omega
    have h2 : i < ws.length := by rw [← rb.length]; omega
    exact ⟨vs, ws, vs[i], ws[i], (f.ex e).sq, (g.ex e).sq, List.getElem?_eq_getElem h1, List.getElem?_eq_getElem h2⟩
  stop := fun i m' H' e hl => ⟨vs, ws, (f.ex e).sq, (g.ex e).sq, by
    simp [zips] at hl
    rw [← ra.length, ← rb.length]; omega⟩
  yld := fun i m' H' t' bs μ v H'' hl e ht M y => by
    obtain ⟨T, x, z, rfl, hT, rfl, y1, y2⟩ := y
    obtain ⟨u, hu, r⟩ := ra.getV (y1 vs (f.ex e).sq)
    obtain ⟨w, hw, r2⟩ := rb.getV (y2 ws (g.ex e).sq)
    obtain ⟨n1, n2⟩ := M.fresh hT
    refine ⟨.tup [u, w], by simp [zips, List.getElem?_map, List.getElem?_zip_eq_some, hu, hw], fun b o h => by rw [upd_ne (ne_of_none h hT)]; exact h, .tup ⟨upd_same, n1, n2⟩ (.cons (((r.tt ht).ex' e).ex' (Ex.upd hT)) (.one (((r2.tt ht).ex' e).ex' (Ex.upd hT))))⟩
end

section
variable {X : Cx} {fa : Nat → Option Addr} {cal : Nat → List U → Mu → Option (U × Mu)} {n0 : Nat}
variable {a b c : E} {xa xb xc : Expr} {pos : Pos} {tg : Expr}
abbrev PIv (X : Cx) (fa : Nat → Option Addr) (cal : Nat → List U → Mu → Option (U × Mu)) (n0 : Nat) (tg iter : Expr) (ik : Ik) (its : List E) : Prop := PI X tg iter (tI X.K fa n0 (evalL cal n0 its) ik)
theorem evalL_one {σ : Env} {μ μ' : Mu} {us : List U} (h : evalL cal n0 [a] σ μ = some (us, μ')) : ∃ u, us = [u] ∧ evalE cal n0 a σ μ = some (u, μ') := by
  simp only [evalL] at h
  split at h
  · rename_i u μ1 e1
    cases h
    exact ⟨u, rfl, e1⟩
  · cases h
theorem i_ex (h : PEv X fa cal n0 xa a) : PIv X fa cal n0 tg xa .ex [a] := by
  refine ⟨fun pins s σV H R I q => ?_⟩
  obtain ⟨t, bs, m, σ, μ, us, μ', w, hb, he, M, ev, wk, k⟩ := q
  obtain ⟨u, rfl, e1⟩ := evalL_one ev
  cases u with
  | tup xs =>
    cases wk
    refine (pi_tup h).run pins s σV H R I ?_
    refine seq1 hb he M e1 fun m1 H1 v1 x1 M1 r1 => ?_
    cases r1 with
    | tup f ra => exact ⟨_, rfl, ⟨_, f.sq⟩, k m1 H1 _ x1 M1 (wk_tup f ra)⟩
  | lst xs =>
    cases wk
    refine (pi_list h).run pins s σV H R I ?_
    refine seq1 hb he M e1 fun m1 H1 v1 x1 M1 r1 => ?_
    cases r1 with
    | lst f ra => exact ⟨_, rfl, ⟨_, f.sq⟩, k m1 H1 _ x1 M1 (wk_list (fun m' H' e => (f.ex e).sq) ra)⟩
  | scr ns =>
    cases wk
    refine (pi_list h).run pins s σV H R I ?_
    refine seq1 hb he M e1 fun m1 H1 v1 x1 M1 r1 => ?_
    cases r1 with
    | scr f => exact ⟨_, rfl, ⟨_, f.sq⟩, k m1 H1 _ x1 M1 (wk_list (fun m' H' e => (f.ex e).sq) (RpA.ints ns))⟩
  | ob i =>
    simp only [walk] at wk
    split at wk
    · rename_i xs e2
      cases wk
      refine (pi_list h).run pins s σV H R I ?_
      refine seq1 hb he M e1 fun m1 H1 v1 x1 M1 r1 => ?_
      obtain ⟨p, rfl, hp, c⟩ := M1.objF r1 e2
      cases c with
      | lst hH ra => exact ⟨_, rfl, ⟨_, SqL.of hH⟩, k m1 H1 _ x1 M1 ⟨p, hp, rfl⟩⟩
    · cases wk
  | str x =>
    cases wk
    refine (pi_str h).run pins s σV H R I ?_
    refine seq1 hb he M e1 fun m1 H1 v1 x1 M1 r1 => ?_
    cases r1
    exact ⟨x, rfl, k m1 H1 _ x1 M1 wk_str⟩
  | _ => cases wk
theorem evalL_len {σ : Env} : ∀ {es : List E} {μ μ' : Mu} {us : List U}, evalL cal n0 es σ μ = some (us, μ') → us.length = es.length
  | [], _, _, _, h => by simp only [evalL] at h; cases h; rfl
  | e :: es, _, _, _, h => by
    simp only [evalL] at h
    split at h
    · split at h
      · rename_i e2
        cases h
        simp [evalL_len e2]
      · cases h
    · cases h
theorem i_rng1 {p : Pos} (hg : Gl X "range") (hm : X.mg "range" = none) (h : PEv X fa cal n0 xa a) (hk : okh xa = true) : PIv X fa cal n0 tg (.Call (.Name "range" p) [xa] [] pos) .rng [a] := by
  refine ⟨fun pins s σV H R I q => ?_⟩
  refine (pi_range1 (tg := tg) (p := p) (pos := pos) hg hm (a_cons h a_nil hk) (okh_star hk)).run pins s σV H R I ?_
  obtain ⟨t, bs, m, σ, μ, us, μ', w, hb, he, M, ev, wk, k⟩ := q
  obtain ⟨u, rfl, e1⟩ := evalL_one ev
  refine ⟨t, bs, m, σ, μ, _, μ', hb, he, M, ev, fun m1 H1 vs x1 M1 ra => ?_⟩
  obtain ⟨v, rfl, r⟩ := rpa1 ra
  cases u with
  | int j =>
    simp only [walk] at wk
    split at wk
    · rename_i hj
      cases wk
      cases r
      refine ⟨j, rfl, hj.1, hj.2, ?_⟩
      have := k m1 H1 (Itr 0 (j - 0).toNat) x1 M1 wk_rng
      simpa using this
    · cases wk
  | _ => simp [walk] at wk
theorem i_rng2 {p : Pos} (hg : Gl X "range") (hm : X.mg "range" = none) (h : PEv X fa cal n0 xa a) (hb : PEv X fa cal n0 xb b) (hk : okh xa = true) (hkb : okh xb = true) : PIv X fa cal n0 tg (.Call (.Name "range" p) [xa, xb] [] pos) .rng [a, b] := by
  refine ⟨fun pins s σV H R I q => ?_⟩
  refine (pi_range2 (tg := tg) (p := p) (pos := pos) hg hm (a_cons h (a_cons hb a_nil hkb) hk) (by rw [okh_star hk, okh_star hkb] <;> rfl) (okh_star hkb)).run pins s σV H R I ?_
  obtain ⟨t, bs, m, σ, μ, us, μ', w, hb, he, M, ev, wk, k⟩ := q
  refine ⟨t, bs, m, σ, μ, _, μ', hb, he, M, ev, fun m1 H1 vs x1 M1 ra => ?_⟩
  match us, wk, ra with
  | [.int i, .int j], wk, ra =>
    obtain ⟨v, z, rfl, r, r2⟩ := rpa2 ra
    simp only [walk] at wk
    split at wk
    · rename_i hj
      cases wk
      cases r
      cases r2
      exact ⟨i, j, rfl, hj, k m1 H1 (Itr i (j - i).toNat) x1 M1 wk_rng⟩
    · cases wk
  | [.int j], wk, ra =>
    have := evalL_len ev
    simp at this
theorem i_enm {p tpos : Pos} {elts : List Expr} {kk : Nat} (hg : Gl X "enumerate") (hm : X.mg "enumerate" = none) (h : PEv X fa cal n0 xa a) (hk : okh xa = true) : PIv X fa cal n0 (.Tuple elts kk tpos) (.Call (.Name "enumerate" p) [xa] [] pos) .enm [a] := by
  refine ⟨fun pins s σV H R I q => ?_⟩
  refine (pi_enum (tpos := tpos) (elts := elts) (kk := kk) (p := p) (pos := pos) hg hm (a_cons h a_nil hk) (okh_star hk)).run pins s σV H R I ?_
  obtain ⟨t, bs, m, σ, μ, us, μ', w, hb, he, M, ev, wk, k⟩ := q
  obtain ⟨u, rfl, e1⟩ := evalL_one ev
  refine ⟨t, bs, m, σ, μ, _, μ', hb, he, M, ev, fun m1 H1 vs x1 M1 ra => ?_⟩
  obtain ⟨v, rfl, r⟩ := rpa1 ra
  cases u with
  | lst xs =>
    simp only [walk] at wk
    cases wk
    cases r with
    | lst f ra2 => exact ⟨_, _, rfl, f.sq, k m1 H1 _ x1 M1 (wk_enm f ra2)⟩
  | _ => simp [walk] at wk
theorem i_zip {p tpos : Pos} {elts : List Expr} {kk : Nat} (hg : Gl X "zip") (hm : X.mg "zip" = none) (h : PEv X fa cal n0 xa a) (hb : PEv X fa cal n0 xb b) (hk : okh xa = true) (hkb : okh xb = true) : PIv X fa cal n0 (.Tuple elts kk tpos) (.Call (.Name "zip" p) [xa, xb] [] pos) .zip [a, b] := by
  refine ⟨fun pins s σV H R I q => ?_⟩
  refine (RZ.pi_zipA (tpos := tpos) (elts := elts) (kk := kk) (p := p) (pos := pos) hg hm (a_cons h (a_cons hb a_nil hkb) hk) (okh_star hk) (okh_back (es := [xb]) (by simp [hkb]))).run pins s σV H R I ?_
  obtain ⟨t, bs, m, σ, μ, us, μ', w, hb, he, M, ev, wk, k⟩ := q
  refine ⟨t, bs, m, σ, μ, _, μ', hb, he, M, ev, fun m1 H1 vs x1 M1 ra => ?_⟩
  match us, wk, ra with
  | [.lst xs, .lst ys], wk, ra =>
    obtain ⟨v, z, rfl, r, r2⟩ := rpa2 ra
    simp only [walk] at wk
    cases wk
    cases r with
    | lst f ra2 =>
      cases r2 with
      | lst g rb => exact ⟨_, _, _, _, rfl, .inl ⟨f.sq, g.sq, k m1 H1 _ x1 M1 (wk_zipL f g ra2 rb)⟩⟩
  | [.tup xs, .tup ys], wk, ra =>
    obtain ⟨v, z, rfl, r, r2⟩ := rpa2 ra
    simp only [walk] at wk
    cases wk
    cases r with
    | tup f ra2 =>
      cases r2 with
      | tup g rb => exact ⟨_, _, _, _, rfl, .inr ⟨f.sq, g.sq, k m1 H1 _ x1 M1 (wk_zipT f g ra2 rb)⟩⟩

/-! ### list comprehensions -/
theorem _root_.L2.PTs.imp {X : Cx} {e : List Expr} {t t' : TT} (h : PTs X e t) (hi : ∀ σ H Q, t' σ H Q → t σ H Q) : PTs X e t' := ⟨fun pins s σ H Q I q => h.run pins s σ H Q I (hi _ _ _ q)⟩
theorem pts_yes : PTs X [] (tT X.K fa n0 (evalE cal n0 (.bl true))) := pts_nil.imp fun σV H Q q => by
  obtain ⟨t, bs, m, σ, μ, u, μ', b, hb, he, M, ev, tr, k⟩ := q
  simp only [evalE] at ev
  cases ev
  cases tr
  exact k m H (Ex.refl _ _) M
theorem lc_rd {p : Pt} {ik : Ik} {its : List E} {al : Bool} {ws : List Nat} {K : PySem.W.Frag} (hws : ∀ i ∈ ptSlots p, i ∈ ws) {σV : L2.St} {H : Hp} {Q : VK} (q : tE K fa n0 (evalE cal n0 (.comp al p ik its c b ws)) σV H Q) :
    tLc (tI K fa n0 (evalL cal n0 its) ik) (tGp K fa p) (tT K fa n0 (evalE cal n0 c)) (tE K fa n0 (evalE cal n0 b)) ws σV H Q := by
  obtain ⟨t, bs, m0, σ0, μ0, u0, μ', hbl, he0, M0, ev, k⟩ := q
  have hl := sz_line
  simp only [evalE] at ev
  split at ev
  · rename_i us μ1 e1
    generalize hstep : (fun (x : U) (μ : Mu) => match bindP μ p x (wipeE σ0 ws) with
      | some σ' => match evalE cal n0 c σ' μ with
        | some (t, μ) => match truth μ t with
          | some true => match evalE cal n0 b σ' μ with
            | some (y, μ) => some (some y, μ)
            | none => none
          | some false => some (none, μ)
          | none => none
        | none => none
      | none => none) = step at ev
    -- a turn
    have turn : ∀ {t' m2 : List Addr} {H2 H3 : Hp} {μ2 μ3 : Mu} {x : U} {v : V} {oy : Option U} {R : L2.St → Hp → Prop} {Ny : V → Hp → Prop} {Nn : Hp → Prop}, step x μ2 = some (oy, μ3) → EnvR K fa t' m2 H2 σ0 σV → Me K fa bs t' m2 H2 μ2 → (∀ a o, H2 a = some o → H3 a = some o) → Rp K fa t' m2 m2.length H3 x v →
        (∀ y, oy = some y → ∀ m4 H4 w, Ex m2 H3 m4 H4 → Me K fa bs t' m4 H4 μ3 → Rp K fa t' m4 m4.length H4 y w → Ny w H4) → (oy = none → ∀ m4 H4, Ex m2 H3 m4 H4 → Me K fa bs t' m4 H4 μ3 → Nn H4) →
        tGp K fa p v (L2.wipe σV ws) H3 fun σ2 H2 => L2.wipe σ2 ws = L2.wipe σV ws ∧ tT K fa n0 (evalE cal n0 c) σ2 H2 fun b1 H3 => if b1 = true then tE K fa n0 (evalE cal n0 b) σ2 H3 fun y H4 => Ny y H4 else Nn H3 := by
      intro t' m2 H2 H3 μ2 μ3 x v oy R Ny Nn hs he M kp r hy hn
      rw [← hstep] at hs
      simp only at hs
      have x3 : Ex m2 H2 m2 H3 := Ex.of_keep kp
      split at hs
      · rename_i σ' eb
        refine ⟨t', bs, m2, μ2, wipeE σ0 ws, x, σ', (he.wipe ws).ex x3, M.ext kp, r, eb, fun σV2 he2 s2 => ⟨by rw [s2 ws hws, wipe_wipe], ?_⟩⟩
        split at hs
        · rename_i tv μ4 ec
          split at hs
          · rename_i et
            refine ⟨t', bs, m2, σ', μ2, tv, μ4, true, hbl, he2, M.ext kp, ec, et, fun m4 H4 x4 M4 => ?_⟩
            simp only [↓reduceIte]
            split at hs
            · rename_i y μ5 ey
              cases hs
              exact ⟨t', bs, m4, σ', μ4, y, _, hbl, he2.ex x4, M4, ey, fun m5 H5 w x5 M5 rw' => hy y rfl m5 H5 w (x4.trans x5) M5 rw'⟩
            · cases hs
          · rename_i et
            cases hs
            refine ⟨t', bs, m2, σ', μ2, tv, _, false, hbl, he2, M.ext kp, ec, et, fun m4 H4 x4 M4 => ?_⟩
            simp only [↓reduceIte, Bool.false_eq_true]
            exact hn rfl m4 H4 x4 M4
          · cases hs
        · cases hs
      · cases hs
    split at ev
    · rename_i xs e2
      split at ev
      · rename_i ys μ9 e3
        obtain ⟨rfl, rfl⟩ := Prod.mk.inj (Option.some.inj ev)
        refine ⟨t, bs, m0, σ0, μ0, us, μ1, .inl xs, hbl, he0, M0, e1, e2, fun m1 H1 J x1 M1 wk D hD => ?_⟩
        have wk : WkL K fa t m1 H1 J xs := wk
        obtain ⟨Dm, Dt⟩ := M1.fresh hD
        have he1 := he0.ex x1
        refine ⟨fun i mm H' => mm = xs.length - i ∧ i ≤ xs.length ∧ ∃ m μ acc vacc, Ex m1 H1 m H' ∧ Me K fa bs (D :: t) m H' μ ∧ H' D = some (.lst vacc) ∧ RpA K fa (D :: t) m m.length H' acc vacc ∧ compL step (xs.drop i) acc μ = some (ys, μ9),
          ⟨xs.length, by simp, Nat.zero_le _, m1, μ1, [], [], (Ex.refl _ _).tmp hD, M1.tn hD, upd_same, .nil, by simpa using e3⟩, ?_⟩
        rintro i mm H2 ⟨rfl, hle, m2, μ2, acc, vacc, x2, M2, hDv, ra, ev2⟩
        by_cases hlt : i < xs.length
        · refine .inr ⟨wk.go i m2 H2 x2 hlt, fun H' => i + 1 ≤ xs.length ∧ ∃ m μ acc vacc, Ex m1 H1 m H' ∧ Me K fa bs (D :: t) m H' μ ∧ H' D = some (.lst vacc) ∧ RpA K fa (D :: t) m m.length H' acc vacc ∧ compL step (xs.drop (i + 1)) acc μ = some (ys, μ9), fun H' w => ⟨xs.length - (i + 1), by omega, rfl, w.1, w.2⟩, fun x H3 y => ?_⟩
          obtain ⟨u, hu, kp, r⟩ := wk.yld i m2 H2 (D :: t) bs μ2 x H3 hlt x2 (fun a h => (List.mem_cons.mp h).elim (fun z => .inr (by rw [z]; exact hD)) .inl) M2 y
          have hd : xs.drop i = u :: xs.drop (i + 1) := by
            rw [List.drop_eq_getElem_cons hlt]
            rw [List.getElem?_eq_getElem hlt] at hu
            cases hu; rfl
          rw [hd] at ev2
          simp only [compL] at ev2
          have x3 : Ex m2 H2 m2 H3 := Ex.of_keep kp
          have x23 := x2.trans x3
          have heD : EnvR K fa (D :: t) m2 H2 σ0 σV := ⟨he1.len, fun j w q => let ⟨v, a, b⟩ := he1.at_ j w q; ⟨v, a, (b.tn hD).ex' x2⟩⟩
          have D2 : D ∉ m2 := (M2.tt D (by simp)).1
          split at ev2
          · rename_i y' μ3 e4
            split at ev2
            · rename_i hz
              refine turn (R := fun _ _ => True) e4 heD M2 kp r (fun y0 hy m4 H4 w x4 M4 rw' => ?_) (fun z => by cases z)
              cases hy
              have hD4 : H4 D = some (.lst vacc) := x4.keep D _ (kp D _ hDv) D2
              refine ⟨vacc, hD4, by rw [← ra.length]; omega, hlt, m4, μ3, acc ++ [y'], vacc ++ [w], (x23.trans x4).tmp hD, M4.td (by simp), upd_same, ?_, ev2⟩
              exact (((ra.ex' x3).ex' x4).append (.one rw')).td (by simp)
            · cases ev2
          · rename_i μ3 e4
            refine turn (R := fun _ _ => True) e4 heD M2 kp r (fun y0 hy => by cases hy) (fun _ m4 H4 x4 M4 => ?_)
            have hD4 : H4 D = some (.lst vacc) := x4.keep D _ (kp D _ hDv) D2
            exact ⟨hlt, m4, μ3, acc, vacc, x23.trans x4, M4, hD4, (ra.ex' x3).ex' x4, ev2⟩
          · cases ev2
        · have e : i = xs.length := by omega
          subst e
          rw [List.drop_length] at ev2
          simp only [compL] at ev2
          obtain ⟨rfl, rfl⟩ := Prod.mk.inj (Option.some.inj ev2)
          exact .inl ⟨wk.stop _ m2 H2 x2 (Nat.le_refl _), (k.ex x1).tmpL hD Dt x2 M2 hDv ra⟩
      · cases ev
    · rename_i iob e2
      split at ev
      · rename_i ys μ9 e3
        obtain ⟨rfl, rfl⟩ := Prod.mk.inj (Option.some.inj ev)
        refine ⟨t, bs, m0, σ0, μ0, us, μ1, .inr iob, hbl, he0, M0, e1, e2, fun m1 H1 J x1 M1 wk D hD => ?_⟩
        obtain ⟨ad, had, rfl⟩ := (show ∃ a, m1[iob]? = some a ∧ J = Itl K a from wk)
        obtain ⟨Dm, Dt⟩ := M1.fresh hD
        have he1 := he0.ex x1
        refine ⟨fun i f H' => ∃ m μ acc vacc, Ex m1 H1 m H' ∧ Me K fa bs (D :: t) m H' μ ∧ H' D = some (.lst vacc) ∧ RpA K fa (D :: t) m m.length H' acc vacc ∧ compV step iob f i acc μ = some (ys, μ9),
          ⟨FU, m1, μ1, [], [], (Ex.refl _ _).tmp hD, M1.tn hD, upd_same, .nil, e3⟩, ?_⟩
        rintro i f H2 ⟨m2, μ2, acc, vacc, x2, M2, hDv, ra, ev2⟩
        cases f with
        | zero => simp [compV] at ev2
        | succ g =>
          simp only [compV] at ev2
          split at ev2
          · rename_i xs e4
            have hat := x2.at_ had
            obtain ⟨ad', e5, hm2, cc⟩ := M2.objF (v := .ref ad) (.ob (by have := (List.getElem?_eq_some_iff.mp hat).1; exact this) hat) e4
            cases e5
            cases cc with
            | @lst vx _ hH rl =>
              have hS : SqL K H2 ad vx := SqL.of hH
              split at ev2
              · rename_i hnone
                obtain ⟨rfl, rfl⟩ := Prod.mk.inj (Option.some.inj ev2)
                exact .inl ⟨⟨vx, hS, by rw [← rl.length]; exact List.getElem?_eq_none_iff.mp hnone⟩, (k.ex x1).tmpL hD Dt x2 M2 hDv ra⟩
              · rename_i u hu
                obtain ⟨v, hv, r⟩ := rl.get hu
                refine .inr ⟨⟨vx, v, hS, hv⟩, fun H' => ∃ m μ acc vacc, Ex m1 H1 m H' ∧ Me K fa bs (D :: t) m H' μ ∧ H' D = some (.lst vacc) ∧ RpA K fa (D :: t) m m.length H' acc vacc ∧ compV step iob g (i + 1) acc μ = some (ys, μ9), fun H' w => ⟨g, Nat.lt_succ_self g, w⟩, fun x H3 y => ?_⟩
                obtain ⟨rfl, y⟩ := y
                have := y vx hS
                rw [hv] at this
                cases this
                have heD : EnvR K fa (D :: t) m2 H3 σ0 σV := ⟨he1.len, fun j w q => let ⟨v, a, b⟩ := he1.at_ j w q; ⟨v, a, (b.tn hD).ex' x2⟩⟩
                have D2 : D ∉ m2 := (M2.tt D (by simp)).1
                split at ev2
                · rename_i y' μ3 e6
                  split at ev2
                  · rename_i hz
                    refine turn (R := fun _ _ => True) e6 heD M2 (fun _ _ h => h) r (fun y0 hy m4 H4 w x4 M4 rw' => ?_) (fun z => by cases z)
                    cases hy
                    have hD4 : H4 D = some (.lst vacc) := x4.keep D _ hDv D2
                    refine ⟨vacc, hD4, by rw [← ra.length]; omega, m4, μ3, acc ++ [y'], vacc ++ [w], (x2.trans x4).tmp hD, M4.td (by simp), upd_same, ?_, ev2⟩
                    exact ((ra.ex' x4).append (.one rw')).td (by simp)
                  · cases ev2
                · rename_i μ3 e6
                  refine turn (R := fun _ _ => True) e6 heD M2 (fun _ _ h => h) r (fun y0 hy => by cases hy) (fun _ m4 H4 x4 M4 => ?_)
                  have hD4 : H4 D = some (.lst vacc) := x4.keep D _ hDv D2
                  exact ⟨m4, μ3, acc, vacc, x2.trans x4, M4, hD4, ra.ex' x4, ev2⟩
                · cases ev2
          · cases ev2
      · cases ev
    · cases ev
  · cases ev
theorem e_comp {p : Pt} {ik : Ik} {its : List E} {al : Bool} {elt iter : Expr} {ifs : List Expr} {scope : Scope} {own : List (Str × Nat)} (hc : X.calm = true) (hN : X.N.Nodup) (hi : PIv X fa cal n0 tg iter ik its) (ok : BlkOk X.N X.env.scope scope own)
    (hg : ∀ (s : Shared) (H : Hp) (C : Addr) (cl : List (Str × Addr)) (fp : List Addr), PG (X.blk s H scope (compEnvC scope cl C X.env) fp) tg (tGp X.K fa p))
    (ht : ∀ (s : Shared) (H : Hp) (C : Addr) (cl : List (Str × Addr)) (fp : List Addr), PTs (X.blk s H scope (compEnvC scope cl C X.env) fp) ifs (tT X.K fa n0 (evalE cal n0 c)))
    (he : ∀ (s : Shared) (H : Hp) (C : Addr) (cl : List (Str × Addr)) (fp : List Addr), PE (X.blk s H scope (compEnvC scope cl C X.env) fp) elt (tE X.K fa n0 (evalE cal n0 b))) (hk : okh iter = true) (hws : ∀ i ∈ ptSlots p, i ∈ own.map (·.2)) :
    PEv X fa cal n0 (.ListComp elt [⟨tg, iter, ifs, 0⟩] scope pos) (.comp al p ik its c b (own.map (·.2))) :=
  (pe_lc hc hN hi ok hg ht he (okh_fold hk)).imp fun σV H Q q => lc_rd hws q
theorem s_setLc {i : Nat} {y : Str} {py spos : Pos} {p : Pt} {ik : Ik} {its : List E} {al : Bool} {elt iter : Expr} {ifs : List Expr} {scope : Scope} {own : List (Str × Nat)} (hc : X.calm = true) (hN : X.N.Nodup) (hy : X.N[i]? = some y) (hyl : X.env.scope.names.lookup y = some .local)
    (hsw : swapsWith (.ListComp elt [⟨tg, iter, ifs, 0⟩] scope pos) (some (.Name y py)) spos.line X.env = pure true) (hi : PIv X fa cal n0 tg iter ik its) (ok : BlkOk X.N X.env.scope scope own)
    (hg : ∀ (s : Shared) (H : Hp) (C : Addr) (cl : List (Str × Addr)) (fp : List Addr), PG (X.blk s H scope (compEnvC scope cl C X.env) fp) tg (tGp X.K fa p))
    (ht : ∀ (s : Shared) (H : Hp) (C : Addr) (cl : List (Str × Addr)) (fp : List Addr), PTs (X.blk s H scope (compEnvC scope cl C X.env) fp) ifs (tT X.K fa n0 (evalE cal n0 c)))
    (he : ∀ (s : Shared) (H : Hp) (C : Addr) (cl : List (Str × Addr)) (fp : List Addr), PE (X.blk s H scope (compEnvC scope cl C X.env) fp) elt (tE X.K fa n0 (evalE cal n0 b))) (hk : okh iter = true) (hws : ∀ i ∈ ptSlots p, i ∈ own.map (·.2)) :
    PSv X fa cal n0 (.Assign [.Name y py] (.ListComp elt [⟨tg, iter, ifs, 0⟩] scope pos) spos) (.set i (.comp al p ik its c b (own.map (·.2)))) :=
  (ps_setLc hc hN hy hyl hsw hi ok hg ht he (okh_fold hk)).imp fun D σV H q => by
    obtain ⟨t, bs, m, σ, μ, o, hb, he, M, ev, k⟩ := q
    simp only [exS] at ev
    split at ev
    · rename_i u μ1 e1
      cases ev
      exact lc_rd hws (seq1 hb he M e1 fun m1 H1 v1 x1 M1 r1 => k m1 H1 _ x1 M1 ((he.ex x1).set r1))
    · cases ev
end
end R

set_option Elab.async false
set_option linter.all false
set_option maxRecDepth 100000
set_option maxHeartbeats 4000000
/-! R3k: list(..), tuple(..), dict(..), sorted(..) -/
namespace R
open PySem PySem.Spec PyProof.Rows L2

mutual
theorem reads_there {h : Heap} : ∀ {v : Value} {d : PyData} {as : List Addr}, Reads h v d as → ∀ a ∈ as, ∃ o, h.get? a = some o
  | _, _, _, .none, a, m => by cases m
  | _, _, _, .bool b, a, m => by cases m
  | _, _, _, .int i t, a, m => by cases m
  | _, _, _, .str x t, a, m => by cases m
  | _, _, _, .list h1 h2 h3 h4, a, m => by
    rcases List.mem_cons.mp m with m | m
    · subst m; exact ⟨_, h1⟩
    · exact reads_thereA h4 a m
  | _, _, _, .tuple h1 h2 h3 h4, a, m => reads_thereA h4 a m
  | _, _, _, .dict h1 h2 h3 h4 h5, a, m => by
    rcases List.mem_append.mp m with m | m
    · rcases List.mem_cons.mp m with m | m
      · subst m; exact ⟨_, h1⟩
      · exact reads_thereA h4 a m
    · exact reads_thereA h5 a m
theorem reads_thereA {h : Heap} : ∀ {vs : List Value} {ds : List PyData} {as : List Addr}, ReadsAll h vs ds as → ∀ a ∈ as, ∃ o, h.get? a = some o
  | _, _, _, .nil, a, m => by cases m
  | _, _, _, .cons h1 h2, a, m => by
    rcases List.mem_append.mp m with m | m
    · exact reads_there h1 a m
    · exact reads_thereA h2 a m
end

section
variable {X : Cx} {fa : Nat → Option Addr}
def colF (al : Bool) (c : Cl) : Mu → List U → Option (U × Mu) := fun μ us => match items μ c .ex us with
  | some xs => evCol al μ c xs
  | none => none
theorem colF_some {al : Bool} {c : Cl} {μ μ' : Mu} {us : List U} {u : U} (h : colF al c μ us = some (u, μ')) : ∃ a xs, us = [a] ∧ items μ c .ex [a] = some xs ∧ evCol al μ c xs = some (u, μ') := by
  unfold colF at h
  split at h
  · rename_i xs e
    match us, e with
    | [a], e => exact ⟨a, xs, rfl, e, h⟩
    | [], e => cases c <;> simp [items] at e
    | _ :: _ :: _, e => cases c <;> simp [items] at e
  · cases h
theorem keyU_ok {K : PySem.W.Frag} {t m : List Addr} {n : Nat} {H : Hp} (k : Key) : Rp K fa t m n H (keyU k) (kV k) := by
  cases k with
  | inl i => exact .int i
  | inr x => exact .str x
theorem keysA_ok {K : PySem.W.Frag} {t m : List Addr} {n : Nat} {H : Hp} : ∀ (ks : List Key), RpA K fa t m n H (ks.map keyU) (ks.map kV)
  | [] => .nil
  | k :: ks => .cons (keyU_ok k) (keysA_ok ks)
theorem keysU_ok {K : PySem.W.Frag} {t m : List Addr} {n : Nat} {H : Hp} {bs : List Nat} {μ : Mu} (M : Me K fa bs t m H μ) : ∀ {kvs : List (List Key × V)} {ps : List Addr}, IsKeys H kvs ps → RpA K fa t m n H ((kvs.map (·.1)).map keysU) (ps.map V.ref)
  | [], _, .nil => .nil
  | kv :: kvs, _, .cons h r => .cons (.tup (M.tupN h) (keysA_ok _)) (keysU_ok M r)
/-- what list(u), sorted(u) walk -/
theorem items_ok {K : PySem.W.Frag} {t m : List Addr} {H : Hp} {bs : List Nat} {μ : Mu} {u : U} {v : V} {xs : List U} (M : Me K fa bs t m H μ) (r : Rp K fa t m m.length H u v)
    (h : (match asS μ u with
      | some xs => some xs
      | none => match cont μ u with
        | some (.dk ks _) => some (ks.map keyU)
        | some (.dt ks _) => some (ks.map keysU)
        | _ => none) = some xs) :
    ∃ p, v = .ref p ∧ ((∃ vs, (SqL K H p vs ∨ SqT K H p vs) ∧ RpA K fa t m m.length H xs vs) ∨ (∃ kvs : List (Key × V), H p = some (.dK kvs) ∧ xs = (kvs.map (·.1)).map keyU) ∨ ∃ kvs : List (List Key × V), H p = some (.dT kvs) ∧ xs = (kvs.map (·.1)).map keysU) := by
  split at h
  · rename_i ys e
    cases h
    obtain ⟨p, vs, rfl, q, ra⟩ := asS_ok M r e
    exact ⟨p, rfl, .inl ⟨vs, q, ra⟩⟩
  · split at h
    · rename_i e
      cases h
      obtain ⟨p, kvs, rfl, hH, rfl, _⟩ := dk_at M r e
      exact ⟨p, rfl, .inr (.inl ⟨kvs, hH, rfl⟩)⟩
    · rename_i e
      cases h
      obtain ⟨p, kvs, rfl, hH, rfl, _⟩ := dt_at M r e
      exact ⟨p, rfl, .inr (.inr ⟨kvs, hH, rfl⟩)⟩
    · cases h
theorem listR (hc : X.calm = true) (al : Bool) : CallR X (.type "list") (rVs X.K fa (colF al .list)) := by
  intro pins s σ H xs us Q I rx h
  obtain ⟨t, bs, m, μ, as, u, μ', M, ra, h, k⟩ := h
  obtain ⟨a, ys, rfl, e1, e2⟩ := colF_some h
  obtain ⟨v, rfl, r⟩ := rpa1 ra
  simp only [evCol] at e2
  obtain ⟨rfl, rfl⟩ := Prod.mk.inj (Option.some.inj e2)
  by_cases hs : ∃ ns, a = .scr ns
  · obtain ⟨ns, rfl⟩ := hs
    simp only [items] at e1
    cases e1
    cases r with
    | scr f => exact call_list_of pins s σ H _ us Q I rx ⟨_, _, rfl, .inl f.sq, fun l hl => k.lst M hl (RpA.ints ns)⟩
  · have e1' : (match asS μ a with
      | some xs => some xs
      | none => match cont μ a with
        | some (.dk ks _) => some (ks.map keyU)
        | some (.dt ks _) => some (ks.map keysU)
        | _ => none) = some ys := by
      rw [← e1]
      cases a <;> first | rfl | exact absurd ⟨_, rfl⟩ hs
    obtain ⟨p, rfl, q⟩ := items_ok M r e1'
    rcases q with ⟨vs, q, ra⟩ | ⟨kvs, hH, rfl⟩ | ⟨kvs, hH, rfl⟩
    · exact call_list_of pins s σ H _ us Q I rx ⟨_, _, rfl, q, fun l hl => k.lst M hl ra⟩
    · refine call_list_dK hc pins s σ H _ us Q I rx ⟨p, kvs, rfl, hH, fun l hl => ?_⟩
      refine k.lst M hl ?_
      have := keysA_ok (fa := fa) (K := X.K) (t := t) (m := m) (n := m.length) (H := H) (kvs.map (·.1))
      simpa [List.map_map, Function.comp_def] using this
    · exact call_list_dT hc pins s σ H _ us Q I rx ⟨p, kvs, rfl, .inl hH, fun l ps hl hk => k.lst M hl (keysU_ok M hk)⟩
theorem tupleR (al : Bool) : CallR X (.type "tuple") (rVs X.K fa (colF al .tuple)) := by
  intro pins s σ H xs us Q I rx h
  obtain ⟨t, bs, m, μ, as, u, μ', M, ra, h, k⟩ := h
  obtain ⟨a, ys, rfl, e1, e2⟩ := colF_some h
  obtain ⟨v, rfl, r⟩ := rpa1 ra
  simp only [evCol] at e2
  obtain ⟨rfl, rfl⟩ := Prod.mk.inj (Option.some.inj e2)
  by_cases hs : ∃ ns, a = .scr ns
  · obtain ⟨ns, rfl⟩ := hs
    simp only [items] at e1
    cases e1
    cases r with
    | scr f => exact call_tuple_of pins s σ H _ us Q I rx ⟨_, _, rfl, .inl ⟨f.sq, fun l hl => k.tup M hl (RpA.ints ns)⟩⟩
  · have e1' : asS μ a = some ys := by
      rw [← e1]
      cases a <;> first | rfl | exact absurd ⟨_, rfl⟩ hs
    by_cases ht : ∃ zs, a = .tup zs
    · obtain ⟨zs, rfl⟩ := ht
      cases e1'
      cases r with
      | tup f rb => exact call_tuple_of pins s σ H _ us Q I rx ⟨_, _, rfl, .inr ⟨f.sq, k.here M (.tup f rb)⟩⟩
    · have e3 : asL μ a = some ys := by
        rw [← e1']
        cases a <;> first | rfl | exact absurd ⟨_, rfl⟩ ht
      obtain ⟨p, vs, rfl, q, rb⟩ := asL_ok M r e3
      exact call_tuple_of pins s σ H _ us Q I rx ⟨_, _, rfl, .inl ⟨q, fun l hl => k.tup M hl rb⟩⟩
/-- pairs as tuples -/
theorem pairs_ok {K : PySem.W.Frag} {t m : List Addr} {n : Nat} {H : Hp} : ∀ {xs : List U} {vs : List V} {ps : List (U × U)}, RpA K fa t m n H xs vs → mapO pairKV xs = some ps →
    ∃ (as : List Addr) (qs : List (V × V)), vs = as.map V.ref ∧ RpP K fa t m n H ps qs ∧ Paired (fun p (q : V × V) => SqT K H p [q.1, q.2]) as qs
  | _, _, _, .nil, h => by cases h; exact ⟨[], [], rfl, .nil, .nil⟩
  | _, _, _, .cons r ra, h => by
    obtain ⟨z, zs, e1, e2, rfl⟩ := mapO_cons h
    obtain ⟨as, qs, rfl, rp, pr⟩ := pairs_ok ra e2
    cases r with
    | @tup a vs ys f rb =>
      match ys, e1, rb with
      | [k, v], e1, rb =>
        cases e1
        obtain ⟨x, y, rfl, r1, r2⟩ := rpa2 rb
        exact ⟨a :: as, (x, y) :: qs, rfl, .cons r1 r2 rp, .cons f.sq pr⟩
    | _ => simp [pairKV] at e1
theorem paired_map {α β γ : Type} {R : α → β → Prop} {f : γ → β} : ∀ {as : List α} {cs : List γ}, Paired R as (cs.map f) → Paired (fun a c => R a (f c)) as cs
  | [], [], _ => .nil
  | [], _ :: _, h => by cases h
  | a :: as, [], h => by cases h
  | a :: as, c :: cs, .cons h r => .cons h (paired_map r)
theorem dictR (hc : X.calm = true) (al : Bool) : CallR X (.type "dict") (rVs X.K fa (colF al (.dict false))) := by
  intro pins s σ H xs us Q I rx h
  obtain ⟨t, bs, m, μ, as, u, μ', M, ra, h, k⟩ := h
  obtain ⟨a, ys, rfl, e1, e2⟩ := colF_some h
  obtain ⟨v, rfl, r⟩ := rpa1 ra
  have e1' : asL μ a = some ys := by
    rw [← e1]
    cases a <;> rfl
  obtain ⟨p, vs, rfl, q, rb⟩ := asL_ok M r e1'
  simp only [evCol] at e2
  split at e2
  · rename_i ps e3
    split at e2
    · rename_i o e4
      obtain ⟨rfl, rfl⟩ := Prod.mk.inj (Option.some.inj e2)
      obtain ⟨ads, qs, rfl, rp, pr⟩ := pairs_ok rb e3
      have e4' : mergeU false ps (.dk (([] : List (Key × V)).map (·.1)) []) = some o := by simpa using e4
      obtain ⟨kvs, us', rfl, rfl, rc⟩ := mergeU_k (kvs0 := []) rp .nil e4'
      exact call_dictP hc pins s σ H _ us Q I rx ⟨p, ads, kvs, rfl, q, paired_map (R := fun p (q : V × V) => SqT X.K H p [q.1, q.2]) (f := fun kv : Key × V => (kV kv.1, kv.2)) pr, fun l hl => k.dk M hl rc⟩
    · cases e2
  · cases e2

/-! ### sorted -/
theorem srtd_some {μ : Mu} {xs ys : List U} (h : srtd μ xs = some ys) : ∃ ds, mapO (dat μ D0) xs = some ds ∧ PySem.W.AllAlike ds ∧ PySem.W.Sortable ds ∧ ds.length ≤ SZ ∧ ys = ((xs.zip ds).mergeSort (PySem.W.dataLe false Prod.snd)).map (·.1) := by
  unfold srtd at h
  split at h
  · rename_i ds e
    split at h
    · rename_i c
      cases h
      simp only [Bool.and_eq_true, decide_eq_true_eq, Bool.or_eq_true, List.all_eq_true] at c
      refine ⟨ds, e, fun d hd d' hd' => c.1.1 d hd d' hd', ?_, c.2, rfl⟩
      rcases c.1.2 with q | q
      · refine .inl fun d hd => ?_
        have := q d hd
        split at this
        · exact ⟨_, _, rfl⟩
        · cases this
      · refine .inr fun d hd => ?_
        have := q d hd
        split at this
        · cases this
        · cases this
        · rename_i h1 h2
          exact ⟨fun z => h2 z, fun xs z => h1 xs z⟩
    · cases h
  · cases h
theorem each_build {pins : List (Addr × Obj)} {s : Shared} {σ : L2.St} {H : Hp} {t m : List Addr} {bs : List Nat} {μ : Mu} {h' : Heap} (I : L2.Inv X pins σ H s) (M : Me X.K fa bs t m H μ) (kp : ∀ b o, s.heap.get? b = some o → h'.get? b = some o) {a : Addr} (ha : s.heap.get? a = none) :
    ∀ {xs : List U} {vs : List V} {acc : List Value} {ds : List PyData}, RpA X.K fa t m m.length H xs vs → mapO (dat μ D0) xs = some ds → Vals vs acc →
    PySem.W.EachIs (fun v (b : (U × PyData) × V) => (RelV b.2 v ∧ Rp X.K fa t m m.length H b.1.1 b.2) ∧ (∃ as, Reads h' v b.1.2 as ∧ a ∉ as) ∧ b.1.2.depth ≤ D0) acc ((xs.zip ds).zip vs)
  | _, _, _, _, .nil, e, .nil => by cases e; exact .nil
  | _, _, _, _, .cons r ra, e, .cons rv vv => by
    obtain ⟨z, zs, e1, e2, rfl⟩ := mapO_cons e
    obtain ⟨d1, _, d3⟩ := Dp.of M D0 _ _ _ r e1
    obtain ⟨as, rd⟩ := Dp.reads I _ _ _ d1 rv
    refine .cons ⟨⟨rv, r⟩, ⟨as, Reads.keeps kp rd, fun z => ?_⟩, d3⟩ (each_build I M kp ha ra e2 vv)
    obtain ⟨o, eo⟩ := reads_there rd a z
    rw [ha] at eo; cases eo
theorem each_vals {K : PySem.W.Frag} {t m : List Addr} {n : Nat} {H : Hp} : ∀ {out : List Value} {zs : List ((U × PyData) × V)}, PySem.W.EachIs (fun v (b : (U × PyData) × V) => RelV b.2 v ∧ Rp K fa t m n H b.1.1 b.2) out zs → Vals (zs.map (·.2)) out ∧ RpA K fa t m n H ((zs.map (·.1)).map (·.1)) (zs.map (·.2))
  | _, _, .nil => ⟨.nil, .nil⟩
  | _, _, .cons h r => let ⟨a, b⟩ := each_vals r; ⟨.cons h.1 a, .cons h.2 b⟩
theorem each_zs {α β : Type} {R : α → β → Prop} {p : β → Prop} (hp : ∀ a b, R a b → p b) : ∀ {as : List α} {bs : List β}, PySem.W.EachIs R as bs → ∀ b ∈ bs, p b
  | _, _, .nil, b, h => by cases h
  | _, _, .cons h r, b, hb => by
    rcases List.mem_cons.mp hb with e | e
    · subst e; exact hp _ _ h
    · exact each_zs hp r b e
/-- sorted(..) behind its collecting -/
theorem sorted_from (hc : X.calm = true) (hu : X.A.units + 66 < cLine) {pins : List (Addr × Obj)} {s : Shared} {σ : L2.St} {H : Hp} {t m : List Addr} {bs : List Nat} {μ : Mu} {xs ys : List U} {vs : List V} {a : Addr} {Q : VK} {al : Bool}
    (I : L2.Inv X pins σ H s) (M : Me X.K fa bs t m H μ) (ra : RpA X.K fa t m m.length H xs vs) (hs : srtd μ xs = some ys) (k : Kn X.K fa bs t m H (fresh al (.lst ys) μ).1 (fresh al (.lst ys) μ).2 Q)
    (hcol : ∀ (R : List Value → Shared → Prop) (E : Value → Shared → Prop), (∀ h' tk acc, (∀ b o, s.heap.get? b = some o → h'.get? b = some o) → Vals vs acc → R acc { s with heap := h', toks := tk }) → wpAny (model X.prog X.w) X.A.in1 (collect (.ref a)) R E s) :
    wpAny (model X.prog X.w) X.A (call (.builtin "sorted") [.ref a]) (EP X pins σ Q) X.xe s := by
  obtain ⟨ds, e1, hal, hk, hz, rfl⟩ := srtd_some hs
  have l1 := mapO_len e1
  have l2 := ra.length
  have hl := sz_line
  have hd0 : D0 = 12 := rfl
  refine Calls.call_function_entry PyProof.Rows.kind_sorted PyProof.Rows.plain_sorted PyProof.Rows.entry_sorted (PyProof.Rows.args_sorted1 _) ?_
  unfold Builtin.«sorted»
  refine wpAny_bind (m := checkCount "sorted" 1 1 _) (wpAny_pure ?_)
  refine wpAny_bind (hcol _ _ fun h' tk acc kp vv => ?_)
  have la := vv.length
  have I1 : L2.Inv X pins σ H { s with heap := h', toks := tk } := I.kept kp
  refine wpAny_bind (wpAny_newList ?_ (by omega))
  have hoL : (h'.push (seqObj "list" acc.toArray 0)).get? h'.objs.size = some (seqObj "list" acc.toArray 0) := Heap.get?_push_size _ rfl
  show wpAny _ _ _ _ _ { s with heap := h'.push (seqObj "list" acc.toArray 0), toks := tk }
  have hfr : h'.get? h'.objs.size = none := Heap.get?_none_of_le (Nat.le_refl _)
  have ee := each_build (s := { s with heap := h', toks := tk }) (h' := h'.push (seqObj "list" acc.toArray 0)) (a := h'.objs.size) I1 M (fun b o e => Heap.get?_push_of_some _ e) hfr ra e1 vv
  have hbm : ((xs.zip ds).zip vs).map (fun b => b.1.2) = ds := by
    have h1 : ((xs.zip ds).zip vs).map (·.1) = xs.zip ds := List.map_fst_zip (by simp; omega)
    have h2 : (xs.zip ds).map (·.2) = ds := List.map_snd_zip (by omega)
    rw [show (fun b : (U × PyData) × V => b.1.2) = (fun p : U × PyData => p.2) ∘ (fun b : (U × PyData) × V => b.1) from rfl, ← List.map_map, h1, h2]
  refine wpAny_bind (wpAny_holding (PySem.W.list_sort_data (s := { s with heap := h'.push (seqObj "list" acc.toArray 0), toks := tk }) (enc := fun b : (U × PyData) × V => b.1.2) hoL (ee.mono fun _ _ q => q.1) (ee.mono fun _ _ q => q.2.1)
    (by rw [hbm]; exact hal) (by rw [hbm]; exact hk) (by simp; omega) (fun b hb => ?_) fun out ho he => ?_))
  · have : b.1.2.depth ≤ D0 := each_zs (p := fun b : (U × PyData) × V => b.1.2.depth ≤ D0) (fun _ _ q => q.2.2) ee b hb
    show X.A.units + 1 + 1 + _ < _
    omega
  · obtain ⟨e', he'⟩ := PyProof.Rows.sortedHeap_at (vs := acc) (out := out.toArray) hoL
    obtain ⟨rv, rr⟩ := each_vals he
    have hm : (((xs.zip ds).zip vs).mergeSort (PySem.W.dataLe false fun b => b.1.2)).map (·.1) = (xs.zip ds).mergeSort (PySem.W.dataLe false Prod.snd) := by
      have h1 : ((xs.zip ds).zip vs).map (·.1) = xs.zip ds := List.map_fst_zip (by simp; omega)
      rw [List.map_mergeSort (r := PySem.W.dataLe false fun b : (U × PyData) × V => b.1.2) (s := PySem.W.dataLe false Prod.snd) (f := fun b : (U × PyData) × V => b.1) (fun a _ b _ => rfl), h1]
    rw [hm] at rr
    have lo : out.length ≤ sizeLine := by rw [ho]; simp; omega
    refine wpAny_pure ⟨_, rfl, .ref h'.objs.size, upd H h'.objs.size (.lst _), I1.laid (t' := tk) (fun b u e => ?_) (Nat.le_refl _)
      (show ObjOk X.prog X.w _ _ _ (.lst _) from ⟨by rw [rv.length]; exact lo, out, e', rv, he'⟩), rfl, k.lst M (I1.hok.fresh (Nat.le_refl _)) rr⟩
    have hb : b < h'.objs.size := Heap.lt_size e
    rw [PyProof.Rows.sortedHeap_old (Nat.ne_of_lt hb) (by rw [size_push']; exact Nat.lt_succ_of_lt hb)]
    exact Heap.get?_push_of_some _ e
theorem sortedR (hc : X.calm = true) (hu : X.A.units + 66 < cLine) (al : Bool) : CallR X (.builtin "sorted") (rVs X.K fa (colF al .sorted)) := by
  intro pins s σ H xs us Q I rx h
  obtain ⟨t, bs, m, μ, as, u, μ', M, ra, h, k⟩ := h
  obtain ⟨a, ys, rfl, e1, e2⟩ := colF_some h
  obtain ⟨v, rfl, r⟩ := rpa1 ra
  simp only [evCol] at e2
  split at e2
  · rename_i zs e3
    obtain ⟨rfl, rfl⟩ := Prod.mk.inj (Option.some.inj e2)
    have e1' : (match asS μ a with
      | some xs => some xs
      | none => match cont μ a with
        | some (.dk ks _) => some (ks.map keyU)
        | some (.dt ks _) => some (ks.map keysU)
        | _ => none) = some ys := by
      rw [← e1]
      cases a <;> rfl
    obtain ⟨p, rfl, q⟩ := items_ok M r e1'
    obtain ⟨w, rfl, rw'⟩ := vals1 rx
    obtain rfl : w = Value.ref p := rw'
    have hl := sz_line
    rcases q with ⟨vs, q, rb⟩ | ⟨kvs, hH, rfl⟩ | ⟨kvs, hH, rfl⟩
    · refine sorted_from hc hu I M rb e3 k fun R E hR => ?_
      rcases q with q | q
      · obtain ⟨its, rv, ⟨o, n, ho, hcl, hdn, hd⟩, hz⟩ := I.list q
        have hlen := rv.length
        exact wpAny_collect_seq p (.inl rfl) ho hcl hd (fun h' hk => hR h' s.toks _ hk (by simpa using rv)) (by simp; omega)
      · obtain ⟨its, rv, ⟨o, ho, hcl, n, hd⟩, hz⟩ := I.tuple q
        have hlen := rv.length
        exact wpAny_collect_seq p (.inr rfl) ho hcl hd (fun h' hk => hR h' s.toks _ hk (by simpa using rv)) (by simp; omega)
    · obtain ⟨z, lo, vs, rel, dd⟩ := dk_of I.hok hH
      obtain ⟨ep, hat⟩ := dd.dictAt
      have h16 : vs.length ≤ sizeLine := by rw [← rel.length]; exact z
      have hkeys := rel.keys
      refine sorted_from hc hu I M (vs := (kvs.map (·.1)).map kV) (keysA_ok _) e3 k fun R E hR => ?_
      refine PySem.W.kdu_collect (A := X.A.in1) (PySem.W.kdl_dict (knd := mixKind X.prog X.w) (kvs := vs) (ep := ep) lo) (I.ok.hd hc) hat h16 fun h' tk acc hk hacc => hR h' tk _ hk ?_
      have := keys_at (us := acc.toList) (vs := vs) (by rw [Array.length_toList, hacc.1]) fun j v e => hacc.2 j v (by rw [← Array.getElem?_toList]; exact e)
      rw [hkeys, List.map_map]
      exact this
    · obtain ⟨z, hs, ks, pr, o, es, ep, ho, hx, hdt, he, hn⟩ := (show ObjOk X.prog X.w H s.heap p (.dT kvs) from I.hok p _ hH)
      have l1 : es.size = ks.length := size_of_entries he
      have l2 : kvs.length = ks.length := Paired.length pr
      refine sorted_from hc hu I M (vs := (ks.map fun x => x.2.1).map V.ref) (keysU_ok M (isKeys_of pr)) e3 k fun R E hR => ?_
      refine PySem.W.kdu_collect (A := X.A.in1) (kdl_raw hs hx hdt) (I.ok.hd hc) ho (by omega) fun h' tk acc' hk it => hR h' tk _ hk ?_
      have ea : acc'.toList = ks.map fun x => Value.ref x.2.1 := by
        have hl : acc'.toList.length = ks.length := by rw [Array.length_toList, it.1]; exact l1
        apply List.ext_getElem?
        intro j
        rw [List.getElem?_map]
        cases hj : acc'.toList[j]? with
        | none =>
          have h1 := List.getElem?_eq_none_iff.mp hj
          rw [List.getElem?_eq_none (by omega)]
          all_goals rfl
        | some v =>
          obtain ⟨en, hen, hv⟩ := it.2 j v (by rw [← Array.getElem?_toList]; exact hj)
          have qe := entry_at he j
          rw [hen] at qe
          cases hb : ks[j]? with
          | none =>
            rw [hb] at qe
            exact nomatch (show some en = none from qe)
          | some b =>
            rw [hb] at qe
            have e2 : en = entryOfKey (tupleKind (mixKind X.prog X.w)) b := Option.some.inj qe
            rw [hv, e2]
            all_goals rfl
      have eb : acc'.toList = (ks.map fun x => x.2.1).map Value.ref := by rw [ea, List.map_map]; all_goals rfl
      rw [eb]
      exact vals_refs _
  · cases e2
variable {cal : Nat → List U → Mu → Option (U × Mu)} {n0 : Nat} {a b : E} {xa xb : Expr} {pos p p2 pos2 : Pos}
theorem col_ev {al : Bool} {c : Cl} {σ : Env} {μ μ' : Mu} {u : U} {its : List E} (h : evalE cal n0 (.col al c .ex its) σ μ = some (u, μ')) : ∃ us μ1, evalL cal n0 its σ μ = some (us, μ1) ∧ colF al c μ1 us = some (u, μ') := by
  simp only [evalE] at h
  split at h
  · rename_i us μ1 e1
    exact ⟨us, μ1, e1, h⟩
  · cases h
theorem e_list {al : Bool} (hc : X.calm = true) (hg : Gl X "list") (hm : X.mg "list" = none) (ha : PEv X fa cal n0 xa a) (hk : okh xa = true) : PEv X fa cal n0 (.Call (.Name "list" p) [xa] [] pos) (.col al .list .ex [a]) :=
  (pe_callTy (listR hc al) hg hm boot_list (a_cons ha a_nil hk) (by decide) (by decide) (okh_star hk) rfl).imp fun σV H Q q => vs_rd (fun _ _ _ _ => col_ev) q
theorem e_tuple {al : Bool} (hg : Gl X "tuple") (hm : X.mg "tuple" = none) (ha : PEv X fa cal n0 xa a) (hk : okh xa = true) : PEv X fa cal n0 (.Call (.Name "tuple" p) [xa] [] pos) (.col al .tuple .ex [a]) :=
  (pe_callTy (tupleR al) hg hm boot_tuple (a_cons ha a_nil hk) (by decide) (by decide) (okh_star hk) rfl).imp fun σV H Q q => vs_rd (fun _ _ _ _ => col_ev) q
theorem e_dict {al : Bool} (hc : X.calm = true) (hg : Gl X "dict") (hm : X.mg "dict" = none) (ha : PEv X fa cal n0 xa a) (hk : okh xa = true) : PEv X fa cal n0 (.Call (.Name "dict" p) [xa] [] pos) (.col al (.dict false) .ex [a]) :=
  (pe_callTy (dictR hc al) hg hm boot_dict (a_cons ha a_nil hk) (by decide) (by decide) (okh_star hk) rfl).imp fun σV H Q q => vs_rd (fun _ _ _ _ => col_ev) q
theorem e_sorted {al : Bool} (hc : X.calm = true) (hu : X.A.units + 66 < cLine) (hg : Gl X "sorted") (hm : X.mg "sorted" = none) (ha : PEv X fa cal n0 xa a) (hk : okh xa = true) : PEv X fa cal n0 (.Call (.Name "sorted" p) [xa] [] pos) (.col al .sorted .ex [a]) :=
  (pe_callB (sortedR hc hu al) hg hm boot_sorted (a_cons ha a_nil hk) (by decide) (by decide) (okh_star hk) rfl).imp fun σV H Q q => vs_rd (fun _ _ _ _ => col_ev) q
theorem rgn_ok {K : PySem.W.Frag} {t m : List Addr} {n : Nat} {H : Hp} (lo hi : Int) : RpA K fa t m n H (rgn lo hi) (rgV lo hi) := by
  unfold rgn rgV
  have : ∀ l : List Nat, RpA K fa t m n H (l.map fun (k : Nat) => U.int (lo + k)) (l.map fun i => V.int (lo + (i : Nat))) := by
    intro l
    induction l with
    | nil => exact .nil
    | cons x l ih => exact .cons (.int _) ih
  exact this _
/-- the bounds of a range that is collected -/
theorem rg1_rd {al : Bool} {c : Cl} {σV : L2.St} {H : Hp} {Q : VK} (hc : c = .list ∨ c = .tuple) (q : tE X.K fa n0 (evalE cal n0 (.col al c .rng [a])) σV H Q) :
    tRg1 (tE X.K fa n0 (evalE cal n0 a)) σV H fun lo hi H1 => RgOk lo hi ∧ ∃ t bs m μ u μ', Me X.K fa bs t m H1 μ ∧ evCol al μ c (rgn lo hi) = some (u, μ') ∧ Kn X.K fa bs t m H1 u μ' Q := by
  obtain ⟨t, bs, m, σ, μ, u, μ', hb, he, M, ev, k⟩ := q
  simp only [evalE] at ev
  split at ev
  · rename_i us μ1 e1
    split at ev
    · rename_i xs e2
      obtain ⟨w, rfl, e3⟩ := evalL_one e1
      refine seq1 hb he M e3 fun m1 H1 v1 x1 M1 r1 => ?_
      cases w with
      | int j =>
        have e4 : (if -(2 ^ 62) ≤ j ∧ j ≤ 2 ^ 24 then some (rgn 0 j) else none) = some xs := by
          rcases hc with rfl | rfl <;> exact e2
        split at e4
        · rename_i hj
          cases e4
          cases r1
          exact ⟨j, rfl, ⟨by omega, by omega, by omega, by omega, by omega⟩, t, bs, m1, μ1, u, μ', M1, ev, k.ex x1⟩
        · cases e4
      | _ => rcases hc with rfl | rfl <;> simp [items] at e2
    · cases ev
  · cases ev
theorem rg2_rd {al : Bool} {c : Cl} {σV : L2.St} {H : Hp} {Q : VK} (hc : c = .list ∨ c = .tuple) (q : tE X.K fa n0 (evalE cal n0 (.col al c .rng [a, b])) σV H Q) :
    tRg2 (tE X.K fa n0 (evalE cal n0 a)) (tE X.K fa n0 (evalE cal n0 b)) σV H fun lo hi H1 => RgOk lo hi ∧ ∃ t bs m μ u μ', Me X.K fa bs t m H1 μ ∧ evCol al μ c (rgn lo hi) = some (u, μ') ∧ Kn X.K fa bs t m H1 u μ' Q := by
  obtain ⟨t, bs, m, σ, μ, u, μ', hb, he, M, ev, k⟩ := q
  simp only [evalE] at ev
  split at ev
  · rename_i us μ1 e1
    split at ev
    · rename_i xs e2
      have hl := evalL_len e1
      match us, hl, e1, e2 with
      | [w1, w2], hl, e1, e2 =>
        simp only [evalL] at e1
        split at e1
        · rename_i y1 μ2 e3
          split at e1
          · rename_i e4
            split at e4
            · rename_i y2 μ3 e5
              cases e4
              cases e1
              refine seq2 hb he M e3 e5 fun m1 H1 v1 v2 x1 M1 r1 r2 => ?_
              have key : ∃ i j, w1 = .int i ∧ w2 = .int j ∧ (if -(2 ^ 62) ≤ i ∧ i < 2 ^ 62 ∧ -(2 ^ 62) ≤ j ∧ j < 2 ^ 62 ∧ (j - i).toNat ≤ 2 ^ 24 then some (rgn i j) else none) = some xs := by
                rcases hc with rfl | rfl
                · cases w1 <;> first | (simp [items] at e2; done) | (cases w2 <;> first | (simp [items] at e2; done) | exact ⟨_, _, rfl, rfl, e2⟩)
                · cases w1 <;> first | (simp [items] at e2; done) | (cases w2 <;> first | (simp [items] at e2; done) | exact ⟨_, _, rfl, rfl, e2⟩)
              obtain ⟨i, j, rfl, rfl, e6⟩ := key
              split at e6
              · rename_i hj
                cases e6
                cases r1
                cases r2
                exact ⟨i, j, rfl, rfl, ⟨hj.1, hj.2.1, hj.2.2.1, hj.2.2.2.1, hj.2.2.2.2⟩, t, bs, m1, _, u, μ', M1, ev, k.ex x1⟩
              · cases e6
            · cases e4
          · cases e1
        · cases e1
    · cases ev
  · cases ev
theorem col_lst {al : Bool} {t m : List Addr} {bs : List Nat} {H : Hp} {μ μ' : Mu} {u : U} {lo hi : Int} {Q : VK} (M : Me X.K fa bs t m H μ) (e : evCol al μ .list (rgn lo hi) = some (u, μ')) (k : Kn X.K fa bs t m H u μ' Q) : ∀ q, H q = none → Q (.ref q) (upd H q (.lst (rgV lo hi))) := fun q hq => by
  simp only [evCol] at e
  obtain ⟨rfl, rfl⟩ := Prod.mk.inj (Option.some.inj e)
  exact k.lst M hq (rgn_ok lo hi)
theorem col_tup {al : Bool} {t m : List Addr} {bs : List Nat} {H : Hp} {μ μ' : Mu} {u : U} {lo hi : Int} {Q : VK} (M : Me X.K fa bs t m H μ) (e : evCol al μ .tuple (rgn lo hi) = some (u, μ')) (k : Kn X.K fa bs t m H u μ' Q) : ∀ q, H q = none → Q (.ref q) (upd H q (.tup (rgV lo hi))) := fun q hq => by
  simp only [evCol] at e
  obtain ⟨rfl, rfl⟩ := Prod.mk.inj (Option.some.inj e)
  exact k.tup M hq (rgn_ok lo hi)
theorem tRg1_imp {ta : TE} {σ : L2.St} {H : Hp} {P R : Int → Int → Hp → Prop} (mono : ∀ (σ : L2.St) (H : Hp) (Q Q' : VK), (∀ v H', Q v H' → Q' v H') → ta σ H Q → ta σ H Q') (h : tRg1 ta σ H P) (hi : ∀ a b H', P a b H' → R a b H') : tRg1 ta σ H R :=
  mono σ H _ _ (fun _ _ ⟨n, e, p⟩ => ⟨n, e, hi _ _ _ p⟩) h
theorem tE_mono {K : PySem.W.Frag} {ev : Ev} {σ : L2.St} {H : Hp} {Q Q' : VK} (hq : ∀ v H', Q v H' → Q' v H') (h : tE K fa n0 ev σ H Q) : tE K fa n0 ev σ H Q' := by
  obtain ⟨t, bs, m, σ, μ, u, μ', hb, he, M, ev, k⟩ := h
  exact ⟨t, bs, m, σ, μ, u, μ', hb, he, M, ev, fun m' H' v x M' r => hq _ _ (k m' H' v x M' r)⟩
theorem e_list1 {al : Bool} (hc : X.calm = true) (hg : Gl X "list") (hm : X.mg "list" = none) (hgr : Gl X "range") (hmr : X.mg "range" = none) (ha : PEv X fa cal n0 xa a) (hk : okh xa = true) :
    PEv X fa cal n0 (.Call (.Name "list" p) [.Call (.Name "range" p2) [xa] [] pos2] [] pos) (.col al .list .rng [a]) :=
  (pe_listRg hc hg hm (prg_1 hgr hmr ha (okh_star hk)) (okh_star rfl)).imp fun σV H Q q =>
    tE_mono (fun v H' ⟨n, e, ok, t, bs, m, μ, u, μ', M, ec, k⟩ => ⟨n, e, ok, col_lst M ec k⟩) (rg1_rd (.inl rfl) q)
theorem e_tuple1 {al : Bool} (hc : X.calm = true) (hg : Gl X "tuple") (hm : X.mg "tuple" = none) (hgr : Gl X "range") (hmr : X.mg "range" = none) (ha : PEv X fa cal n0 xa a) (hk : okh xa = true) :
    PEv X fa cal n0 (.Call (.Name "tuple" p) [.Call (.Name "range" p2) [xa] [] pos2] [] pos) (.col al .tuple .rng [a]) :=
  (pe_tupRg hc hg hm (prg_1 hgr hmr ha (okh_star hk)) (okh_star rfl)).imp fun σV H Q q =>
    tE_mono (fun v H' ⟨n, e, ok, t, bs, m, μ, u, μ', M, ec, k⟩ => ⟨n, e, ok, col_tup M ec k⟩) (rg1_rd (.inr rfl) q)
theorem e_list2 {al : Bool} (hc : X.calm = true) (hg : Gl X "list") (hm : X.mg "list" = none) (hgr : Gl X "range") (hmr : X.mg "range" = none) (ha : PEv X fa cal n0 xa a) (hb : PEv X fa cal n0 xb b) (hk : okh xa = true) (hkb : okh xb = true) :
    PEv X fa cal n0 (.Call (.Name "list" p) [.Call (.Name "range" p2) [xa, xb] [] pos2] [] pos) (.col al .list .rng [a, b]) :=
  (pe_listRg hc hg hm (prg_2 hgr hmr ha hb (okh_star hk) (okh_star hkb) (okh_back (es := [xb]) (by simp [hkb]))) (okh_star rfl)).imp fun σV H Q q =>
    tE_mono (fun v H' h => tE_mono (fun w H'' ⟨i, j, e1, e2, ok, t, bs, m, μ, u, μ', M, ec, k⟩ => ⟨i, j, e1, e2, ok, col_lst M ec k⟩) h) (rg2_rd (.inl rfl) q)
theorem e_tuple2 {al : Bool} (hc : X.calm = true) (hg : Gl X "tuple") (hm : X.mg "tuple" = none) (hgr : Gl X "range") (hmr : X.mg "range" = none) (ha : PEv X fa cal n0 xa a) (hb : PEv X fa cal n0 xb b) (hk : okh xa = true) (hkb : okh xb = true) :
    PEv X fa cal n0 (.Call (.Name "tuple" p) [.Call (.Name "range" p2) [xa, xb] [] pos2] [] pos) (.col al .tuple .rng [a, b]) :=
  (pe_tupRg hc hg hm (prg_2 hgr hmr ha hb (okh_star hk) (okh_star hkb) (okh_back (es := [xb]) (by simp [hkb]))) (okh_star rfl)).imp fun σV H Q q =>
    tE_mono (fun v H' h => tE_mono (fun w H'' ⟨i, j, e1, e2, ok, t, bs, m, μ, u, μ', M, ec, k⟩ => ⟨i, j, e1, e2, ok, col_tup M ec k⟩) h) (rg2_rd (.inr rfl) q)
end
end R

set_option Elab.async false
set_option linter.all false
set_option maxRecDepth 100000
set_option maxHeartbeats 4000000
/-! R4: the checker that an expression of ours is an expression of the program; its soundness -/
namespace R
open PySem PySem.Spec PyProof.Rows L2

/-- what stands at the top -/
structure Gd where
  fa : Nat → Option Addr
  fns : List (Str × Nat)
  nums : List (Str × Int)
  bns : List Str
def opC : Bo → Operator → Bool
  | .add, .Add | .sub, .Sub | .mul, .Mult | .fdiv, .FloorDiv | .mod, .Mod | .pow, .Pow | .shl, .LShift | .shr, .RShift | .band, .BitAnd | .bor, .BitOr | .bxor, .BitXor => true
  | _, _ => false
theorem opC_ok {a : Bo} {b : Operator} (h : opC a b = true) : b = a.op := by cases a <;> cases b <;> first | rfl | cases h
def coC : Co → CmpOp → Bool
  | .eq, .Eq | .ne, .NotEq | .lt, .Lt | .le, .LtE | .gt, .Gt | .ge, .GtE | .isin, .In | .notin, .NotIn | .is_, .Is | .isnot, .IsNot => true
  | _, _ => false
theorem coC_ok {a : Co} {b : CmpOp} (h : coC a b = true) : b = a.op := by cases a <;> cases b <;> first | rfl | cases h
def boC : Bool → BoolOp → Bool
  | true, .And | false, .Or => true
  | _, _ => false
theorem boC_ok {a : Bool} {b : BoolOp} (h : boC a b = true) : b = bop a := by cases a <;> cases b <;> first | rfl | cases h
def isNonE : E → Bool
  | .non => true
  | _ => false
def isYesE : E → Bool
  | .bl true => true
  | _ => false
/-- seen from within -/
def visC (rs : Scope) (x : Str) : Bool := match rs.names.lookup x with
  | some .local => true
  | some .cell => true
  | some .free => true
  | _ => false
def glC (rs : Scope) (x : Str) : Bool := decide (rs.names.lookup x = some .globalImplicit) && !(x == ("__debug__" : Str))
def bnC (G : Gd) (rs : Scope) (x : Str) : Bool := glC rs x && decide (x ∈ G.bns)
def varC (N : List Str) (rs : Scope) (i : Nat) (x : Str) : Bool := decide (N[i]? = some x) && visC rs x && !(x == ("__debug__" : Str)) && !(x == ("__classdict__" : Str))
def asgC (N : List Str) (rs ws : Scope) (i : Nat) (x : Str) : Bool := decide (N[i]? = some x) && (decide (rs.names.lookup x = some .local) || (decide (rs.names.lookup x = some .cell) && decide (ws.names.lookup x = some .cell)))
mutual
def chkP (N : List Str) (rs ws : Scope) : Pt → Expr → Bool
  | .slot i, .Name x _ => asgC N rs ws i x
  | .tup ps, .Tuple xs _ _ => chkPs N rs ws ps xs
  | _, _ => false
def chkPs (N : List Str) (rs ws : Scope) : List Pt → List Expr → Bool
  | [], [] => true
  | p :: ps, x :: xs => chkP N rs ws p x && chkPs N rs ws ps xs
  | _, _ => false
end
def ownOf (N : List Str) (ws : List Nat) : List (Str × Nat) := ws.map fun i => (N[i]?.getD default, i)
theorem ownOf_snd (N : List Str) (ws : List Nat) : (ownOf N ws).map (·.2) = ws := by
  unfold ownOf
  rw [List.map_map]
  show ws.map (fun i => i) = ws
  simp
def blkC (N : List Str) (rs scope : Scope) (ws : List Nat) : Bool :=
  decide (scope.kind = .function) && scope.names.all (fun y => decide (scope.names.lookup y.1 = some y.2)) && (ownOf N ws).all (fun p => decide (N[p.2]? = some p.1)) &&
  scope.names.all (fun y => !decide (y.2 = .free) || decide (rs.names.lookup y.1 = some .cell) || decide (rs.names.lookup y.1 = some .free)) &&
  scope.names.all (fun y => !(decide (y.2 = .local) || decide (y.2 = .cell)) || decide (y.1 ∈ (ownOf N ws).map (·.1)) || decide (y.1 ∉ N))
theorem blkC_ok {N : List Str} {rs scope : Scope} {ws : List Nat} (h : blkC N rs scope ws = true) : BlkOk N rs scope (ownOf N ws) := by
  unfold blkC at h
  simp only [Bool.and_eq_true, decide_eq_true_eq, List.all_eq_true, Bool.or_eq_true, Bool.not_eq_true', decide_eq_false_iff_not, Bool.or_eq_false_iff] at h
  obtain ⟨⟨⟨⟨h1, h2⟩, h3⟩, h4⟩, h5⟩ := h
  refine ⟨h1, h2, h3, fun y hy e => ?_, fun y hy e => ?_⟩
  · rcases h4 y hy with (z | z) | z
    · exact absurd e z
    · exact .inl z
    · exact .inr z
  · rcases h5 y hy with (z | z) | z
    · rcases e with e | e
      · exact absurd e z.1
      · exact absurd e z.2
    · exact .inl z
    · exact .inr z
/-- the arguments of what is walked -/
def argsOf (G : Gd) (rs : Scope) (ik : Ik) (tup : Bool) (iter : Expr) : Option (List Expr) :=
  match ik with
    | .ex => some [iter]
    | .rng => match iter with
      | .Call (.Name f _) [a] [] _ => if (bnC G rs f && decide (f = ("range" : Str))) = true then some [a] else none
      | .Call (.Name f _) [a, b] [] _ => if (bnC G rs f && decide (f = ("range" : Str))) = true then some [a, b] else none
      | _ => none
    | .enm => match iter with
      | .Call (.Name f _) [a] [] _ => if (tup && bnC G rs f && decide (f = ("enumerate" : Str))) = true then some [a] else none
      | _ => none
    | .zip => match iter with
      | .Call (.Name f _) [a, b] [] _ => if (tup && bnC G rs f && decide (f = ("zip" : Str))) = true then some [a, b] else none
      | _ => none
def isTupE : Expr → Bool
  | .Tuple .. => true
  | _ => false
def Cl.nm : Cl → Str
  | .list => "list" | .tuple => "tuple" | .sorted => "sorted" | .dict _ => "dict"
def meC : Mt → Str → Nat → Bool
  | .append, n, k => decide (n = ("append" : Str)) && decide (1 ≤ k) && decide (k < 20)
  | .pop0, n, k => decide (n = ("pop" : Str)) && decide (k = 0)
  | .pop1, n, k => decide (n = ("pop" : Str)) && decide (1 ≤ k) && decide (k < 20)
  | .get2, n, k => decide (n = ("get" : Str)) && decide (1 ≤ k) && decide (k < 20)
  | _, _, _ => false

variable (G : Gd) (N : List Str)
mutual
def chkE (rs ws : Scope) : E → Expr → Bool
  | .var i, x => match x with
    | .Name x _ => varC N rs i x
    | _ => false
  | .non, x => match x with
    | .Constant .none _ _ => true
    | _ => false
  | .bl b, x => match x with
    | .Constant (.bool c) _ _ => decide (b = c)
    | _ => false
  | .int i, x => match x with
    | .Constant (.int j) _ _ => decide (i = j)
    | _ => false
  | .str z, x => match x with
    | .Constant (.str y) _ _ => decide (z = y)
    | _ => false
  | .gint i, x => match x with
    | .Name x _ => glC rs x && decide (G.nums.lookup x = some i)
    | _ => false
  | .fnv f, x => match x with
    | .Name x _ => glC rs x && decide (G.fns.lookup x = some f)
    | _ => false
  | .tup es, x => match x with
    | .Tuple xs _ _ => chkL rs ws es xs
    | _ => false
  | .lst _ es, x => match x with
    | .List xs _ => chkL rs ws es xs
    | _ => false
  | .dct _ tk es, x => match x with
    | .Dict keys vals _ => match flatE keys vals with
      | some r => chkL rs ws es r && decide (keys.length ≤ 15) && (keys.isEmpty || !tk)
      | none => false
    | _ => false
  | .bin _ op a b, x => match x with
    | .BinOp xa o xb _ => opC op o && chkE rs ws a xa && chkE rs ws b xb
    | _ => false
  | .neg a, x => match x with
    | .UnaryOp .USub xa _ => chkE rs ws a xa
    | _ => false
  | .cmp op a b, x => match x with
    | .Compare xa [o] [xb] _ => coC op o && chkE rs ws a xa && chkE rs ws b xb
    | _ => false
  | .chain op op' a b c, x => match x with
    | .Compare xa [o, o'] [xb, xc] _ => coC op o && coC op' o' && chkE rs ws a xa && chkE rs ws b xb && chkE rs ws c xc
    | _ => false
  | .bool and es, x => match x with
    | .BoolOp o xs _ => boC and o && !xs.isEmpty && chkL rs ws es xs
    | _ => false
  | .not a, x => match x with
    | .UnaryOp .Not xa _ => chkE rs ws a xa
    | _ => false
  | .ite c a b, x => match x with
    | .IfExp xc xa xb _ => chkE rs ws c xc && chkE rs ws a xa && chkE rs ws b xb
    | _ => false
  | .idx a i, x => match x with
    | .Subscript xa xi _ => chkE rs ws a xa && chkE rs ws i xi
    | _ => false
  | .slc _ a lo hi, x => match x with
    | .Subscript xa (.Slice xlo xhi none _) _ => chkE rs ws a xa && (match xlo with
      | some y => chkE rs ws lo y
      | none => isNonE lo) && (match xhi with
      | some y => chkE rs ws hi y
      | none => isNonE hi)
    | _ => false
  | .rev _ a, x => match x with
    | .Subscript xa (.Slice none none (some (.UnaryOp .USub (.Constant (.int j) _ _) _)) _) _ => decide (j = 1) && chkE rs ws a xa
    | _ => false
  | .comp _ p ik its c e vs, x => match x with
    | .ListComp elt [⟨tg, iter, ifs, z⟩] scope _ => decide (z = 0) && blkC N rs scope vs && (ptSlots p).all (fun i => decide (i ∈ vs)) && okh iter && chkP N (relS scope rs) scope p tg &&
      (match argsOf G rs ik (isTupE tg) iter with
        | some xs => chkL rs ws its xs
        | none => false) && (match ifs with
        | [] => isYesE c
        | [f] => chkE (relS scope rs) scope c f
        | _ => false) && chkE (relS scope rs) scope e elt
    | _ => false
  | .col _ c ik its, x => match x with
    | .Call (.Name f _) [arg] [] _ => bnC G rs f && decide (f = c.nm) && (match ik with
      | .ex => decide (c ≠ .dict true) && chkL rs ws its [arg]
      | .rng => (decide (c = .list) || decide (c = .tuple)) && okh arg && (match argsOf G rs .rng false arg with
        | some xs => chkL rs ws its xs
        | none => false)
      | _ => false)
    | _ => false
  | .call f es, x => match x with
    | .Call (.Name g _) xs [] _ => glC rs g && decide (G.fns.lookup g = some f) && chkL rs ws es xs
    | _ => false
  | .bi b es, x => match x with
    | .Call (.Name f _) xs [] _ => bnC G rs f && decide (f = b.nm) && !xs.isEmpty && chkL rs ws es xs
    | _ => false
  | .isi e t, x => match x with
    | .Call (.Name f _) [xa, .Name y _] [] _ => bnC G rs f && decide (f = ("isinstance" : Str)) && bnC G rs y && decide (y = t.st) && chkE rs ws e xa
    | _ => false
  | .me _ m a es, x => match x with
    | .Call (.Attribute xa nm apos) xs [] pos => okr xa && (apos.endLine == pos.line) && meC m nm xs.length && chkE rs ws a xa && chkL rs ws es xs
    | _ => false
def chkL (rs ws : Scope) : List E → List Expr → Bool
  | [], xs => xs.isEmpty
  | e :: es, xs => match xs with
    | x :: xs => chkE rs ws e x && chkL rs ws es xs
    | [] => false
end
end R

set_option Elab.async false
set_option linter.all false
set_option maxRecDepth 100000
set_option maxHeartbeats 4000000
/-! R4b: the checker is sound for expressions -/
namespace R
open PySem PySem.Spec PyProof.Rows L2

/-- a def's promise -/
def spU (K : PySem.W.Frag) (fa : Nat → Option Addr) (cal : Nat → List U → Mu → Option (U × Mu)) (i : Nat) : Sp := fun vs H Q _ => ∃ t bs m μ us u μ', Me K fa bs t m H μ ∧ RpA K fa t m m.length H us vs ∧ cal i us μ = some (u, μ') ∧ Kn K fa bs t m H u μ' Q
/-- the context in which the checker is sound -/
structure Ok (G : Gd) (cal : Nat → List U → Mu → Option (U × Mu)) (k : Nat) (N : List Str) (rs ws : Scope) (X : Cx) : Prop where
  calm : X.calm = true
  nm : X.N = N
  nd : N.Nodup
  sc : X.env.scope = rs
  fn : ∀ x, ws.names.lookup x = some .cell → X.fn x = true
  room : Room k X.A
  own : PassesOwn (model X.prog X.w) X.A X.env X.xe
  nums : ∀ x i, G.nums.lookup x = some i → ∃ t, X.mg x = some (.int i t)
  bns : ∀ x, x ∈ G.bns → X.mg x = none
  calls : ∀ x i, G.fns.lookup x = some i → ∃ f fd ps, X.mg x = some (.ref f) ∧ G.fa i = some f ∧ PySem.W.keepIn X.K (.ref f) = true ∧ Binds X.K fd ps [] ∧ FnOk X.prog X.w X.K X.mg X.base C8.CX0 k f fd ps (spU X.K G.fa cal i)

section
variable {G : Gd} {cal : Nat → List U → Mu → Option (U × Mu)} {k n0 : Nat} {N : List Str} {rs ws : Scope} {X : Cx}
theorem Ok.blk (h : Ok G cal k N rs ws X) (s : Shared) (H : Hp) (scope : Scope) (C : Addr) (cl : List (Str × Addr)) (fp : List Addr) : Ok G cal k N (relS scope rs) scope (X.blk s H scope (compEnvC scope cl C X.env) fp) where
  calm := h.calm
  nm := h.nm
  nd := h.nd
  sc := by rw [← h.sc]; rfl
  fn := fun x e => by
    show (scope.names.lookup x == some NameKind.cell) = true
    rw [e]; rfl
  room := h.room
  own := PassesOwn.never
  nums := h.nums
  bns := h.bns
  calls := h.calls
theorem Ok.hu (h : Ok G cal k N rs ws X) : X.A.units + 66 < cLine := room_eq h.room
theorem glC_ok (h : Ok G cal k N rs ws X) {x : Str} (c : glC rs x = true) : Gl X x ∧ (x == ("__debug__" : Str)) = false := by
  unfold glC at c
  simp only [Bool.and_eq_true, decide_eq_true_eq, Bool.not_eq_true'] at c
  refine ⟨?_, c.2⟩
  unfold Gl PySem.Env.kindOf
  rw [h.sc]
  exact c.1
theorem bnC_ok (h : Ok G cal k N rs ws X) {x : Str} (c : bnC G rs x = true) : Gl X x ∧ X.mg x = none := by
  unfold bnC at c
  simp only [Bool.and_eq_true, decide_eq_true_eq] at c
  exact ⟨(glC_ok h c.1).1, h.bns x c.2⟩
theorem varC_ok (h : Ok G cal k N rs ws X) {i : Nat} {x : Str} (c : varC N rs i x = true) : X.N[i]? = some x ∧ Vis X.env.scope x ∧ (x == ("__debug__" : Str)) = false ∧ (x == ("__classdict__" : Str)) = false := by
  unfold varC at c
  simp only [Bool.and_eq_true, decide_eq_true_eq, Bool.not_eq_true'] at c
  obtain ⟨⟨⟨c1, c2⟩, c3⟩, c4⟩ := c
  refine ⟨by rw [h.nm]; exact c1, ?_, c3, c4⟩
  unfold Vis
  rw [h.sc]
  unfold visC at c2
  split at c2
  · rename_i e; exact .inl e
  · rename_i e; exact .inr (.inl e)
  · rename_i e; exact .inr (.inr e)
  · cases c2
theorem asgC_ok (h : Ok G cal k N rs ws X) {i : Nat} {x : Str} (c : asgC N rs ws i x = true) : X.N[i]? = some x ∧ Loc X.env.scope x ∧ (X.fn x = true ∨ X.env.scope.names.lookup x = some .local) := by
  unfold asgC at c
  simp only [Bool.and_eq_true, decide_eq_true_eq, Bool.or_eq_true] at c
  refine ⟨by rw [h.nm]; exact c.1, ?_⟩
  unfold L2.Loc
  rw [h.sc]
  rcases c.2 with e | ⟨e, e2⟩
  · exact ⟨.inl e, .inr e⟩
  · exact ⟨.inr e, .inl (h.fn x e2)⟩
mutual
theorem okP (h : Ok G cal k N rs ws X) : ∀ (p : Pt) (x : Expr), chkP N rs ws p x = true → PG X x (tGp X.K G.fa p) ∧ okt x = true
  | .slot i, x, c => by
    cases x with
    | Name x pos =>
      simp only [chkP] at c
      obtain ⟨c1, c2, c3⟩ := asgC_ok h c
      exact ⟨g_slot (by rw [h.nm]; exact h.nd) c1 c2 c3, rfl⟩
    | _ => simp [chkP] at c
  | .tup ps, x, c => by
    cases x with
    | Tuple xs j pos =>
      simp only [chkP] at c
      obtain ⟨c1, c2, c3⟩ := okPs h ps xs c
      exact ⟨g_tup h.calm c1 c2 c3, rfl⟩
    | _ => simp [chkP] at c
theorem okPs (h : Ok G cal k N rs ws X) : ∀ (ps : List Pt) (xs : List Expr), chkPs N rs ws ps xs = true → PGs X xs (tGs X.K G.fa ps) ∧ xs.all okt = true ∧ xs.length = ps.length
  | [], xs, c => by
    cases xs with
    | nil => exact ⟨gs_nil, rfl, rfl⟩
    | cons => simp [chkPs] at c
  | p :: ps, xs, c => by
    cases xs with
    | nil => simp [chkPs] at c
    | cons x xs =>
      simp only [chkPs, Bool.and_eq_true] at c
      obtain ⟨a1, a2⟩ := okP h p x c.1
      obtain ⟨b1, b2, b3⟩ := okPs h ps xs c.2
      exact ⟨gs_cons a1 b1 a2, by simp [a2, b2], by simp [b3]⟩
end
theorem e_call {f : Nat} {es : List E} {g : Str} {xs : List Expr} {p pos : Pos} (h : Ok G cal k N rs ws X) (hg : Gl X g) (hd : (g == ("__debug__" : Str)) = false) (hf : G.fns.lookup g = some f) (ha : PAv X G.fa cal n0 xs es) (hk : xs.all okh = true) (hl : xs.length = es.length) :
    PEv X G.fa cal n0 (.Call (.Name g p) xs [] pos) (.call f es) := by
  obtain ⟨ad, fd, ps, h1, h2, h3, h4, F⟩ := h.calls g f hf
  have rd : ∀ {σV : L2.St} {H : Hp} {Q : VK}, tE X.K G.fa n0 (evalE cal n0 (.call f es)) σV H Q → tL X.K G.fa n0 (evalL cal n0 es) σV H fun vs H1 => spU X.K G.fa cal f (vs ++ []) H1 Q C8.E0 := by
    intro σV H Q q
    obtain ⟨t, bs, m, σ, μ, u, μ', hb, he, M, ev, kk⟩ := q
    simp only [evalE] at ev
    split at ev
    · rename_i us μ1 e1
      exact ⟨t, bs, m, σ, μ, us, μ1, hb, he, M, e1, fun m1 H1 vs x1 M1 ra => ⟨t, bs, m1, μ1, us, u, μ', M1, by rw [List.append_nil]; exact ra, ev, kk.ex x1⟩⟩
    · cases ev
  cases xs with
  | nil =>
    refine (pe_call0 F h.room hg h1 h3 h4 (dvs := []) .nil (E := C8.E0) C8.pass0 hd).imp fun σV H Q q => ?_
    have := rd q
    obtain ⟨t, bs, m, σ, μ, us, μ1, hb, he, M, e1, kk⟩ := this
    have : es = [] := by
      cases es with
      | nil => rfl
      | cons => simp at hl
    subst this
    simp only [evalL] at e1
    cases e1
    exact kk m H [] (Ex.refl _ _) M .nil
  | cons x xs =>
    simp only [List.all_cons, Bool.and_eq_true] at hk
    exact (pe_call F h.room hg h1 h3 h4 (dvs := []) .nil (E := C8.E0) C8.pass0 ha hd (okh_star hk.1) (okh_back hk.2)).imp fun σV H Q q => rd q

/-! ### the checker -/
def Both (X : Cx) (fa : Nat → Option Addr) (cal : Nat → List U → Mu → Option (U × Mu)) (n0 : Nat) (x : Expr) (e : E) : Prop := PEv X fa cal n0 x e ∧ PTv X fa cal n0 x e ∧ okh x = true
inductive AllE (X : Cx) (fa : Nat → Option Addr) (cal : Nat → List U → Mu → Option (U × Mu)) (n0 : Nat) : List Expr → List E → Prop
  | nil : AllE X fa cal n0 [] []
  | cons {x : Expr} {e : E} {xs : List Expr} {es : List E} : Both X fa cal n0 x e → AllE X fa cal n0 xs es → AllE X fa cal n0 (x :: xs) (e :: es)
variable {fa : Nat → Option Addr}
theorem AllE.pa : ∀ {xs : List Expr} {es : List E}, AllE X fa cal n0 xs es → PAv X fa cal n0 xs es
  | _, _, .nil => a_nil
  | _, _, .cons h r => a_cons h.1 r.pa h.2.2
theorem AllE.okh : ∀ {xs : List Expr} {es : List E}, AllE X fa cal n0 xs es → xs.all R.okh = true
  | _, _, .nil => rfl
  | _, _, .cons h r => by simp [h.2.2, r.okh]
theorem AllE.len : ∀ {xs : List Expr} {es : List E}, AllE X fa cal n0 xs es → xs.length = es.length
  | _, _, .nil => rfl
  | _, _, .cons h r => by simp [r.len]
theorem AllE.at_ : ∀ {xs : List Expr} {es : List E}, AllE X fa cal n0 xs es → ∀ (i : Nat) x e, xs[i]? = some x → es[i]? = some e → PEv X fa cal n0 x e
  | _, _, .nil, i, x, e, h, _ => by simp at h
  | _, _, .cons h r, 0, x, e, h1, h2 => by simp at h1 h2; subst h1 h2; exact h.1
  | _, _, .cons h r, i + 1, x, e, h1, h2 => r.at_ i x e (by simpa using h1) (by simpa using h2)
theorem AllE.bool {and : Bool} {pos : Pos} : ∀ {xs : List Expr} {es : List E}, AllE X fa cal n0 xs es → xs ≠ [] → PBv X fa cal n0 (.BoolOp (bop and) xs pos) and es ∧ PBw X fa cal n0 (.BoolOp (bop and) xs pos) and es
  | _, _, .nil, h => absurd rfl h
  | _, _, .cons h .nil, _ => ⟨b_one h.1, w_one h.2.1⟩
  | _, _, .cons h (.cons h2 r), _ => let ⟨a, b⟩ := AllE.bool (.cons h2 r) (by simp); ⟨b_cons h.1 a, w_cons h.2.1 b⟩
/-- what is walked -/
theorem i_of {ik : Ik} {its : List E} {iter tg : Expr} {xs : List Expr} (h : Ok G cal k N rs ws X) (e : argsOf G rs ik (isTupE tg) iter = some xs) (ha : AllE X G.fa cal n0 xs its) : PIv X G.fa cal n0 tg iter ik its := by
  unfold argsOf at e
  split at e
  · cases e
    match its, ha with
    | [_], .cons h1 .nil => exact i_ex h1.1
  · split at e
    · split at e
      · rename_i c
        simp only [Bool.and_eq_true, decide_eq_true_eq] at c
        obtain ⟨c1, rfl⟩ := c
        cases e
        match its, ha with
        | [_], .cons h1 .nil => exact i_rng1 (bnC_ok h c1).1 (bnC_ok h c1).2 h1.1 h1.2.2
      · cases e
    · split at e
      · rename_i c
        simp only [Bool.and_eq_true, decide_eq_true_eq] at c
        obtain ⟨c1, rfl⟩ := c
        cases e
        match its, ha with
        | [_, _], .cons h1 (.cons h2 .nil) => exact i_rng2 (bnC_ok h c1).1 (bnC_ok h c1).2 h1.1 h2.1 h1.2.2 h2.2.2
      · cases e
    · cases e
  · split at e
    · split at e
      · rename_i c
        simp only [Bool.and_eq_true, decide_eq_true_eq] at c
        obtain ⟨⟨c0, c1⟩, rfl⟩ := c
        cases e
        cases tg with
        | Tuple ts j p =>
          match its, ha with
          | [_], .cons h1 .nil => exact i_enm (bnC_ok h c1).1 (bnC_ok h c1).2 h1.1 h1.2.2
        | _ => simp [isTupE] at c0
      · cases e
    · cases e
  · split at e
    · split at e
      · rename_i c
        simp only [Bool.and_eq_true, decide_eq_true_eq] at c
        obtain ⟨⟨c0, c1⟩, rfl⟩ := c
        cases e
        cases tg with
        | Tuple ts j p =>
          match its, ha with
          | [_, _], .cons h1 (.cons h2 .nil) => exact i_zip (bnC_ok h c1).1 (bnC_ok h c1).2 h1.1 h2.1 h1.2.2 h2.2.2
        | _ => simp [isTupE] at c0
      · cases e
    · cases e
theorem both_plain {x : Expr} {e : E} (h : PEv X fa cal n0 x e) (hk : R.okh x = true) (he : ∀ whole, PySem.isTrue x X.env whole = (do let v ← whole; standAt x.pos; holding [v] (truthy v))) : Both X fa cal n0 x e := ⟨h, t_of_e h he, hk⟩

/-- a list comprehension, seen -/
structure LcOk (G : Gd) (cal : Nat → List U → Mu → Option (U × Mu)) (n0 : Nat) (X : Cx) (elt tg iter : Expr) (ifs : List Expr) (scope : Scope) (p : Pt) (ik : Ik) (its : List E) (c e : E) (vs : List Nat) : Prop where
  hi : PIv X G.fa cal n0 tg iter ik its
  ok : BlkOk X.N X.env.scope scope (ownOf X.N vs)
  hg : ∀ (s : Shared) (H : Hp) (C : Addr) (cl : List (Str × Addr)) (fp : List Addr), PG (X.blk s H scope (compEnvC scope cl C X.env) fp) tg (tGp X.K G.fa p)
  ht : ∀ (s : Shared) (H : Hp) (C : Addr) (cl : List (Str × Addr)) (fp : List Addr), PTs (X.blk s H scope (compEnvC scope cl C X.env) fp) ifs (tT X.K G.fa n0 (evalE cal n0 c))
  he : ∀ (s : Shared) (H : Hp) (C : Addr) (cl : List (Str × Addr)) (fp : List Addr), PE (X.blk s H scope (compEnvC scope cl C X.env) fp) elt (tE X.K G.fa n0 (evalE cal n0 e))
  hk : okh iter = true
  hws : ∀ i ∈ ptSlots p, i ∈ vs
theorem LcOk.pe {elt tg iter : Expr} {ifs : List Expr} {scope : Scope} {p : Pt} {ik : Ik} {its : List E} {c e : E} {vs : List Nat} {al : Bool} {pos : Pos} (h : Ok G cal k N rs ws X) (q : LcOk G cal n0 X elt tg iter ifs scope p ik its c e vs) :
    PEv X G.fa cal n0 (.ListComp elt [⟨tg, iter, ifs, 0⟩] scope pos) (.comp al p ik its c e vs) := by
  have := e_comp (al := al) (pos := pos) h.calm (by rw [h.nm]; exact h.nd) q.hi q.ok q.hg q.ht q.he q.hk (by rw [ownOf_snd]; exact q.hws)
  rw [ownOf_snd] at this
  exact this
theorem isYesE_ok {c : E} (h : isYesE c = true) : c = .bl true := by
  cases c with
  | bl b => cases b <;> first | rfl | cases h
  | _ => cases h
theorem isNonE_ok {c : E} (h : isNonE c = true) : c = .non := by
  cases c <;> first | rfl | cases h
theorem isTrue_plainH {x : Expr} {env : PySem.Env} {whole : Sem Value} (h : match x with
    | .UnaryOp .Not _ _ => False
    | .BoolOp .. => False
    | .IfExp .. => False
    | .Compare .. => False
    | _ => True) : PySem.isTrue x env whole = (do let v ← whole; standAt x.pos; holding [v] (truthy v)) := by
  cases x with
  | UnaryOp op a p => cases op <;> first | rfl | exact h.elim
  | BoolOp => exact h.elim
  | IfExp => exact h.elim
  | Compare => exact h.elim
  | _ => rfl
mutual
theorem okE : ∀ (e : E) {rs ws : Scope} {X : Cx} (x : Expr), Ok G cal k N rs ws X → chkE G N rs ws e x = true → Both X G.fa cal n0 x e
  | .var i, rs, ws, X, x, h, c => by
    cases x with
    | Name y pos =>
      simp only [chkE] at c
      obtain ⟨c1, c2, c3, c4⟩ := varC_ok h c
      exact both_plain (e_var c1 c2 c3 c4) rfl fun _ => rfl
    | _ => simp [chkE] at c
  | .non, rs, ws, X, x, h, c => by
    simp only [chkE] at c
    split at c
    · exact both_plain e_non rfl fun _ => rfl
    · cases c
  | .bl b, rs, ws, X, x, h, c => by
    simp only [chkE] at c
    split at c
    · have := of_decide_eq_true c
      subst this
      exact both_plain e_bl rfl fun _ => rfl
    · cases c
  | .int i, rs, ws, X, x, h, c => by
    simp only [chkE] at c
    split at c
    · have := of_decide_eq_true c
      subst this
      exact both_plain e_int rfl fun _ => rfl
    · cases c
  | .str z, rs, ws, X, x, h, c => by
    simp only [chkE] at c
    split at c
    · have := of_decide_eq_true c
      subst this
      exact both_plain e_str rfl fun _ => rfl
    · cases c
  | .gint i, rs, ws, X, x, h, c => by
    simp only [chkE] at c
    split at c
    · simp only [Bool.and_eq_true, decide_eq_true_eq] at c
      obtain ⟨g, d⟩ := glC_ok h c.1
      exact both_plain (e_gint g (h.nums _ _ c.2) d) rfl fun _ => rfl
    · cases c
  | .fnv f, rs, ws, X, x, h, c => by
    simp only [chkE] at c
    split at c
    · simp only [Bool.and_eq_true, decide_eq_true_eq] at c
      obtain ⟨g, d⟩ := glC_ok h c.1
      obtain ⟨ad, fd, ps, h1, h2, _⟩ := h.calls _ _ c.2
      exact both_plain (e_fnv g h1 h2 d) rfl fun _ => rfl
    · cases c
  | .tup es, rs, ws, X, x, h, c => by
    simp only [chkE] at c
    split at c
    · exact both_plain (e_tup (okL es _ h c).pa) rfl fun _ => rfl
    · cases c
  | .lst al es, rs, ws, X, x, h, c => by
    simp only [chkE] at c
    split at c
    · exact both_plain (e_lst (okL es _ h c).pa) rfl fun _ => rfl
    · cases c
  | .dct al tk es, rs, ws, X, x, h, c => by
    simp only [chkE] at c
    split at c
    · rename_i keys vals pos
      split at c
      · rename_i r e
        simp only [Bool.and_eq_true, decide_eq_true_eq, Bool.or_eq_true, Bool.not_eq_true'] at c
        obtain ⟨⟨c1, c2⟩, c3⟩ := c
        have A := okL es _ h c1
        cases keys with
        | nil =>
          cases vals with
          | nil =>
            cases e
            cases A
            exact both_plain e_dnew rfl fun _ => rfl
          | cons => simp [flatE] at e
        | cons k1 ks =>
          rcases c3 with c3 | c3
          · simp at c3
          · subst c3
            exact both_plain (e_dct e A.at_ A.len (by simp) c2) rfl fun _ => rfl
      · cases c
    · cases c
  | .bin al op a b, rs, ws, X, x, h, c => by
    simp only [chkE] at c
    split at c
    · simp only [Bool.and_eq_true] at c
      have e := opC_ok c.1.1
      subst e
      exact both_plain (e_bin (okE a _ h c.1.2).1 (okE b _ h c.2).1) rfl fun _ => rfl
    · cases c
  | .neg a, rs, ws, X, x, h, c => by
    simp only [chkE] at c
    split at c
    · exact both_plain (e_neg (okE a _ h c).1) rfl fun _ => rfl
    · cases c
  | .cmp op a b, rs, ws, X, x, h, c => by
    simp only [chkE] at c
    split at c
    · simp only [Bool.and_eq_true] at c
      have e := coC_ok c.1.1
      subst e
      have A := okE a _ h c.1.2
      have B := okE b _ h c.2
      exact ⟨e_cmp h.hu A.1 B.1 B.2.2, t_cmp h.hu A.1 B.1 B.2.2, rfl⟩
    · cases c
  | .chain op op' a b c', rs, ws, X, x, h, c => by
    simp only [chkE] at c
    split at c
    · simp only [Bool.and_eq_true] at c
      obtain ⟨⟨⟨⟨c1, c2⟩, c3⟩, c4⟩, c5⟩ := c
      have e := coC_ok c1
      subst e
      have e := coC_ok c2
      subst e
      have A := okE a _ h c3
      have B := okE b _ h c4
      have C := okE c' _ h c5
      exact ⟨e_chain h.hu A.1 B.1 C.1 C.2.2, t_chain h.hu A.1 B.1 C.1 C.2.2, rfl⟩
    · cases c
  | .bool and es, rs, ws, X, x, h, c => by
    simp only [chkE] at c
    split at c
    · rename_i o xs pos
      simp only [Bool.and_eq_true, Bool.not_eq_true'] at c
      have e := boC_ok c.1.1
      subst e
      have A := okL es _ h c.2
      obtain ⟨p, q⟩ := A.bool (pos := pos) (and := and) (by intro z; subst z; simp at c)
      exact ⟨e_bool p, t_bool q, rfl⟩
    · cases c
  | .not a, rs, ws, X, x, h, c => by
    simp only [chkE] at c
    split at c
    · have A := okE a _ h c
      exact ⟨e_not A.1, t_not A.2.1, rfl⟩
    · cases c
  | .ite c' a b, rs, ws, X, x, h, c => by
    simp only [chkE] at c
    split at c
    · simp only [Bool.and_eq_true] at c
      have C := okE c' _ h c.1.1
      have A := okE a _ h c.1.2
      have B := okE b _ h c.2
      exact ⟨e_ite C.2.1 A.1 B.1, t_ite C.2.1 A.2.1 B.2.1, rfl⟩
    · cases c
  | .idx a i, rs, ws, X, x, h, c => by
    simp only [chkE] at c
    split at c
    · simp only [Bool.and_eq_true] at c
      have A := okE a _ h c.1
      have B := okE i _ h c.2
      exact both_plain (e_idx h.hu A.1 B.1 B.2.2) rfl fun _ => rfl
    · cases c
  | .slc al a lo hi, rs, ws, X, x, h, c => by
    simp only [chkE] at c
    split at c
    · simp only [Bool.and_eq_true] at c
      obtain ⟨⟨c1, c2⟩, c3⟩ := c
      have A := okE a _ h c1
      refine both_plain (e_slc A.1 ?_ ?_) rfl fun _ => rfl
      · split at c2
        · exact pov_some (okE lo _ h c2).1
        · rw [isNonE_ok c2]; exact pov_none
      · split at c3
        · exact pov_some (okE hi _ h c3).1
        · rw [isNonE_ok c3]; exact pov_none
    · cases c
  | .rev al a, rs, ws, X, x, h, c => by
    simp only [chkE] at c
    split at c
    · simp only [Bool.and_eq_true, decide_eq_true_eq] at c
      obtain ⟨rfl, c2⟩ := c
      exact both_plain (e_revL (okE a _ h c2).1) rfl fun _ => rfl
    · cases c
  | .comp al p ik its c' e vs, rs, ws, X, x, h, c => by
    simp only [chkE] at c
    split at c
    · rename_i elt tg iter ifs z scope pos
      simp only [Bool.and_eq_true, decide_eq_true_eq, List.all_eq_true] at c
      obtain ⟨⟨⟨⟨⟨⟨⟨rfl, c2⟩, c3⟩, c4⟩, c5⟩, c6⟩, c7⟩, c8⟩ := c
      have q : LcOk G cal n0 X elt tg iter ifs scope p ik its c' e vs := by
        refine ⟨?_, ?_, fun s H C cl fp => ?_, fun s H C cl fp => ?_, fun s H C cl fp => ?_, c4, c3⟩
        · split at c6
          · rename_i xs e1
            exact i_of h e1 (okL its _ h c6)
          · cases c6
        · rw [h.nm, h.sc]; exact blkC_ok c2
        · exact (okP (h.blk s H scope C cl fp) p tg c5).1
        · split at c7
          · rw [isYesE_ok c7]; exact pts_yes
          · exact pts_one (okE c' _ (h.blk s H scope C cl fp) c7).2.1
          · cases c7
        · exact (okE e _ (h.blk s H scope C cl fp) c8).1
      exact both_plain (q.pe h) rfl fun _ => rfl
    · cases c
  | .col al cl ik its, rs, ws, X, x, h, c => by
    simp only [chkE] at c
    split at c
    · rename_i f p1 arg pos
      simp only [Bool.and_eq_true, decide_eq_true_eq] at c
      obtain ⟨⟨c1, rfl⟩, c3⟩ := c
      obtain ⟨g, m⟩ := bnC_ok h c1
      refine both_plain ?_ rfl fun _ => rfl
      split at c3
      · simp only [Bool.and_eq_true, decide_eq_true_eq] at c3
        have A := okL its _ h c3.2
        match its, A with
        | [_], .cons h1 .nil =>
          match cl, g, m, c3 with
          | .list, g, m, _ => exact e_list h.calm g m h1.1 h1.2.2
          | .tuple, g, m, _ => exact e_tuple g m h1.1 h1.2.2
          | .sorted, g, m, _ => exact e_sorted h.calm h.hu g m h1.1 h1.2.2
          | .dict false, g, m, _ => exact e_dict h.calm g m h1.1 h1.2.2
          | .dict true, g, m, c3 => exact absurd rfl c3.1
      · simp only [Bool.and_eq_true, Bool.or_eq_true, decide_eq_true_eq] at c3
        obtain ⟨⟨c4, c5⟩, c6⟩ := c3
        split at c6
        · rename_i xs e1
          have A := okL its _ h c6
          unfold argsOf at e1
          simp only at e1
          split at e1
          · split at e1
            · rename_i cc
              simp only [Bool.and_eq_true, decide_eq_true_eq] at cc
              obtain ⟨cc1, rfl⟩ := cc
              obtain ⟨gr, mr⟩ := bnC_ok h cc1
              cases e1
              match its, A with
              | [_], .cons h1 .nil =>
                rcases c4 with rfl | rfl
                · exact e_list1 h.calm g m gr mr h1.1 h1.2.2
                · exact e_tuple1 h.calm g m gr mr h1.1 h1.2.2
            · cases e1
          · split at e1
            · rename_i cc
              simp only [Bool.and_eq_true, decide_eq_true_eq] at cc
              obtain ⟨cc1, rfl⟩ := cc
              obtain ⟨gr, mr⟩ := bnC_ok h cc1
              cases e1
              match its, A with
              | [_, _], .cons h1 (.cons h2 .nil) =>
                rcases c4 with rfl | rfl
                · exact e_list2 h.calm g m gr mr h1.1 h2.1 h1.2.2 h2.2.2
                · exact e_tuple2 h.calm g m gr mr h1.1 h2.1 h1.2.2 h2.2.2
            · cases e1
          · cases e1
        · cases c6
      · cases c3
    · cases c
  | .call f es, rs, ws, X, x, h, c => by
    simp only [chkE] at c
    split at c
    · simp only [Bool.and_eq_true, decide_eq_true_eq] at c
      obtain ⟨g, d⟩ := glC_ok h c.1.1
      have A := okL es _ h c.2
      exact both_plain (e_call h g d c.1.2 A.pa A.okh A.len) rfl fun _ => rfl
    · cases c
  | .bi b es, rs, ws, X, x, h, c => by
    simp only [chkE] at c
    split at c
    · rename_i f p1 xs pos
      simp only [Bool.and_eq_true, decide_eq_true_eq, Bool.not_eq_true'] at c
      obtain ⟨⟨⟨c1, rfl⟩, c3⟩, c4⟩ := c
      obtain ⟨g, m⟩ := bnC_ok h c1
      have A := okL es _ h c4
      cases xs with
      | nil => simp at c3
      | cons x xs =>
        have hk := A.okh
        simp only [List.all_cons, Bool.and_eq_true] at hk
        exact both_plain (e_bi h.calm h.hu g m A.pa hk.1 hk.2) rfl fun _ => rfl
    · cases c
  | .isi e t, rs, ws, X, x, h, c => by
    simp only [chkE] at c
    split at c
    · simp only [Bool.and_eq_true, decide_eq_true_eq] at c
      obtain ⟨⟨⟨⟨c1, rfl⟩, c3⟩, rfl⟩, c5⟩ := c
      obtain ⟨g, m⟩ := bnC_ok h c1
      obtain ⟨g2, m2⟩ := bnC_ok h c3
      have A := okE e _ h c5
      exact both_plain (e_isi g m g2 m2 A.1 A.2.2) rfl fun _ => rfl
    · cases c
  | .me al me a es, rs, ws, X, x, h, c => by
    simp only [chkE] at c
    split at c
    · rename_i xa nm apos xs pos
      simp only [Bool.and_eq_true] at c
      obtain ⟨⟨⟨⟨c1, c2⟩, c3⟩, c4⟩, c5⟩ := c
      have A := okE a _ h c4
      have B := okL es _ h c5
      have hk := B.okh
      have hl := B.len
      refine both_plain ?_ rfl fun _ => rfl
      cases xs with
      | nil =>
        cases me <;> simp [meC] at c3
        subst c3
        cases es with
        | nil => exact e_pop0 A.1 c1 c2
        | cons => simp at hl
      | cons x xs =>
        simp only [List.all_cons, Bool.and_eq_true] at hk
        cases me <;> simp [meC] at c3
        · obtain ⟨rfl, c6⟩ := c3
          exact e_append A.1 B.pa c1 hk.1 hk.2 (by omega) c2
        · obtain ⟨rfl, c6⟩ := c3
          exact e_pop1 A.1 B.pa c1 hk.1 hk.2 (by omega) c2
        · obtain ⟨rfl, c6⟩ := c3
          exact e_get2 h.hu A.1 B.pa c1 hk.1 hk.2 (by omega) c2
    · cases c
theorem okL : ∀ (es : List E) {rs ws : Scope} {X : Cx} (xs : List Expr), Ok G cal k N rs ws X → chkL G N rs ws es xs = true → AllE X G.fa cal n0 xs es
  | [], rs, ws, X, xs, h, c => by
    cases xs with
    | nil => exact .nil
    | cons => simp [chkL] at c
  | e :: es, rs, ws, X, xs, h, c => by
    cases xs with
    | nil => simp [chkL] at c
    | cons x xs =>
      simp only [chkL, Bool.and_eq_true] at c
      exact .cons (okE e x h c.1) (okL es xs h c.2)
end
end
end R

set_option Elab.async false
set_option linter.all false
set_option maxRecDepth 100000
set_option maxHeartbeats 4000000
/-! R4c: the checker for statements, sound -/
namespace R
open PySem PySem.Spec PyProof.Rows L2

/-- does a list comprehension change places with the store of its name -/
def swL (rs : Scope) (t : Str) (tl vl : Nat) (sc : Scope) : Bool := (rs.names.lookup t == some .local) && (tl == vl) && !(sc.names.any fun (n, k) => n == t && (k == .local || k == .cell))
def isCompE : E → Bool
  | .comp .. => true
  | _ => false
def nodup2 (i j : Nat) : Bool := decide (i ≠ j)
def locC (N : List Str) (rs : Scope) (i : Nat) (x : Str) : Bool := decide (N[i]? = some x) && decide (rs.names.lookup x = some .local)
variable (G : Gd) (N : List Str) (rs ws : Scope)
def chkPar (is : List Nat) (tg v : Expr) : Bool :=
  match is, tg, v with
    | [i, j], .Tuple [.Name x px, .Name y py] kt pt, .Tuple [xa, xb] k2 pt2 => locC N rs i x && locC N rs j y && decide (i ≠ j) && decide (swF rs [.Name x px, .Name y py] [xa, xb] = some (some [x, y]))
    | [i, j, l], .Tuple [.Name x px, .Name y py, .Name z pz] kt pt, .Tuple [xa, xb, xc] k2 pt2 => locC N rs i x && locC N rs j y && locC N rs l z && decide (i ≠ j) && decide (i ≠ l) && decide (j ≠ l) && decide (swF rs [.Name x px, .Name y py, .Name z pz] [xa, xb, xc] = some (some [x, y, z]))
    | _, _, _ => false
def tupsOf : Expr → List Expr
  | .Tuple xs _ _ => xs
  | _ => []
mutual
def chkS : S → Stmt → Bool
  | .set i e, x => match x with
    | .Assign [.Name y py] xe pos => asgC N rs ws i y && chkE G N rs ws e xe && (noLc xe || (match xe with
      | .ListComp _ _ sc lp => swL rs y py.line lp.line sc || !swL rs y py.line lp.line sc
      | _ => false))
    | _ => false
  | .par is es, x => match x with
    | .Assign [tg] xe _ => chkPar N rs is tg xe && chkL G N rs ws es (tupsOf xe)
    | _ => false
  | .asg p e, x => match x with
    | .Assign [tg] xe _ => chkP N rs ws p tg && chkE G N rs ws e xe && noLc xe && (noSw tg xe || (isTupE tg && isTupE xe && decide (swF rs (tupsOf tg) (tupsOf xe) = some none)))
    | _ => false
  | .sub a i e, x => match x with
    | .Assign [.Subscript xa xi _] xe _ => chkE G N rs ws a xa && chkE G N rs ws i xi && chkE G N rs ws e xe && noLc xe
    | _ => false
  | .ex e, x => match x with
    | .Expr xe _ => chkE G N rs ws e xe && noLc xe
    | _ => false
  | .ret e, x => match x with
    | .Return (some xe) _ => chkE G N rs ws e xe
    | .Return none _ => isNonE e
    | _ => false
  | .iff c t f, x => match x with
    | .If xc xt xf _ => chkE G N rs ws c xc && chkB t xt && chkB f xf
    | _ => false
  | .for_ p ik its b, x => match x with
    | .For tg iter xb [] _ => chkP N rs ws p tg && okh iter && (match argsOf G rs ik (isTupE tg) iter with
      | some xs => chkL G N rs ws its xs
      | none => false) && chkB b xb
    | _ => false
  | .wh c b, x => match x with
    | .While xc xb [] _ => chkE G N rs ws c xc && chkB b xb
    | _ => false
  | .pass, x => match x with
    | .Pass _ => true
    | .Expr (.Constant (.str _) _ _) _ => true
    | _ => false
  | .brk, x => match x with
    | .Break _ => true
    | _ => false
  | .cont, x => match x with
    | .Continue _ => true
    | _ => false
  | .stuck, _ => true
def chkB : List S → List Stmt → Bool
  | [], xs => xs.isEmpty
  | s :: ss, xs => match xs with
    | x :: xs => chkS s x && chkB ss xs
    | [] => false
end
end R
namespace R
open PySem PySem.Spec PyProof.Rows L2
section
variable {G : Gd} {cal : Nat → List U → Mu → Option (U × Mu)} {k n0 : Nat} {N : List Str} {rs ws : Scope} {X : Cx}
theorem locC_ok (h : Ok G cal k N rs ws X) {i : Nat} {x : Str} (c : locC N rs i x = true) : X.N[i]? = some x ∧ X.env.scope.names.lookup x = some .local := by
  unfold locC at c
  simp only [Bool.and_eq_true, decide_eq_true_eq] at c
  rw [h.nm, h.sc]
  exact c
theorem okPar {is : List Nat} {es : List E} {tg xe : Expr} {pos : Pos} (h : Ok G cal k N rs ws X) (hk : X.env.scope.kind = .function) (c : chkPar N rs is tg xe = true) (A : AllE X G.fa cal n0 (tupsOf xe) es) : PSv X G.fa cal n0 (.Assign [tg] xe pos) (.par is es) := by
  unfold chkPar at c
  split at c
  · simp only [Bool.and_eq_true, decide_eq_true_eq] at c
    obtain ⟨⟨⟨c1, c2⟩, c3⟩, c4⟩ := c
    obtain ⟨a1, a2⟩ := locC_ok h c1
    obtain ⟨b1, b2⟩ := locC_ok h c2
    exact s_par2 h.calm (by rw [h.nm]; exact h.nd) a1 b1 c3 a2 b2 A.pa (sw_ok hk (by rw [h.sc]; exact c4))
  · simp only [Bool.and_eq_true, decide_eq_true_eq] at c
    obtain ⟨⟨⟨⟨⟨⟨c1, c2⟩, c3⟩, c4⟩, c5⟩, c6⟩, c7⟩ := c
    obtain ⟨a1, a2⟩ := locC_ok h c1
    obtain ⟨b1, b2⟩ := locC_ok h c2
    obtain ⟨d1, d2⟩ := locC_ok h c3
    exact s_par3 h.calm (by rw [h.nm]; exact h.nd) a1 b1 d1 c4 c5 c6 a2 b2 d2 A.pa (sw_ok hk (by rw [h.sc]; exact c7))
  · cases c
/-- the parts of a checked list comprehension -/
theorem lc_of {al : Bool} {p : Pt} {ik : Ik} {its : List E} {c' e : E} {vs : List Nat} {elt : Expr} {gens : List Comprehension} {scope : Scope} {pos : Pos} (h : Ok G cal k N rs ws X) (c : chkE G N rs ws (.comp al p ik its c' e vs) (.ListComp elt gens scope pos) = true) :
    ∃ tg iter ifs, gens = [⟨tg, iter, ifs, 0⟩] ∧ LcOk G cal n0 X elt tg iter ifs scope p ik its c' e vs := by
  match gens, c with
  | [⟨tg, iter, ifs, z⟩], c =>
    simp only [chkE, Bool.and_eq_true, decide_eq_true_eq, List.all_eq_true] at c
    obtain ⟨⟨⟨⟨⟨⟨⟨rfl, c2⟩, c3⟩, c4⟩, c5⟩, c6⟩, c7⟩, c8⟩ := c
    refine ⟨tg, iter, ifs, rfl, ?_, ?_, fun s H C cl fp => ?_, fun s H C cl fp => ?_, fun s H C cl fp => ?_, c4, c3⟩
    · split at c6
      · rename_i xs e1
        exact i_of h e1 (okL its _ h c6)
      · cases c6
    · rw [h.nm, h.sc]; exact blkC_ok c2
    · exact (okP (h.blk s H scope C cl fp) p tg c5).1
    · split at c7
      · rw [isYesE_ok c7]; exact pts_yes
      · exact pts_one (okE c' _ (h.blk s H scope C cl fp) c7).2.1
      · cases c7
    · exact (okE e _ (h.blk s H scope C cl fp) c8).1
  | [], c => simp [chkE] at c
  | _ :: _ :: _, c => simp [chkE] at c
theorem swL_ok {env : PySem.Env} {t : Str} {tp vp : Pos} {l : Nat} {elt : Expr} {gens : List Comprehension} {sc : Scope} (hk : env.scope.kind = .function) : swapsWith (.ListComp elt gens sc vp) (some (.Name t tp)) l env = pure (swL env.scope t tp.line vp.line sc) := by
  have hb : env.blockKind = .function := by unfold PySem.Env.blockKind; rw [hk]; rfl
  unfold swapsWith swL PySem.Env.kindOf
  simp only [hb]
  rfl
theorem okSet {i : Nat} {e : E} {y : Str} {py pos : Pos} {xe : Expr} (h : Ok G cal k N rs ws X) (hk : X.env.scope.kind = .function) (c1 : asgC N rs ws i y = true) (c2 : chkE G N rs ws e xe = true) (c3 : noLc xe = true ∨ ∃ a b c d, xe = .ListComp a b c d) : PSv X G.fa cal n0 (.Assign [.Name y py] xe pos) (.set i e) := by
  obtain ⟨a1, a2, a3⟩ := asgC_ok h c1
  have hN : X.N.Nodup := by rw [h.nm]; exact h.nd
  have B := okE (n0 := n0) e xe h c2
  rcases c3 with c3 | ⟨elt, gens, sc, vp, rfl⟩
  · exact s_set hN a1 a2 a3 B.1 (noLc_sw c3 B.2.2)
  · have hs := swL_ok (env := X.env) (t := y) (tp := py) (vp := vp) (l := pos.line) (elt := elt) (gens := gens) (sc := sc) hk
    cases hb : swL X.env.scope y py.line vp.line sc with
    | false =>
      rw [hb] at hs
      exact s_set hN a1 a2 a3 B.1 hs
    | true =>
      rw [hb] at hs
      have hl : X.env.scope.names.lookup y = some .local := by
        unfold swL at hb
        simp only [Bool.and_eq_true, beq_iff_eq] at hb
        exact hb.1.1
      cases e with
      | comp al p ik its c' e vs =>
        obtain ⟨tg, iter, ifs, rfl, q⟩ := lc_of (n0 := n0) h c2
        have := s_setLc (al := al) (py := py) (spos := pos) (pos := vp) h.calm hN a1 hl hs q.hi q.ok q.hg q.ht q.he q.hk (by rw [ownOf_snd]; exact q.hws)
        rw [ownOf_snd] at this
        exact this
      | _ => simp [chkE] at c2
theorem isTup_eq {x : Expr} (h : isTupE x = true) : ∃ k p, x = .Tuple (tupsOf x) k p := by
  cases x <;> first | exact ⟨_, _, rfl⟩ | cases h
mutual
theorem okS (h : Ok G cal k N rs ws X) (hk : X.env.scope.kind = .function) : ∀ (s : S) (x : Stmt), chkS G N rs ws s x = true → PSv X G.fa cal n0 x s
  | .set i e, x, c => by
    simp only [chkS] at c
    split at c
    · rename_i y py xe pos
      simp only [Bool.and_eq_true, Bool.or_eq_true] at c
      refine okSet h hk c.1.1 c.1.2 ?_
      rcases c.2 with c3 | c3
      · exact .inl c3
      · split at c3
        · exact .inr ⟨_, _, _, _, rfl⟩
        · cases c3
    · cases c
  | .par is es, x, c => by
    simp only [chkS] at c
    split at c
    · simp only [Bool.and_eq_true] at c
      exact okPar h hk c.1 (okL es _ h c.2)
    · cases c
  | .asg p e, x, c => by
    simp only [chkS] at c
    split at c
    · rename_i tg xe pos
      simp only [Bool.and_eq_true, Bool.or_eq_true, decide_eq_true_eq] at c
      obtain ⟨⟨⟨c1, c2⟩, c3⟩, c4⟩ := c
      obtain ⟨p1, p2⟩ := okP h p tg c1
      have B := okE (n0 := n0) e xe h c2
      refine s_asg p1 B.1 B.2.2 p2 c3 ?_
      rcases c4 with c4 | ⟨⟨c4, c5⟩, c6⟩
      · exact noSw_ok c4
      · obtain ⟨k1, q1, e1⟩ := isTup_eq c4
        obtain ⟨k2, q2, e2⟩ := isTup_eq c5
        rw [e1, e2]
        exact sw_ok hk (by rw [h.sc]; exact c6)
    · cases c
  | .sub a i e, x, c => by
    simp only [chkS] at c
    split at c
    · simp only [Bool.and_eq_true] at c
      obtain ⟨⟨⟨c1, c2⟩, c3⟩, c4⟩ := c
      have A := okE (n0 := n0) a _ h c1
      have B := okE (n0 := n0) i _ h c2
      have C := okE (n0 := n0) e _ h c3
      exact s_sub h.hu A.1 B.1 C.1 B.2.2 C.2.2 c4
    · cases c
  | .ex e, x, c => by
    simp only [chkS] at c
    split at c
    · simp only [Bool.and_eq_true] at c
      have A := okE (n0 := n0) e _ h c.1
      exact s_ex A.1 A.2.2 c.2
    · cases c
  | .ret e, x, c => by
    simp only [chkS] at c
    split at c
    · exact s_ret (okE e _ h c).1
    · rw [isNonE_ok c]; exact s_retN
    · cases c
  | .iff c' t f, x, c => by
    simp only [chkS] at c
    split at c
    · simp only [Bool.and_eq_true] at c
      exact s_if (okE c' _ h c.1.1).2.1 (okB h hk t _ c.1.2) (okB h hk f _ c.2)
    · cases c
  | .for_ p ik its b, x, c => by
    simp only [chkS] at c
    split at c
    · simp only [Bool.and_eq_true] at c
      obtain ⟨⟨⟨c1, c2⟩, c3⟩, c4⟩ := c
      split at c3
      · rename_i xs e1
        exact s_for h.own h.calm (i_of h e1 (okL its _ h c3)) (okP h p _ c1).1 (okB h hk b _ c4) c2
      · cases c3
    · cases c
  | .wh c' b, x, c => by
    simp only [chkS] at c
    split at c
    · simp only [Bool.and_eq_true] at c
      exact s_wh h.own (okE c' _ h c.1).2.1 (okB h hk b _ c.2)
    · cases c
  | .pass, x, c => by
    simp only [chkS] at c
    split at c
    · exact s_pass
    · exact s_doc
    · cases c
  | .brk, x, c => by
    simp only [chkS] at c
    split at c
    · exact s_brk
    · cases c
  | .cont, x, c => by
    simp only [chkS] at c
    split at c
    · exact s_cont
    · cases c
  | .stuck, x, c => s_never
theorem okB (h : Ok G cal k N rs ws X) (hk : X.env.scope.kind = .function) : ∀ (ss : List S) (xs : List Stmt), chkB G N rs ws ss xs = true → PLv X G.fa cal n0 xs ss
  | [], xs, c => by
    cases xs with
    | nil => exact l_nil
    | cons => simp [chkB] at c
  | s :: ss, xs, c => by
    cases xs with
    | nil => simp [chkB] at c
    | cons x xs =>
      simp only [chkB, Bool.and_eq_true] at c
      exact l_cons (okS h hk s x c.1) (okB h hk ss xs c.2)
end
end
end R

set_option Elab.async false
set_option linter.all false
set_option maxRecDepth 100000
set_option maxHeartbeats 4000000
/-! R5: defs keep their promises at every level; what the law's walk asks -/
namespace R
open PySem PySem.Spec PyProof.Rows L2

section
variable {K : PySem.W.Frag} {fa : Nat → Option Addr} {t m m' : List Addr} {n n' : Nat} {H H' : Hp} {bs : List Nat} {μ μ' : Mu}
/-- the bounds of a callee -/
def bsIn (bs : List Nat) (l : Nat) : List Nat := bs ++ List.replicate (l - bs.length) l
theorem bsIn_len {l : Nat} (h : bs.length ≤ l) : (bsIn bs l).length = l := by simp [bsIn]; omega
theorem bsIn_lt {l i : Nat} (h : i < bs.length) : (bsIn bs l)[i]? = bs[i]? := by
  unfold bsIn
  rw [List.getElem?_append_left h]
theorem bsIn_mid {l i : Nat} (h : bs.length ≤ i) (h2 : i < l) : (bsIn bs l)[i]? = some l := by
  unfold bsIn
  rw [List.getElem?_append_right h, List.getElem?_replicate]
  simp
  omega
theorem bsIn_out {l i : Nat} (h : bs.length ≤ l) (h2 : l ≤ i) : (bsIn bs l)[i]? = none := by
  rw [List.getElem?_eq_none_iff, bsIn_len h]
  exact h2
/-- a call begins -/
theorem Me.enter (M : Me K fa bs t m H μ) : Me K fa (bsIn bs m.length) t m H μ := by
  refine ⟨M.len, by rw [bsIn_len M.low]; exact Nat.le_refl _, M.nd, fun i a o h1 h2 => ?_, fun i b hb => ?_, M.tt⟩
  · have q := M.ct i a o h1 h2
    have hi : i < m.length := (List.getElem?_eq_some_iff.mp h1).1
    by_cases h : i < bs.length
    · rw [bsIn_lt h]; exact q
    · rw [bsIn_mid (by omega) hi]
      rw [List.getElem?_eq_none_iff.mpr (by omega)] at q
      exact q
  · rw [bsIn_len M.low]
    by_cases h : i < bs.length
    · rw [bsIn_lt h] at hb
      exact Nat.le_trans (M.bd i b hb) M.low
    · by_cases h2 : i < m.length
      · rw [bsIn_mid (by omega) h2] at hb; cases hb; exact Nat.le_refl _
      · rw [bsIn_out M.low (by omega)] at hb; cases hb
/-- a call ends, all objects kept -/
theorem Me.leave (hl : bs.length ≤ m.length) (hbd : ∀ (i b : Nat), bs[i]? = some b → b ≤ bs.length) (M : Me K fa (bsIn bs m.length) t m' H' μ') : Me K fa bs t m' H' μ' := by
  have hlow := M.low
  rw [bsIn_len hl] at hlow
  refine ⟨M.len, by omega, M.nd, fun i a o h1 h2 => ?_, hbd, M.tt⟩
  have q := M.ct i a o h1 h2
  refine q.ex (Ex.refl _ _) ?_ rfl
  by_cases h : i < bs.length
  · rw [bsIn_lt h]; exact Nat.le_refl _
  · have hn : bs[i]? = none := List.getElem?_eq_none_iff.mpr (by omega)
    rw [hn]
    by_cases h2 : i < m.length
    · rw [bsIn_mid (by omega) h2]; exact hlow
    · rw [bsIn_out hl (by omega)]; exact Nat.le_refl _
mutual
theorem Rp.shrink {r : List Addr} (hn : n ≤ m.length) : ∀ {u : U} {v : V}, Rp K fa t (m ++ r) n H u v → Rp K fa t m n H u v
  | _, _, .non => .non
  | _, _, .bl b => .bl b
  | _, _, .int i => .int i
  | _, _, .str x => .str x
  | _, _, .tup h q => .tup ⟨h.1, fun z => h.2.1 (List.mem_append_left _ z), h.2.2⟩ (RpA.shrink hn q)
  | _, _, .lst h q => .lst ⟨h.1, fun z => h.2.1 (List.mem_append_left _ z), h.2.2⟩ (RpA.shrink hn q)
  | _, _, .dK h a z q => .dK h (fun y => a (List.mem_append_left _ y)) z (RpA.shrink hn q)
  | _, _, .dT h a z q => .dT h (fun y => a (List.mem_append_left _ y)) z (RpA.shrink hn q)
  | _, _, .ob hi h => .ob hi (by rw [List.getElem?_append_left (by omega)] at h; exact h)
  | _, _, .fn h => .fn h
  | _, _, .scr h => .scr (h.elim (fun q => .inl ⟨q.1, fun z => q.2.1 (List.mem_append_left _ z), q.2.2⟩) .inr)
theorem RpA.shrink {r : List Addr} (hn : n ≤ m.length) : ∀ {us : List U} {vs : List V}, RpA K fa t (m ++ r) n H us vs → RpA K fa t m n H us vs
  | _, _, .nil => .nil
  | _, _, .cons h q => .cons (Rp.shrink hn h) (RpA.shrink hn q)
end
theorem Ct.shrink {r : List Addr} (hn : n ≤ m.length) {a : Addr} {o : U} (h : Ct K fa t (m ++ r) n H a o) : Ct K fa t m n H a o := by
  cases h with
  | lst h q => exact .lst h (q.shrink hn)
  | dK h q => exact .dK h (q.shrink hn)
  | dT h q => exact .dT h (q.shrink hn)
/-- a call ends, its own objects dropped -/
theorem Me.drop {r : List Addr} (hl : bs.length ≤ m.length) (hbd : ∀ (i b : Nat), bs[i]? = some b → b ≤ bs.length) (M : Me K fa (bsIn bs m.length) t (m ++ r) H' μ') : Me K fa bs t m H' (μ'.take m.length) := by
  have hlen := M.len
  rw [List.length_append] at hlen
  refine ⟨by simp; omega, hl, ?_, fun i a o h1 h2 => ?_, hbd, fun a ha => ?_⟩
  · have := M.nd
    rw [List.nodup_append] at this
    exact this.1
  · have hi : i < m.length := (List.getElem?_eq_some_iff.mp h1).1
    rw [List.getElem?_take_of_lt hi] at h2
    have q := M.ct i a o (by rw [List.getElem?_append_left hi]; exact h1) h2
    by_cases h : i < bs.length
    · rw [bsIn_lt h] at q
      cases hb : bs[i]? with
      | none => rw [List.getElem?_eq_none_iff] at hb; omega
      | some b =>
        rw [hb] at q
        exact q.shrink (Nat.le_trans (hbd i b hb) hl)
    · rw [bsIn_mid (by omega) hi] at q
      rw [List.getElem?_eq_none_iff.mpr (by omega)]
      exact q.shrink (Nat.le_refl _)
  · obtain ⟨h1, h2⟩ := M.tt a ha
    exact ⟨fun z => h1 (List.mem_append_left _ z), h2⟩
theorem Ex.drop {r : List Addr} (e : Ex m H (m ++ r) H') : Ex m H m H' := ⟨⟨[], by simp⟩, e.keep, fun a h n => absurd h n⟩
/-- frozen -/
theorem frz_ok {r : List Addr} {cs : List Nat} (M : Me K fa cs t (m ++ r) H' μ') : ∀ (k : Nat),
    (∀ (u w : U) (v : V), frz m.length μ' k u = some w → Rp K fa t (m ++ r) (m ++ r).length H' u v → Rp K fa t m m.length H' w v) ∧
    (∀ (us ws : List U) (vs : List V), mapO (frz m.length μ' k) us = some ws → RpA K fa t (m ++ r) (m ++ r).length H' us vs → RpA K fa t m m.length H' ws vs) := by
  intro k
  induction k with
  | zero =>
    have one : ∀ (u w : U) (v : V), frz m.length μ' 0 u = some w → Rp K fa t (m ++ r) (m ++ r).length H' u v → Rp K fa t m m.length H' w v := by
      intro u w v e q
      cases q with
      | non => simp [frz] at e; subst e; exact .non
      | bl b => simp [frz] at e; subst e; exact .bl b
      | int b => simp [frz] at e; subst e; exact .int b
      | str b => simp [frz] at e; subst e; exact .str b
      | fn h => simp [frz] at e; subst e; exact .fn h
      | scr h => simp [frz] at e; subst e; exact .scr (h.elim (fun q => .inl ⟨q.1, fun z => q.2.1 (List.mem_append_left _ z), q.2.2⟩) .inr)
      | tup => simp [frz] at e
      | lst => simp [frz] at e
      | dK => simp [frz] at e
      | dT => simp [frz] at e
      | ob => simp [frz] at e
    refine ⟨one, fun us => ?_⟩
    induction us with
    | nil => intro ws vs e q; cases e; cases q; exact .nil
    | cons u us ih =>
      intro ws vs e q
      obtain ⟨z, zs, e1, e2, rfl⟩ := mapO_cons e
      cases q with
      | cons a b => exact .cons (one _ _ _ e1 a) (ih _ _ e2 b)
  | succ k ih0 =>
    obtain ⟨ih1, ih2⟩ := ih0
    have one : ∀ (u w : U) (v : V), frz m.length μ' (k + 1) u = some w → Rp K fa t (m ++ r) (m ++ r).length H' u v → Rp K fa t m m.length H' w v := by
      intro u w v e q
      cases q with
      | non => simp [frz] at e; subst e; exact .non
      | bl b => simp [frz] at e; subst e; exact .bl b
      | int b => simp [frz] at e; subst e; exact .int b
      | str b => simp [frz] at e; subst e; exact .str b
      | fn h => simp [frz] at e; subst e; exact .fn h
      | scr h => simp [frz] at e; subst e; exact .scr (h.elim (fun q => .inl ⟨q.1, fun z => q.2.1 (List.mem_append_left _ z), q.2.2⟩) .inr)
      | tup f ra =>
        simp only [frz] at e
        split at e
        · rename_i ys e2
          cases e
          exact .tup ⟨f.1, fun z => f.2.1 (List.mem_append_left _ z), f.2.2⟩ (ih2 _ _ _ e2 ra)
        · cases e
      | lst f ra =>
        simp only [frz] at e
        split at e
        · rename_i ys e2
          cases e
          exact .lst ⟨f.1, fun z => f.2.1 (List.mem_append_left _ z), f.2.2⟩ (ih2 _ _ _ e2 ra)
        · cases e
      | dK f g h ra =>
        simp only [frz] at e
        split at e
        · rename_i ys e2
          cases e
          exact .dK f (fun z => g (List.mem_append_left _ z)) h (ih2 _ _ _ e2 ra)
        · cases e
      | dT f g h ra =>
        simp only [frz] at e
        split at e
        · rename_i ys e2
          cases e
          exact .dT f (fun z => g (List.mem_append_left _ z)) h (ih2 _ _ _ e2 ra)
        · cases e
      | @ob i a hi ha =>
        simp only [frz] at e
        split at e
        · rename_i hlt
          cases e
          exact .ob hlt (by rw [List.getElem?_append_left hlt] at ha; exact ha)
        · rename_i hge
          have key : ∀ o, μ'[i]? = some o → a ∉ m ∧ a ∉ t ∧ Ct K fa t (m ++ r) (m ++ r).length H' a o := by
            intro o e2
            obtain ⟨a', ea, hm2, c⟩ := M.objF (.ob hi ha) e2
            cases ea
            refine ⟨fun z => ?_, fun z => (M.tt a z).1 (List.mem_of_getElem? hm2), c⟩
            have nd := M.nd
            rw [List.nodup_append] at nd
            rw [List.getElem?_append_right (by omega)] at ha
            exact nd.2.2 a z a (List.mem_of_getElem? ha) rfl
          split at e
          · rename_i xs e2
            obtain ⟨nm, nt, c⟩ := key _ e2
            split at e
            · rename_i ys e3
              cases e
              cases c with
              | lst hH ra => exact .lst ⟨hH, nm, nt⟩ (ih2 _ _ _ e3 ra)
            · cases e
          · rename_i ks xs e2
            obtain ⟨nm, nt, c⟩ := key _ e2
            split at e
            · rename_i ys e3
              cases e
              cases c with
              | dK hH ra => exact .dK hH nm nt (ih2 _ _ _ e3 ra)
            · cases e
          · rename_i ks xs e2
            obtain ⟨nm, nt, c⟩ := key _ e2
            split at e
            · rename_i ys e3
              cases e
              cases c with
              | dT hH ra => exact .dT hH nm nt (ih2 _ _ _ e3 ra)
            · cases e
          · cases e
    refine ⟨one, fun us => ?_⟩
    induction us with
    | nil => intro ws vs e q; cases e; cases q; exact .nil
    | cons u us ih =>
      intro ws vs e q
      obtain ⟨z, zs, e1, e2, rfl⟩ := mapO_cons e
      cases q with
      | cons a b => exact .cons (one _ _ _ e1 a) (ih _ _ e2 b)

theorem fin_ok {keep : Bool} {w u : U} {μ1 : Mu} {Q : VK} (M : Me K fa bs t m H μ) (kk : Kn K fa bs t m H u μ' Q) (ev : finish keep μ.length w μ1 = some (u, μ')) {m1 : List Addr} {H1 : Hp} {v : V} (x : Ex m H m1 H1) (M1 : Me K fa (bsIn bs m.length) t m1 H1 μ1) (r : Rp K fa t m1 m1.length H1 w v) : Q v H1 := by
  unfold finish at ev
  split at ev
  · cases ev
    exact kk m1 H1 v x (Me.leave M.low M.bd M1) r
  · split at ev
    · rename_i z e
      cases ev
      obtain ⟨rr, rfl⟩ := x.pre
      rw [← M.len] at e
      exact kk m H1 v x.drop (by rw [← M.len]; exact M1.drop M.low M.bd) ((frz_ok M1 D0).1 w _ v e r)
    · cases ev
end

/-! ### the defs -/
/-- a def of the program, its names (the parameters first), its form in our language -/
structure Pd where
  glob : Str
  name : Str
  st : Stmt
  names : List Str
  params : List Str
  df : Df
/-- what is seen of a def's text alone -/
def pdC (G : Gd) (d : Pd) : Bool :=
  C8.scC d.names d.params (defScope d.st) && chkB G d.names (defScope d.st) (defScope d.st) d.df.body (defBody d.st) && decide (d.names.length = d.df.ns) && decide (d.params.length = d.df.ps)
/-- what is seen of the written part -/
structure PdOk (K : PySem.W.Frag) (G : Gd) (i : Nat) (d : Pd) : Prop where
  ex : ∃ f fd, FunD K d.name d.name (defArgs d.st) (defBody d.st) (defScope d.st) [] [] f fd ∧ G.fa i = some f ∧ PySem.W.keepIn K (.ref f) = true ∧ Binds K fd d.params []
structure GdOk (K : PySem.W.Frag) (mg : Str → Option Value) (G : Gd) (pd : List Pd) : Prop where
  defs : ∀ i d, pd[i]? = some d → PdOk K G i d
  fns : ∀ x i, G.fns.lookup x = some i → i < pd.length ∧ ∃ f, mg x = some (.ref f) ∧ G.fa i = some f
  nums : ∀ x i, G.nums.lookup x = some i → ∃ t, mg x = some (.int i t)
  bns : ∀ x, x ∈ G.bns → mg x = none
section
variable {P : Program} {w : World} {K : PySem.W.Frag} {mg : Str → Option Value} {base : Heap} {G : Gd} {pd : List Pd}
theorem start_ok {fa : Nat → Option Addr} {t m : List Addr} {H : Hp} {N : List Str} {us : List U} {vs : List V} {ns ps : Nat} (ra : RpA K fa t m m.length H us vs) (hn : N.length = ns) (hp : us.length = ps) (hle : ps ≤ ns) : EnvR K fa t m H (us.map some ++ List.replicate (ns - ps) none) (L2.start N vs) := by
  have hl := ra.length
  refine ⟨by simp [L2.start]; omega, fun i u h => ?_⟩
  by_cases hi : i < us.length
  · rw [List.getElem?_append_left (by simpa using hi), List.getElem?_map] at h
    cases e : us[i]? with
    | none => rw [e] at h; cases h
    | some u' =>
      rw [e] at h
      cases h
      obtain ⟨v, hv, r⟩ := ra.get e
      refine ⟨v, ?_, r⟩
      unfold L2.start
      rw [List.getElem?_append_left (by rw [List.length_map, ← hl]; exact hi), List.getElem?_map, hv]
      rfl
  · rw [List.getElem?_append_right (by simpa using Nat.le_of_not_lt hi), List.getElem?_replicate] at h
    split at h <;> cases h
theorem lev (GO : GdOk K mg G pd) (hC : ∀ d ∈ pd, pdC G d = true) : ∀ (k i : Nat) (d : Pd), pd[i]? = some d →
    ∃ f fd, G.fa i = some f ∧ PySem.W.keepIn K (.ref f) = true ∧ Binds K fd d.params [] ∧ FnOk P w K mg base C8.CX0 k f fd d.params (spU K G.fa (runF (pd.map (·.df)) k) i) ∧ FunD K d.name d.name (defArgs d.st) (defBody d.st) (defScope d.st) [] [] f fd := by
  intro k
  induction k with
  | zero =>
    intro i d hd
    obtain ⟨f, fd, F, hf, kp, hb⟩ := (GO.defs i d hd).ex
    refine ⟨f, fd, hf, kp, hb, ⟨fun vs H Q E h => ?_, fun A outer s H args us vs Q E hr he hb hv h => ?_⟩, F⟩
    · obtain ⟨t, bs, m, μ, us, u, μ', M, ra, ev, kk⟩ := h
      simp [runF] at ev
    · obtain ⟨t, bs, m, μ, us, u, μ', M, ra, ev, kk⟩ := h
      simp [runF] at ev
  | succ k ih =>
    intro i d hd
    obtain ⟨f, fd, F, hf, kp, hb⟩ := (GO.defs i d hd).ex
    have hc := hC d (List.mem_of_getElem? hd)
    unfold pdC at hc
    simp only [Bool.and_eq_true, decide_eq_true_eq] at hc
    obtain ⟨⟨⟨c1, c2⟩, c3⟩, c4⟩ := hc
    have S := C8.fnScope_by c1
    have hdf : (pd.map (·.df))[i]? = some d.df := by rw [List.getElem?_map, hd]; rfl
    have hle : d.df.ps ≤ d.df.ns := by
      have := congrArg List.length S.pre
      rw [List.length_take] at this
      omega
    have step : ∀ {us : List U} {μ μ' : Mu} {u : U}, runF (pd.map (·.df)) (k + 1) i us μ = some (u, μ') → us.length = d.df.ps ∧ ∃ o, exL (runF (pd.map (·.df)) k) μ.length d.df.body (us.map some ++ List.replicate (d.df.ns - d.df.ps) none) μ = some o ∧
        ((∃ z μ1, o = .rt z μ1 ∧ finish d.df.keep μ.length z μ1 = some (u, μ')) ∨ ∃ σ μ1, o = .nx σ μ1 ∧ finish d.df.keep μ.length .non μ1 = some (u, μ')) := by
      intro us μ μ' u ev
      simp only [runF, hdf] at ev
      split at ev
      · rename_i hl
        refine ⟨hl, ?_⟩
        split at ev
        · rename_i z μ1 e; exact ⟨_, e, .inl ⟨z, μ1, rfl, ev⟩⟩
        · rename_i σ μ1 e; exact ⟨_, e, .inr ⟨σ, μ1, rfl, ev⟩⟩
        · cases ev
      · cases ev
    refine ⟨f, fd, hf, kp, hb, FunD.ok F S (fun vs H Q E h => ?_) (fun cdv A outer s H vs Q E hr h => ?_), F⟩
    · obtain ⟨t, bs, m, μ, us, u, μ', M, ra, ev, kk⟩ := h
      rw [← ra.length, (step ev).1, c4]
    · obtain ⟨t, bs, m, μ, us, u, μ', M, ra, ev, kk⟩ := h
      obtain ⟨hl, o, eo, ho⟩ := step ev
      have ok : Ok G (runF (pd.map (·.df)) k) k d.names (defScope d.st) (defScope d.st) (cxOf C8.CX0 P w K mg base d.names d.name (defScope d.st) f cdv A outer s H E).nox :=
        { calm := rfl, nm := rfl, nd := S.nd, sc := rfl, fn := fun _ _ => rfl, room := hr, own := PassesOwn.never, nums := GO.nums, bns := GO.bns,
          calls := fun x j e => by
            obtain ⟨hj, g, hg, hgf⟩ := GO.fns x j e
            obtain ⟨g', fd', h1, h2, h3, h4, _⟩ := ih j pd[j] (List.getElem?_eq_getElem hj)
            rw [hgf] at h1
            cases h1
            exact ⟨g, fd', _, hg, hgf, h2, h3, h4⟩ }
      refine ⟨_, PSs.nox (okB (n0 := μ.length) ok S.kind d.df.body _ c2), ?_⟩
      refine ⟨t, bsIn bs m.length, m, _, μ, o, by rw [bsIn_len M.low, M.len], start_ok ra c3 hl hle, M.enter, eo, ?_⟩
      rcases ho with ⟨z, μ1, rfl, ef⟩ | ⟨σ, μ1, rfl, ef⟩
      · exact fun m1 H1 v x M1 r => fin_ok M kk ef x M1 r
      · exact fun m1 H1 σV x M1 _ => fin_ok M kk ef x M1 .non

/-! ### the end -/
/-- the arguments of a call are bound in their order -/
def BdOk (d : Pd) : Prop := ∀ (kV doc pm : Value) (an : Option Addr) (cdv ct : Value) (us : List Value), us.length = d.params.length → bindArgs (PySem.W.fnOf d.name d.name (defArgs d.st) (defBody d.st) (defScope d.st) .none kV doc pm an cdv ct) ⟨us, []⟩ = pure (d.params.zip us)
def BdAll : List Pd → Prop
  | [] => True
  | d :: ds => BdOk d ∧ BdAll ds
theorem BdAll.at_ : ∀ {ds : List Pd} {i : Nat} {d : Pd}, BdAll ds → ds[i]? = some d → BdOk d
  | [], _, _, _, h => by simp at h
  | d :: ds, 0, _, h, e => by simp at e; subst e; exact h.1
  | d :: ds, i + 1, _, h, e => h.2.at_ (by simpa using e)
def fnD (pd : List Pd) : List He.DefD := pd.map fun d => ⟨(d.glob, none), d.name, d.name, defArgs d.st, defBody d.st, defScope d.st, [], []⟩
def factsOf (fns : List (Str × Nat)) (nums : List (Str × Int)) (bns : List Str) : List He.Fa := fns.map (fun p => .glo p.1) ++ (nums.map (fun p => .int p.1 p.2) ++ bns.map .free)
def gdOf (K : PySem.W.Frag) (pd : List Pd) (fns : List (Str × Nat)) (nums : List (Str × Int)) (bns : List Str) : Gd := ⟨fun i => (pd[i]?).map fun d => He.ga K d.glob, fns, nums, bns⟩
theorem lookup_mem {α : Type} : ∀ {l : List (Str × α)} {x : Str} {a : α}, l.lookup x = some a → (x, a) ∈ l
  | [], _, _, h => by simp at h
  | (y, b) :: l, x, a, h => by
    rw [List.lookup_cons] at h
    cases e : x == y with
    | true =>
      rw [e] at h
      cases h
      rw [beq_iff_eq.mp e]
      exact List.mem_cons_self
    | false =>
      rw [e] at h
      exact List.mem_cons_of_mem _ (lookup_mem h)
theorem gd_ok {h : Heap} {fns : List (Str × Nat)} {nums : List (Str × Int)} {bns : List Str} (X : K.In h) (Gm : h.Ns mainGlobals mg) (c : He.SaysD (factsOf fns nums bns) (fnD pd) K) (hb : BdAll pd) (hf : fns.all (fun p => decide ((pd[p.2]?).map (·.glob) = some p.1)) = true) :
    GdOk K mg (gdOf K pd fns nums bns) pd := by
  have fact : ∀ f ∈ factsOf fns nums bns, f.ok K = true := fun f hf => by
    obtain ⟨i, hi⟩ := List.mem_iff_getElem?.mp hf
    exact c.fact i hi
  refine ⟨fun i d hd => ?_, fun x i e => ?_, fun x i e => ?_, fun x e => ?_⟩
  · have hi : (fnD pd)[i]? = some ⟨(d.glob, none), d.name, d.name, defArgs d.st, defBody d.st, defScope d.st, [], []⟩ := by
      unfold fnD
      rw [List.getElem?_map, hd]
      rfl
    obtain ⟨fd, F⟩ := c.def_ i hi
    exact ⟨_, fd, F, by show (pd[i]?).map _ = _; rw [hd]; rfl, F.kp, F.bindsN (hb.at_ hd)⟩
  · have hm := lookup_mem e
    have h1 := List.all_eq_true.mp hf (x, i) hm
    have h2 : (pd[i]?).map (·.glob) = some x := of_decide_eq_true h1
    cases hd : pd[i]? with
    | none => rw [hd] at h2; cases h2
    | some d =>
      rw [hd] at h2
      have h3 : d.glob = x := Option.some.inj h2
      refine ⟨(List.getElem?_eq_some_iff.mp hd).1, He.ga K x, He.glo_ok X Gm (fact (.glo x) ?_), ?_⟩
      · unfold factsOf
        exact List.mem_append_left _ (List.mem_map.mpr ⟨(x, i), hm, rfl⟩)
      · show (pd[i]?).map _ = _
        rw [hd, ← h3]
        rfl
  · refine He.int_ok X Gm (fact (.int x i) ?_)
    unfold factsOf
    exact List.mem_append_right _ (List.mem_append_left _ (List.mem_map.mpr ⟨(x, i), lookup_mem e, rfl⟩))
  · refine He.free_ok X Gm (fact (.free x) ?_)
    unfold factsOf
    exact List.mem_append_right _ (List.mem_append_right _ (List.mem_map.mpr ⟨x, e, rfl⟩))
def spLaw (K : PySem.W.Frag) : Sp := fun vs H Q _ => ∃ (a : Addr) (ns : List Int), vs = [.ref a] ∧ SqL K H a (ns.map V.int) ∧ ns.length ≤ 63 ∧ ∀ H', Q (.bl true) H'
/-- the law, from what our evaluator says -/
theorem law_ok {fns : List (Str × Nat)} {nums : List (Str × Int)} {bns : List Str} {L k : Nat} {h : Heap} {f : Addr} (X : K.In h) (Gm : h.Ns mainGlobals mg) (c : He.SaysD (factsOf fns nums bns) (fnD pd) K) (hb : BdAll pd) (hf : fns.all (fun p => decide ((pd[p.2]?).map (·.glob) = some p.1)) = true)
    (hC : ∀ fa : Nat → Option Addr, pd.all (pdC ⟨fa, fns, nums, bns⟩) = true) {d : Pd} (hd : pd[L]? = some d) (hp : d.params = [("script" : Str)]) (hg : d.glob = "law") (hl : fns.lookup ("law" : Str) = some L) (hfa : mg ("law" : Str) = some (.ref f))
    (law : ∀ ns : List Int, ns.length ≤ 63 → ∃ μ, runF (pd.map (·.df)) k L [.scr ns] [] = some (.bl true, μ)) :
    ∃ fd : FuncData, (∀ (s : Shared) (v : Value), BindsTo s fd ⟨[v], []⟩ [("script", v)]) ∧ ∀ base : Heap, K.In base → base.Ns mainGlobals mg → FnOk P w K mg base C8.CX0 k f fd ["script"] (spLaw K) := by
  have GO := gd_ok X Gm c hb hf
  obtain ⟨f0, fd, F, hfa0, kp, hbi⟩ := (GO.defs L d hd).ex
  obtain ⟨_, f1, e1, e2⟩ := GO.fns _ _ hl
  rw [hfa] at e1
  cases e1
  rw [hfa0] at e2
  cases e2
  refine ⟨fd, fun s v => ?_, fun base _ _ => ?_⟩
  · have := FunD.bindsA (ps := d.params) F (hb.at_ hd) s [v] (by rw [hp]; rfl)
    rw [hp] at this
    exact this
  · obtain ⟨f2, fd2, h1, h2, h3, h4, F2⟩ := lev (P := P) (w := w) (base := base) GO (fun d hd => List.all_eq_true.mp (hC _) d hd) k L d hd
    rw [hfa0] at h1
    cases h1
    have efd : fd2 = fd := by
      obtain ⟨oc, od, dV, kV, doc, pm, an, cdv, ct, osl, e1, lk, _⟩ := F.ex
      obtain ⟨oc', od', dV', kV', doc', pm', an', cdv', ct', osl', e1', lk', _⟩ := F2.ex
      rw [lk] at lk'
      cases lk'
      rfl
    subst efd
    rw [hp] at h4
    refine h4.imp fun vs H Q E q => ?_
    obtain ⟨a, ns, rfl, hS, hn, hQ⟩ := q
    obtain ⟨μ', e⟩ := law ns hn
    refine ⟨[], [], [], [], [.scr ns], .bl true, μ', ⟨rfl, Nat.le_refl _, List.nodup_nil, fun i a o h => by simp at h, fun i b h => by simp at h, fun a h => by simp at h⟩, .one (.scr ?_), e, fun m' H' v x M r => ?_⟩
    · rcases hS with hS | hS
      · exact .inl ⟨hS, by simp, by simp⟩
      · exact .inr hS
    · cases r
      exact hQ H'
end
end R

set_option Elab.async false
set_option linter.all false
set_option maxRecDepth 100000
set_option maxHeartbeats 4000000
/-! M0: the evaluator's loops and parts, for the mathematics of the laws -/
namespace R
open PySem L2

abbrev I (n : Nat) : U := .int (n : Int)
/-! ### turns -/
theorem compL_all {α : Type} {step : U → Mu → Option (Option U × Mu)} {enc g : α → U} {μ : Mu} : ∀ {xs : List α} {acc : List U}, (∀ x ∈ xs, step (enc x) μ = some (some (g x), μ)) → acc.length + xs.length ≤ SZ → compL step (xs.map enc) acc μ = some (acc ++ xs.map g, μ)
  | [], acc, _, _ => by simp [compL]
  | x :: xs, acc, h, hl => by
    simp only [List.map_cons, compL]
    rw [h x (by simp)]
    simp only
    rw [if_pos (by simp at hl; omega), compL_all (fun y hy => h y (by simp [hy])) (by simp at hl ⊢; omega)]
    simp
theorem compL_filter {α : Type} {step : U → Mu → Option (Option U × Mu)} {enc g : α → U} {p : α → Bool} {μ : Mu} : ∀ {xs : List α} {acc : List U}, (∀ x ∈ xs, step (enc x) μ = some (if p x then some (g x) else none, μ)) → acc.length + xs.length ≤ SZ → compL step (xs.map enc) acc μ = some (acc ++ (xs.filter p).map g, μ)
  | [], acc, _, _ => by simp [compL]
  | x :: xs, acc, h, hl => by
    simp only [List.map_cons, compL]
    rw [h x (by simp)]
    cases hp : p x with
    | true =>
      simp only [if_true]
      rw [if_pos (by simp at hl; omega), compL_filter (fun y hy => h y (by simp [hy])) (by simp at hl ⊢; omega)]
      simp [hp]
    | false =>
      simp only [Bool.false_eq_true, if_false]
      rw [compL_filter (fun y hy => h y (by simp [hy])) (by simp at hl ⊢; omega)]
      simp [hp]
theorem compL_ex {step : U → Mu → Option (Option U × Mu)} {Inv : Mu → Prop} {P : U → U → Prop} : ∀ {xs : List U} {acc : List U} {μ : Mu}, Inv μ → (∀ x ∈ xs, ∀ μ, Inv μ → ∃ y μ', step x μ = some (some y, μ') ∧ Inv μ' ∧ P x y) → acc.length + xs.length ≤ SZ →
    ∃ ys μ', compL step xs acc μ = some (acc ++ ys, μ') ∧ Inv μ' ∧ ys.length = xs.length ∧ ∀ y ∈ ys, ∃ x ∈ xs, P x y
  | [], acc, μ, h, _, _ => ⟨[], μ, by simp [compL], h, rfl, by simp⟩
  | x :: xs, acc, μ, h, hs, hl => by
    obtain ⟨y, μ1, e, h1, p⟩ := hs x (by simp) μ h
    obtain ⟨ys, μ2, e2, h2, l2, p2⟩ := compL_ex (xs := xs) (acc := acc ++ [y]) h1 (fun z hz => hs z (by simp [hz])) (by simp at hl ⊢; omega)
    refine ⟨y :: ys, μ2, ?_, h2, by simp [l2], fun z hz => ?_⟩
    · simp only [compL]
      rw [e]
      simp only
      rw [if_pos (by simp at hl; omega), e2]
      simp
    · rcases List.mem_cons.mp hz with e | e
      · subst e; exact ⟨x, by simp, p⟩
      · obtain ⟨w, hw, q⟩ := p2 z e
        exact ⟨w, by simp [hw], q⟩
theorem forL_inv {step : U → Env → Mu → Option Out} (P : Nat → Env → Mu → Prop) : ∀ {xs : List U} {k : Nat} {σ : Env} {μ : Mu}, P k σ μ → (∀ i x σ μ, xs[i]? = some x → P (k + i) σ μ → ∃ σ' μ', (step x σ μ = some (.nx σ' μ') ∨ step x σ μ = some (.ct σ' μ')) ∧ P (k + i + 1) σ' μ') →
    ∃ σ' μ', forL step xs σ μ = some (.nx σ' μ') ∧ P (k + xs.length) σ' μ'
  | [], k, σ, μ, h, _ => ⟨σ, μ, by simp [forL], h⟩
  | x :: xs, k, σ, μ, h, hs => by
    obtain ⟨σ1, μ1, e, h1⟩ := hs 0 x σ μ rfl h
    obtain ⟨σ2, μ2, e2, h2⟩ := forL_inv (P := P) (k := k + 1) h1 fun i y σ μ hy hp => by
      have := hs (i + 1) y σ μ (by simpa using hy) (by have e : k + (i + 1) = k + 1 + i := by omega
                                                       rw [e]; exact hp)
      have e : k + (i + 1) + 1 = k + 1 + i + 1 := by omega
      rw [e] at this
      exact this
    refine ⟨σ2, μ2, ?_, ?_⟩
    · simp only [forL]
      rcases e with e | e <;> rw [e] <;> exact e2
    · have e : k + (x :: xs).length = k + 1 + xs.length := by simp; omega
      rw [e]; exact h2
theorem forL_inv0 {step : U → Env → Mu → Option Out} (P : Nat → Env → Mu → Prop) {xs : List U} {σ : Env} {μ : Mu} (h : P 0 σ μ) (hs : ∀ i x σ μ, xs[i]? = some x → P i σ μ → ∃ σ' μ', (step x σ μ = some (.nx σ' μ') ∨ step x σ μ = some (.ct σ' μ')) ∧ P (i + 1) σ' μ') :
    ∃ σ' μ', forL step xs σ μ = some (.nx σ' μ') ∧ P xs.length σ' μ' := by
  have := forL_inv P (xs := xs) (k := 0) (σ := σ) (μ := μ) h fun i x σ μ hx hp => by
    have e : 0 + i = i := Nat.zero_add i
    rw [e] at hp ⊢
    exact hs i x σ μ hx hp
  rw [Nat.zero_add] at this
  exact this
/-- a walk over a mutable list that stays as it is -/
theorem forV_inv {step : U → Env → Mu → Option Out} {i : Nat} {xs : List U} (P : Nat → Env → Mu → Prop) (hP : ∀ k σ μ, P k σ μ → μ[i]? = some (.lst xs)) : ∀ {f k : Nat} {σ : Env} {μ : Mu}, P k σ μ → k ≤ xs.length → xs.length - k < f → (∀ k x σ μ, xs[k]? = some x → P k σ μ → ∃ σ' μ', (step x σ μ = some (.nx σ' μ') ∨ step x σ μ = some (.ct σ' μ')) ∧ P (k + 1) σ' μ') →
    ∃ σ' μ', forV step i f k σ μ = some (.nx σ' μ') ∧ P xs.length σ' μ'
  | 0, k, σ, μ, h, hk, hf, _ => by omega
  | f + 1, k, σ, μ, h, hk, hf, hs => by
    simp only [forV]
    rw [hP k σ μ h]
    simp only
    by_cases hlt : k < xs.length
    · rw [List.getElem?_eq_getElem hlt]
      simp only
      obtain ⟨σ1, μ1, e, h1⟩ := hs k xs[k] σ μ (List.getElem?_eq_getElem hlt) h
      obtain ⟨σ2, μ2, e2, h2⟩ := forV_inv P hP (f := f) (k := k + 1) h1 hlt (by omega) hs
      refine ⟨σ2, μ2, ?_, h2⟩
      rcases e with e | e <;> rw [e] <;> exact e2
    · have e : k = xs.length := by omega
      subst e
      rw [List.getElem?_eq_none_iff.mpr (Nat.le_refl _)]
      exact ⟨σ, μ, rfl, h⟩
theorem whL_inv {cond : Env → Mu → Option (Bool × Mu)} {body : Env → Mu → Option Out} (P : Nat → Env → Mu → Prop) (D : Env → Mu → Prop)
    (hs : ∀ m σ μ, P m σ μ → (∃ μ', cond σ μ = some (false, μ') ∧ D σ μ') ∨ ∃ μ1 σ' μ', cond σ μ = some (true, μ1) ∧ (body σ μ1 = some (.nx σ' μ') ∨ body σ μ1 = some (.ct σ' μ')) ∧ ∃ m', m' < m ∧ P m' σ' μ') :
    ∀ {f m : Nat} {σ : Env} {μ : Mu}, P m σ μ → m < f → ∃ σ' μ', whL cond body f σ μ = some (.nx σ' μ') ∧ D σ' μ'
  | 0, m, σ, μ, h, hf => by omega
  | f + 1, m, σ, μ, h, hf => by
    simp only [whL]
    rcases hs m σ μ h with ⟨μ', e, d⟩ | ⟨μ1, σ', μ', e, b, m', hm, h'⟩
    · rw [e]
      exact ⟨σ, μ', rfl, d⟩
    · rw [e]
      simp only
      obtain ⟨σ2, μ2, e2, d⟩ := whL_inv P D hs (f := f) h' (by omega)
      refine ⟨σ2, μ2, ?_, d⟩
      rcases b with b | b <;> rw [b] <;> exact e2
/-! ### lists of ints -/
theorem dat_int (μ : Mu) (k : Nat) (i : Int) : dat μ k (.int i) = some (.int i) := by cases k <;> rfl
theorem mapO_map {α β γ : Type} {f : β → Option γ} {g : α → β} {h : α → γ} : ∀ {xs : List α}, (∀ x ∈ xs, f (g x) = some (h x)) → mapO f (xs.map g) = some (xs.map h)
  | [], _ => rfl
  | x :: xs, hh => by
    simp only [List.map_cons, mapO]
    rw [hh x (by simp), mapO_map fun y hy => hh y (by simp [hy])]
theorem mapO_ints (μ : Mu) (k : Nat) (ns : List Int) : mapO (dat μ k) (ns.map U.int) = some (ns.map PyData.int) := mapO_map fun x _ => dat_int μ k x
theorem mapO_asInt (ns : List Int) : mapO asInt (ns.map U.int) = some ns := by
  have := mapO_map (f := asInt) (g := U.int) (h := id) (xs := ns) fun x _ => rfl
  simpa using this
theorem srtd_ints (μ : Mu) (ns : List Int) (h : ns.length ≤ SZ) : srtd μ (ns.map U.int) = some ((ns.mergeSort fun a b => decide (a ≤ b)).map U.int) := by
  unfold srtd
  rw [mapO_ints]
  simp only
  rw [if_pos]
  · congr 1
    have e : (ns.map U.int).zip (ns.map PyData.int) = ns.map fun i => (U.int i, PyData.int i) := List.zip_map'
    rw [e, ← List.map_mergeSort (r := fun a b => decide (a ≤ b)) (s := PySem.W.dataLe false Prod.snd) (f := fun i => (U.int i, PyData.int i))]
    · rw [List.map_map]; rfl
    · intro a _ b _
      show _ = !PySem.W.dataLt (.int b) (.int a)
      rw [PySem.W.dataLt_int]
      by_cases hab : a ≤ b
      · simp [hab]
      · simp [hab]; omega
  · simp only [Bool.and_eq_true, decide_eq_true_eq, Bool.or_eq_true, List.all_eq_true]
    refine ⟨⟨fun d hd e he => ?_, .inr fun d hd => ?_⟩, by simpa using h⟩
    · obtain ⟨i, _, rfl⟩ := List.mem_map.mp hd
      obtain ⟨j, _, rfl⟩ := List.mem_map.mp he
      rfl
    · obtain ⟨i, _, rfl⟩ := List.mem_map.mp hd
      rfl
theorem atI_of {α : Type} {xs : List α} {j : Nat} {v : α} (h : xs[j]? = some v) : atI xs (j : Int) = some v := atI_nat h
theorem nodup_lt {n : Nat} : ∀ {l : List Nat}, l.Nodup → (∀ x ∈ l, x < n) → l.length ≤ n := by
  induction n with
  | zero =>
    intro l _ h
    cases l with
    | nil => simp
    | cons x l => exact absurd (h x (by simp)) (by omega)
  | succ n ih =>
    intro l nd h
    by_cases hm : n ∈ l
    · have h1 := List.length_erase_of_mem hm
      have h2 := ih (nd.erase n) fun x hx => by
        have h3 := h x (List.mem_of_mem_erase hx)
        have h4 : x ≠ n := fun e => by
          subst e
          exact (List.Nodup.not_mem_erase nd) hx
        omega
      have : 0 < l.length := List.length_pos_of_mem hm
      omega
    · have h2 := ih nd fun x hx => by
        have h3 := h x hx
        have h4 : x ≠ n := fun e => hm (e ▸ hx)
        omega
      omega
/-! ### dicts whose keys are numbers -/
abbrev kI (n : Nat) : Key := .inl (n : Int)
theorem lk_map {f : Nat → U} {h : Nat} : ∀ {ks : List Nat}, h ∈ ks → lk (ks.map kI) (ks.map f) (kI h) = some (f h)
  | [], hm => by simp at hm
  | k :: ks, hm => by
    simp only [List.map_cons, lk]
    by_cases e : k = h
    · subst e; simp
    · rw [if_neg (by intro z; injection z with z; exact e (by omega))]
      exact lk_map (by rcases List.mem_cons.mp hm with z | z; exact absurd z.symm e; exact z)
theorem lk_none {f : Nat → U} {h : Nat} : ∀ {ks : List Nat}, h ∉ ks → lk (ks.map kI) (ks.map f) (kI h) = none
  | [], _ => rfl
  | k :: ks, hm => by
    simp only [List.map_cons, lk]
    rw [if_neg (by intro z; injection z with z; exact hm (by simp; left; omega))]
    exact lk_none fun z => hm (by simp [z])
theorem kI_mem {h : Nat} {ks : List Nat} : kI h ∈ ks.map kI ↔ h ∈ ks := by
  constructor
  · intro z
    obtain ⟨x, hx, e⟩ := List.mem_map.mp z
    injection e with e
    have : x = h := by omega
    exact this ▸ hx
  · exact fun z => List.mem_map.mpr ⟨h, z, rfl⟩
/-! ### rules for comprehensions and loops -/
section
variable (cal : Nat → List U → Mu → Option (U × Mu)) (n0 : Nat)
def cstep (p : Pt) (c e : E) (ws : List Nat) (σ : Env) : U → Mu → Option (Option U × Mu) := fun x μ => match bindP μ p x (wipeE σ ws) with
  | some σ' => match evalE cal n0 c σ' μ with
    | some (t, μ) => match truth μ t with
      | some true => match evalE cal n0 e σ' μ with
        | some (y, μ) => some (some y, μ)
        | none => none
      | some false => some (none, μ)
      | none => none
    | none => none
  | none => none
def fstep (p : Pt) (b : List S) : U → Env → Mu → Option Out := fun x σ μ => match bindP μ p x σ with
  | some σ => exL cal n0 b σ μ
  | none => none
def wcond (c : E) : Env → Mu → Option (Bool × Mu) := fun σ μ => match evalE cal n0 c σ μ with
  | some (u, μ) => match truth μ u with
    | some t => some (t, μ)
    | none => none
  | none => none
variable {cal n0}
theorem ev_comp {al : Bool} {p : Pt} {ik : Ik} {its : List E} {c e : E} {ws : List Nat} {σ : Env} {μ μ1 μ2 : Mu} {us xs ys : List U} (h1 : evalL cal n0 its σ μ = some (us, μ1)) (h2 : walk μ1 ik us = some (.inl xs)) (h3 : compL (cstep cal n0 p c e ws σ) xs [] μ1 = some (ys, μ2)) :
    evalE cal n0 (.comp al p ik its c e ws) σ μ = some (fresh al (.lst ys) μ2) := by
  simp only [evalE, h1, h2]
  have e0 : (match compL (cstep cal n0 p c e ws σ) xs [] μ1 with
    | some (ys, μ) => some (fresh al (.lst ys) μ)
    | none => none) = some (fresh al (.lst ys) μ2) := by rw [h3]
  exact e0
theorem ex_for {p : Pt} {ik : Ik} {its : List E} {b : List S} {σ : Env} {μ μ1 : Mu} {us xs : List U} (h1 : evalL cal n0 its σ μ = some (us, μ1)) (h2 : walk μ1 ik us = some (.inl xs)) :
    exS cal n0 (.for_ p ik its b) σ μ = forL (fstep cal n0 p b) xs σ μ1 := by
  simp only [exS, h1, h2]
  rfl
theorem ex_forV {p : Pt} {ik : Ik} {its : List E} {b : List S} {σ : Env} {μ μ1 : Mu} {us : List U} {i : Nat} (h1 : evalL cal n0 its σ μ = some (us, μ1)) (h2 : walk μ1 ik us = some (.inr i)) :
    exS cal n0 (.for_ p ik its b) σ μ = forV (fstep cal n0 p b) i FU 0 σ μ1 := by
  simp only [exS, h1, h2]
  rfl
theorem ex_wh {c : E} {b : List S} {σ : Env} {μ : Mu} : exS cal n0 (.wh c b) σ μ = whL (wcond cal n0 c) (fun σ μ => exL cal n0 b σ μ) FU σ μ := by
  simp only [exS]
  rfl
end
theorem cutU_nil (lo : Option Int) (hi : Option Int) : cutU [] lo hi = [] := by simp [cutU]
theorem cutU_from (xs : List U) (a : Nat) : cutU xs (some a) none = xs.drop a := by
  unfold cutU
  rw [show HT.sIx xs.length 0 (some (a : Int)) = min a xs.length from HT.sIx_nat xs.length 0 a, HT.sIx_none]
  by_cases h : a ≤ xs.length
  · rw [Nat.min_eq_left h, List.take_of_length_le (by simp)]
  · rw [Nat.min_eq_right (show xs.length ≤ a by omega)]
    simp
    omega
theorem cutU_to (xs : List U) (b : Nat) : cutU xs none (some b) = xs.take b := by
  unfold cutU
  rw [show HT.sIx xs.length xs.length (some (b : Int)) = min b xs.length from HT.sIx_nat xs.length xs.length b, HT.sIx_none]
  simp
theorem cutU_fromto (xs : List U) (a b : Nat) : cutU xs (some a) (some b) = (xs.take b).drop a := by
  unfold cutU
  rw [show HT.sIx xs.length xs.length (some (b : Int)) = min b xs.length from HT.sIx_nat xs.length xs.length b, show HT.sIx xs.length 0 (some (a : Int)) = min a xs.length from HT.sIx_nat xs.length 0 a]
  rw [List.drop_take]
  by_cases h : a ≤ xs.length
  · rw [Nat.min_eq_left h]
    by_cases h2 : b ≤ xs.length
    · rw [Nat.min_eq_left h2]
    · rw [Nat.min_eq_right (show xs.length ≤ b by omega), List.take_of_length_le (by simp), List.take_of_length_le (by simp; omega)]
  · rw [Nat.min_eq_right (show xs.length ≤ a by omega)]
    have : xs.drop a = [] := List.drop_eq_nil_of_le (by omega)
    simp [this]
theorem all_bl (n : Nat) : mapO asBl (List.replicate n (U.bl true)) = some (List.replicate n true) := by
  induction n with
  | zero => rfl
  | succ n ih => simp [List.replicate_succ, mapO, ih, asBl]
theorem all_bls {α : Type} (l : List α) : mapO asBl (l.map fun _ => U.bl true) = some (l.map fun _ => true) := mapO_map fun _ _ => rfl
theorem rgn_nat (n : Nat) : rgn 0 (n : Int) = (List.range n).map I := by
  unfold rgn
  simp
theorem rgn_nats (a n : Nat) : rgn (a : Int) (n : Int) = (List.range (n - a)).map fun i => I (a + i) := by
  unfold rgn
  have : ((n : Int) - a).toNat = n - a := by omega
  rw [this]
  simp
theorem zip_enc {α β : Type} (f : α → U) (g : β → U) (xs : List α) (ys : List β) : zips (xs.map f) (ys.map g) = (xs.zip ys).map fun q => .tup [f q.1, g q.2] := by
  unfold zips
  rw [List.zip_map, List.map_map]
  rfl
/-! ### rules for stores -/
section
variable {cal : Nat → List U → Mu → Option (U × Mu)} {n0 : Nat} {σ : Env} {μ : Mu}
theorem ex_append {al : Bool} {a e : E} {i : Nat} {u : U} {xs : List U} (ha : evalE cal n0 a σ μ = some (.ob i, μ)) (he : evalE cal n0 e σ μ = some (u, μ)) (h : μ[i]? = some (.lst xs)) (hl : xs.length < SZ) (ho : n0 ≤ i) :
    exS cal n0 (.ex (.me al .append a [e])) σ μ = some (.nx σ (μ.set i (.lst (xs ++ [u])))) := by
  have o : okw n0 i u = true := by simp [okw, ho]
  simp only [exS, evalE, evalL, ha, he, okm, asL, h, Option.isSome, evMe]
  rw [if_pos ⟨hl, o⟩]
theorem ex_subK {a e j : E} {i : Nat} {u : U} {ks : List Key} {vs : List U} {v : U} {q : Key} (he : evalE cal n0 e σ μ = some (u, μ)) (ha : evalE cal n0 a σ μ = some (.ob i, μ)) (hj : evalE cal n0 j σ μ = some (v, μ)) (hq : sky v = some q) (h : μ[i]? = some (.dk ks vs)) (hl : ks.length < SZ) (ho : n0 ≤ i) :
    exS cal n0 (.sub a j e) σ μ = some (.nx σ (μ.set i (.dk (ptk ks q) (pt ks vs q u)))) := by
  have o : okw n0 i u = true := by simp [okw, ho]
  simp only [exS, ha, he, hj, storeSub, h, dput, hq]
  rw [if_pos hl]
  simp only
  rw [if_pos o]
theorem ex_subT {a e j : E} {i : Nat} {u : U} {ks : List (List Key)} {vs : List U} {v : U} {q : List Key} (he : evalE cal n0 e σ μ = some (u, μ)) (ha : evalE cal n0 a σ μ = some (.ob i, μ)) (hj : evalE cal n0 j σ μ = some (v, μ)) (hq : tky v = some q) (h : μ[i]? = some (.dt ks vs)) (hl : ks.length < SZ) (ho : n0 ≤ i) :
    exS cal n0 (.sub a j e) σ μ = some (.nx σ (μ.set i (.dt (ptk ks q) (pt ks vs q u)))) := by
  have o : okw n0 i u = true := by simp [okw, ho]
  simp only [exS, ha, he, hj, storeSub, h, dput, hq]
  rw [if_pos hl]
  simp only
  rw [if_pos o]
theorem ex_seq {s : S} {ss : List S} {σ' : Env} {μ' : Mu} (h : exS cal n0 s σ μ = some (.nx σ' μ')) : exL cal n0 (s :: ss) σ μ = exL cal n0 ss σ' μ' := by simp only [exL, h]
theorem ex_nil : exL cal n0 [] σ μ = some (.nx σ μ) := by simp only [exL]
theorem ev_var {i : Nat} {u : U} (h : σ[i]? = some (some u)) : evalE cal n0 (.var i) σ μ = some (u, μ) := by simp only [evalE, h]
theorem ev_idxL {a i : E} {u w : U} {j : Int} {xs : List U} (ha : evalE cal n0 a σ μ = some (u, μ)) (hi : evalE cal n0 i σ μ = some (.int j, μ)) (hc : cont μ u = some (.lst xs)) (h : atI xs j = some w) : evalE cal n0 (.idx a i) σ μ = some (w, μ) := by
  simp only [evalE, ha, hi, evIdx, hc, h]
theorem ev_idxT {a i : E} {w : U} {j : Int} {xs : List U} (ha : evalE cal n0 a σ μ = some (.tup xs, μ)) (hi : evalE cal n0 i σ μ = some (.int j, μ)) (h : atI xs j = some w) : evalE cal n0 (.idx a i) σ μ = some (w, μ) := by
  simp only [evalE, ha, hi, evIdx, cont, h]
theorem ev_idxK {a i : E} {u v w : U} {ks : List Key} {vs : List U} {q : Key} (ha : evalE cal n0 a σ μ = some (u, μ)) (hi : evalE cal n0 i σ μ = some (v, μ)) (hc : cont μ u = some (.dk ks vs)) (hq : sky v = some q) (h : lk ks vs q = some w) : evalE cal n0 (.idx a i) σ μ = some (w, μ) := by
  simp only [evalE, ha, hi, evIdx, hc, dget, hq, h]
  rfl
variable {μ' μ1 μ2 : Mu} {e a b c : E} {u v w : U} {us : List U} {es : List E}
theorem ex_set {i : Nat} (h : evalE cal n0 e σ μ = some (u, μ')) : exS cal n0 (.set i e) σ μ = some (.nx (σ.set i (some u)) μ') := by simp only [exS, h]
theorem ex_ret {ss : List S} (h : evalE cal n0 e σ μ = some (u, μ')) : exL cal n0 (.ret e :: ss) σ μ = some (.rt u μ') := by simp only [exL, exS, h]
theorem ex_par {is : List Nat} {σ' : Env} (h : evalL cal n0 es σ μ = some (us, μ')) (hb : bindI is us σ = some σ') : exS cal n0 (.par is es) σ μ = some (.nx σ' μ') := by simp only [exS, h, hb]
theorem ex_asg {p : Pt} {σ' : Env} (h : evalE cal n0 e σ μ = some (u, μ')) (hb : bindP μ' p u σ = some σ') : exS cal n0 (.asg p e) σ μ = some (.nx σ' μ') := by simp only [exS, h, hb]
theorem ex_ifT {t f : List S} (hc : evalE cal n0 c σ μ = some (u, μ1)) (ht : truth μ1 u = some true) : exS cal n0 (.iff c t f) σ μ = exL cal n0 t σ μ1 := by simp only [exS, hc, ht]
theorem ex_ifF {t f : List S} (hc : evalE cal n0 c σ μ = some (u, μ1)) (ht : truth μ1 u = some false) : exS cal n0 (.iff c t f) σ μ = exL cal n0 f σ μ1 := by simp only [exS, hc, ht]
theorem ex_ex (h : evalE cal n0 e σ μ = some (u, μ')) : exS cal n0 (.ex e) σ μ = some (.nx σ μ') := by simp only [exS, h]
theorem ev_lnil : evalL cal n0 [] σ μ = some ([], μ) := by simp only [evalL]
theorem ev_lcons (h : evalE cal n0 e σ μ = some (u, μ1)) (hs : evalL cal n0 es σ μ1 = some (us, μ2)) : evalL cal n0 (e :: es) σ μ = some (u :: us, μ2) := by simp only [evalL, h, hs]
theorem ev_l1 (h : evalE cal n0 e σ μ = some (u, μ1)) : evalL cal n0 [e] σ μ = some ([u], μ1) := ev_lcons h ev_lnil
theorem ev_l2 (h : evalE cal n0 a σ μ = some (u, μ1)) (h2 : evalE cal n0 b σ μ1 = some (v, μ2)) : evalL cal n0 [a, b] σ μ = some ([u, v], μ2) := ev_lcons h (ev_l1 h2)
theorem ev_call {f : Nat} {r : U × Mu} (h : evalL cal n0 es σ μ = some (us, μ1)) (hc : cal f us μ1 = some r) : evalE cal n0 (.call f es) σ μ = some r := by simp only [evalE, h, hc]
theorem ev_bin {al : Bool} {op : Bo} {r : U × Mu} (ha : evalE cal n0 a σ μ = some (u, μ1)) (hb : evalE cal n0 b σ μ1 = some (v, μ2)) (h : evBin al μ2 op u v = some r) : evalE cal n0 (.bin al op a b) σ μ = some r := by simp only [evalE, ha, hb, h]
theorem ev_cmp {op : Co} {d : Bool} (ha : evalE cal n0 a σ μ = some (u, μ1)) (hb : evalE cal n0 b σ μ1 = some (v, μ2)) (h : evCmp μ2 op u v = some d) : evalE cal n0 (.cmp op a b) σ μ = some (.bl d, μ2) := by simp only [evalE, ha, hb, h]
theorem ev_col {al : Bool} {cl : Cl} {ik : Ik} {xs : List U} {r : U × Mu} (h : evalL cal n0 es σ μ = some (us, μ1)) (hi : items μ1 cl ik us = some xs) (he : evCol al μ1 cl xs = some r) : evalE cal n0 (.col al cl ik es) σ μ = some r := by simp only [evalE, h, hi, he]
theorem ev_bi {bb : Bi} (h : evalL cal n0 es σ μ = some (us, μ1)) (hb : evBi μ1 bb us = some u) : evalE cal n0 (.bi bb es) σ μ = some (u, μ1) := by simp only [evalE, h, hb]
theorem ev_not {d : Bool} (ha : evalE cal n0 a σ μ = some (u, μ1)) (ht : truth μ1 u = some d) : evalE cal n0 (.not a) σ μ = some (.bl !d, μ1) := by simp only [evalE, ha, ht]
theorem ev_tup (h : evalL cal n0 es σ μ = some (us, μ1)) (hl : us.length ≤ SZ) : evalE cal n0 (.tup es) σ μ = some (.tup us, μ1) := by
  simp only [evalE, h]
  rw [if_pos hl]
theorem fin_cut {n : Nat} (hf : frz n μ1 D0 u = some v) (ht : μ1.take n = μ) : R.finish false n u μ1 = some (v, μ) := by simp [R.finish, hf, ht]
/-- a comprehension's turn -/
theorem cs_yes {p : Pt} {ws : List Nat} {x : U} {σ' : Env} (hb : bindP μ p x (wipeE σ ws) = some σ') (h : evalE cal n0 e σ' μ = some (u, μ1)) : cstep cal n0 p (.bl true) e ws σ x μ = some (some u, μ1) := by simp only [cstep, hb, evalE, truth, h]
theorem cs_if {p : Pt} {ws : List Nat} {x : U} {σ' : Env} (hb : bindP μ p x (wipeE σ ws) = some σ') (hc : evalE cal n0 c σ' μ = some (v, μ1)) (ht : truth μ1 v = some true) (h : evalE cal n0 e σ' μ1 = some (u, μ2)) : cstep cal n0 p c e ws σ x μ = some (some u, μ2) := by simp only [cstep, hb, hc, ht, h]
theorem cs_no {p : Pt} {ws : List Nat} {x : U} {σ' : Env} (hb : bindP μ p x (wipeE σ ws) = some σ') (hc : evalE cal n0 c σ' μ = some (v, μ1)) (ht : truth μ1 v = some false) : cstep cal n0 p c e ws σ x μ = some (none, μ1) := by simp only [cstep, hb, hc, ht]
end
def endO (keep : Bool) (n : Nat) : Option Out → Option (U × Mu)
  | some (.rt u μ1) => R.finish keep n u μ1
  | some (.nx _ μ1) => R.finish keep n .non μ1
  | _ => none
theorem run_rt {o : Option Out} {u : U} {μ1 : Mu} {r : U × Mu} {keep : Bool} {n : Nat} (h : o = some (.rt u μ1)) (hf : R.finish keep n u μ1 = some r) : endO keep n o = some r := by subst h; exact hf
theorem run_nx {o : Option Out} {σ : Env} {μ1 : Mu} {r : U × Mu} {keep : Bool} {n : Nat} (h : o = some (.nx σ μ1)) (hf : R.finish keep n .non μ1 = some r) : endO keep n o = some r := by subst h; exact hf
end R

set_option Elab.async false
set_option linter.all false
set_option maxRecDepth 1000000
set_option maxHeartbeats 4000000
/-! the defs of the law, printed by gen.py -/
namespace K50
open PySem PySem.Spec PyProof.Rows L2 R
def b_is_whole : List S := [.ret (.bool true [(.isi (.var 0) .int), (.not (.isi (.var 0) .bool)), (.chain .le .le (.var 1) (.var 0) (.var 2))])]
def d_is_whole : Df := ⟨3, 3, b_is_whole, false⟩
def b_need_whole : List S := [.iff (.not (.call 0 [(.var 0), (.var 1), (.var 2)])) [.stuck] []]
def d_need_whole : Df := ⟨3, 3, b_need_whole, false⟩
def b_is_tuple_of : List S := [.ret (.bool true [(.isi (.var 0) .tuple), (.chain .le .le (.var 1) (.bi .len [(.var 0)]) (.var 2))])]
def d_is_tuple_of : Df := ⟨3, 3, b_is_tuple_of, false⟩
def c_is_ascending_0 : E := .comp false (.tup [(.slot 1), (.slot 2)]) .zip [(.var 0), (.slc false (.var 0) (.int 1) .non)] (.bl true) (.cmp .lt (.var 1) (.var 2)) [1, 2]
def b_is_ascending : List S := [.ret (.bi .all [c_is_ascending_0])]
def d_is_ascending : Df := ⟨1, 3, b_is_ascending, false⟩
def c_are_wholes_0 : E := .comp false (.slot 4) .ex [(.var 0)] (.bl true) (.call 0 [(.var 4), (.var 2), (.var 3)]) [4]
def b_are_wholes : List S := [.ret (.bool true [(.call 2 [(.var 0), (.var 1), (.var 1)]), (.bi .all [c_are_wholes_0])])]
def d_are_wholes : Df := ⟨4, 5, b_are_wholes, false⟩
def b_is_pair_of : List S := [.iff (.bool false [(.not (.call 2 [(.var 0), (.int 2), (.int 2)])), (.not (.call 0 [(.idx (.var 0) (.int 0)), (.int 0), (.bin false .sub (.var 1) (.int 1))])), (.not (.call 0 [(.idx (.var 0) (.int 1)), (.int 0), (.bin false .sub (.var 1) (.int 1))]))]) [.ret (.bl false)] [], .ret (.cmp .lt (.idx (.var 0) (.int 0)) (.idx (.var 0) (.int 1)))]
def d_is_pair_of : Df := ⟨2, 2, b_is_pair_of, false⟩
def c_are_friends_0 : E := .comp false (.slot 1) .ex [(.idx (.var 0) (.int 1))] (.bl true) (.call 5 [(.var 1), (.idx (.var 0) (.int 0))]) [1]
def b_are_friends : List S := [.iff (.bool false [(.not (.call 2 [(.var 0), (.int 2), (.int 2)])), (.not (.call 0 [(.idx (.var 0) (.int 0)), (.int 1), (.gint 60)])), (.not (.call 2 [(.idx (.var 0) (.int 1)), (.int 0), (.gint 400)]))]) [.ret (.bl false)] [], .ret (.bool true [(.bi .all [c_are_friends_0]), (.call 3 [(.idx (.var 0) (.int 1))])])]
def d_are_friends : Df := ⟨1, 2, b_are_friends, false⟩
def b_need_friends : List S := [.iff (.not (.call 6 [(.var 0)])) [.stuck] []]
def d_need_friends : Df := ⟨1, 1, b_need_friends, false⟩
def c_beside_0 : E := .comp false (.slot 4) .rng [(.idx (.var 0) (.int 0))] (.bl true) (.lst true []) [4]
def lb_beside_1 : List S := [.ex (.me false .append (.idx (.var 1) (.var 2)) [(.var 3)]), .ex (.me false .append (.idx (.var 1) (.var 3)) [(.var 2)])]
def l_beside_1 : S := .for_ (.tup [(.slot 2), (.slot 3)]) .ex [(.idx (.var 0) (.int 1))] lb_beside_1
def c_beside_3 : E := .comp false (.slot 5) .ex [(.var 1)] (.bl true) (.col false .sorted .ex [(.var 5)]) [5]
def b_beside : List S := [.set 1 c_beside_0, l_beside_1, .ret c_beside_3]
def d_beside : Df := ⟨1, 6, b_beside, false⟩
def lb_spread_0 : List S := [.iff (.cmp .notin (.var 5) (.var 2)) [.sub (.var 2) (.var 5) (.tup [(.bin false .add (.idx (.idx (.var 2) (.var 6)) (.int 0)) (.int 1)), (.var 6)]), .ex (.me false .append (.var 3) [(.var 5)])] []]
def l_spread_0 : S := .for_ (.slot 5) .ex [(.idx (.var 0) (.var 6))] lb_spread_0
def lb_spread_2 : List S := [.par [6, 4] [(.idx (.var 3) (.var 4)), (.bin false .add (.var 4) (.int 1))], l_spread_0]
def l_spread_2 : S := .wh (.cmp .lt (.var 4) (.bi .len [(.var 3)])) lb_spread_2
def b_spread : List S := [.par [2, 3, 4] [(.dct true false [(.var 1), (.tup [(.int 0), .non])]), (.lst true [(.var 1)]), (.int 0)], l_spread_2, .ret (.var 2)]
def d_spread : Df := ⟨2, 7, b_spread, false⟩
def b_need_few : List S := [.ex (.call 7 [(.var 0)]), .iff (.cmp .gt (.idx (.var 0) (.int 0)) (.gint 40)) [.stuck] []]
def d_need_few : Df := ⟨1, 1, b_need_few, false⟩
def b_need_whole_town : List S := [.ex (.call 10 [(.var 0)]), .iff (.cmp .lt (.bi .len [(.call 9 [(.call 8 [(.var 0)]), (.int 0)])]) (.idx (.var 0) (.int 0))) [.stuck] []]
def d_need_whole_town : Df := ⟨1, 1, b_need_whole_town, false⟩
def b_need_numbers : List S := [.ex (.call 11 [(.var 0)]), .iff (.not (.call 4 [(.var 1), (.idx (.var 0) (.int 0)), (.int 0), (.gint 1000000)])) [.stuck] []]
def d_need_numbers : Df := ⟨2, 2, b_need_numbers, false⟩
def c_far_0 : E := .comp false (.slot 2) .rng [(.idx (.var 0) (.int 0))] (.bl true) (.idx (.idx (.var 1) (.var 2)) (.int 0)) [2]
def b_far : List S := [.set 1 (.call 9 [(.call 8 [(.var 0)]), (.int 0)]), .ret (.col false .tuple .ex [c_far_0])]
def d_far : Df := ⟨1, 3, b_far, false⟩
def c_step_0 : E := .comp false (.slot 3) .ex [(.var 2)] (.bl true) (.idx (.var 1) (.var 3)) [3]
def c_step_1 : E := .comp false (.slot 2) .ex [(.slc false (.var 0) (.int 1) .non)] (.bl true) (.bin false .add (.int 1) (.bi .min1 [c_step_0])) [2]
def b_step : List S := [.ret (.bin false .add (.tup [(.int 0)]) (.col false .tuple .ex [c_step_1]))]
def d_step : Df := ⟨2, 4, b_step, false⟩
def lb_rest_in_0 : List S := [.par [1, 4] [(.call 14 [(.var 2), (.var 1)]), (.bin false .add (.var 4) (.int 1))]]
def l_rest_in_0 : S := .wh (.cmp .ne (.var 1) (.var 3)) lb_rest_in_0
def b_rest_in : List S := [.par [2, 3, 4] [(.call 8 [(.var 0)]), (.call 13 [(.var 0)]), (.int 0)], l_rest_in_0, .ret (.var 4)]
def d_rest_in : Df := ⟨2, 5, b_rest_in, false⟩
def b_distances : List S := [.ex (.call 11 [(.var 0)]), .ret (.call 13 [(.var 0)])]
def d_distances : Df := ⟨1, 1, b_distances, false⟩
def b_stepped : List S := [.ex (.call 12 [(.var 0), (.var 1)]), .ret (.call 14 [(.call 8 [(.var 0)]), (.var 1)])]
def d_stepped : Df := ⟨2, 2, b_stepped, false⟩
def lb_behind_steps_0 : List S := [.par [1, 2] [(.call 14 [(.var 3), (.var 1)]), (.bin false .sub (.var 2) (.int 1))]]
def l_behind_steps_0 : S := .wh (.bool true [(.cmp .gt (.var 2) (.int 0)), (.cmp .ne (.var 1) (.var 4))]) lb_behind_steps_0
def b_behind_steps : List S := [.ex (.call 12 [(.var 0), (.var 1)]), .ex (.call 1 [(.var 2), (.int 0), (.gint 1000000000000000000)]), .par [3, 4] [(.call 8 [(.var 0)]), (.call 13 [(.var 0)])], l_behind_steps_0, .ret (.var 1)]
def d_behind_steps : Df := ⟨3, 5, b_behind_steps, false⟩
def b_steps_to_rest : List S := [.ex (.call 12 [(.var 0), (.var 1)]), .ret (.call 15 [(.var 0), (.var 1)])]
def d_steps_to_rest : Df := ⟨2, 2, b_steps_to_rest, false⟩
def b_most_steps : List S := [.ex (.call 11 [(.var 0)]), .ret (.bin false .add (.bi .max1 [(.call 13 [(.var 0)])]) (.int 1))]
def d_most_steps : Df := ⟨1, 1, b_most_steps, false⟩
def b_late_numbers : List S := [.ex (.call 11 [(.var 0)]), .ret (.bin false .mul (.tup [(.gint 1000000)]) (.idx (.var 0) (.int 0)))]
def d_late_numbers : Df := ⟨1, 1, b_late_numbers, false⟩
def b__law_cup : List S := [.set 1 (.bi .abs [(.idx (.bin false .add (.col false .list .ex [(.var 0)]) (.lst false [(.int 0)])) (.int 0))]), .ret (.lst true [(.ite (.cmp .ge (.var 1) (.bin false .pow (.int 10) (.int 18))) (.bin false .fdiv (.var 1) (.int 131)) (.int 0)), (.bin false .add (.bin false .mod (.bi .int [(.bin false .add (.bin false .mul (.var 1) (.int 379)) (.int 5503))]) (.int 1964129453)) (.int 233))])]
def d__law_cup : Df := ⟨1, 2, b__law_cup, true⟩
def b__law_roll : List S := [.iff (.cmp .gt (.idx (.var 0) (.int 0)) (.int 0)) [.set 3 (.bin false .mod (.bi .int [(.idx (.var 0) (.int 0))]) (.var 1)), .sub (.var 0) (.int 0) (.bin false .fdiv (.idx (.var 0) (.int 0)) (.var 1)), .ret (.var 3)] [], .sub (.var 0) (.int 1) (.bin false .mod (.bi .int [(.bin false .add (.bin false .mul (.idx (.var 0) (.int 1)) (.int 29819)) (.int 9203))]) (.int 2147483543)), .set 2 (.bin false .mod (.bi .int [(.bin false .mul (.idx (.var 0) (.int 1)) (.bin false .add (.idx (.var 0) (.int 1)) (.int 311)))]) (.int 2147483587)), .ret (.bin false .mod (.bi .int [(.bin false .fdiv (.var 2) (.int 907))]) (.var 1))]
def d__law_roll : Df := ⟨2, 4, b__law_roll, false⟩
def b__law_some : List S := [.ret (.idx (.var 1) (.call 23 [(.var 0), (.bi .len [(.var 1)])]))]
def d__law_some : Df := ⟨2, 2, b__law_some, false⟩
def b__law_sort : List S := [.iff (.bool false [(.cmp .is_ (.var 0) .non), (.isi (.var 0) .bool)]) [.ret (.ite (.cmp .is_ (.var 0) .non) (.int 0) (.int 1))] [], .iff (.bool false [(.isi (.var 0) .int), (.isi (.var 0) .str)]) [.ret (.ite (.isi (.var 0) .int) (.int 2) (.int 3))] [], .ret (.ite (.isi (.var 0) .tuple) (.int 4) (.ite (.isi (.var 0) .list) (.int 5) (.int 6)))]
def d__law_sort : Df := ⟨1, 1, b__law_sort, false⟩
def c__law_like_0 : E := .comp false (.tup [(.slot 3), (.slot 4)]) .zip [(.var 0), (.var 1)] (.not (.call 26 [(.var 3), (.var 4)])) (.int 1) [3, 4]
def b__law_like : List S := [.set 2 (.call 25 [(.var 1)]), .iff (.bool false [(.cmp .ne (.call 25 [(.var 0)]) (.var 2)), (.cmp .eq (.var 2) (.int 6))]) [.ret (.bl false)] [], .iff (.cmp .isin (.var 2) (.tup [(.int 4), (.int 5)])) [.ret (.bool true [(.cmp .eq (.bi .len [(.var 0)]) (.bi .len [(.var 1)])), (.cmp .eq c__law_like_0 (.lst false []))])] [], .ret (.cmp .eq (.var 0) (.var 1))]
def d__law_like : Df := ⟨2, 5, b__law_like, false⟩
def b__law_whole : List S := [.ret (.bool true [(.cmp .eq (.call 25 [(.var 0)]) (.int 2)), (.chain .le .le (.var 1) (.var 0) (.var 2))])]
def d__law_whole : Df := ⟨3, 3, b__law_whole, false⟩
def c__law_beside_0 : E := .comp false (.slot 4) .rng [(.idx (.var 0) (.int 0))] (.bl true) (.lst true []) [4]
def lb__law_beside_1 : List S := [.ex (.me false .append (.idx (.var 1) (.var 2)) [(.var 3)]), .ex (.me false .append (.idx (.var 1) (.var 3)) [(.var 2)])]
def l__law_beside_1 : S := .for_ (.tup [(.slot 2), (.slot 3)]) .ex [(.idx (.var 0) (.int 1))] lb__law_beside_1
def b__law_beside : List S := [.set 1 c__law_beside_0, l__law_beside_1, .ret (.var 1)]
def d__law_beside : Df := ⟨1, 5, b__law_beside, false⟩
def lb__law_far_0 : List S := [.iff (.cmp .notin (.var 7) (.var 3)) [.sub (.var 3) (.var 7) (.bin false .add (.var 2) (.int 1)), .ex (.me false .append (.var 5) [(.var 7)])] []]
def l__law_far_0 : S := .for_ (.slot 7) .ex [(.idx (.var 0) (.var 6))] lb__law_far_0
def lb__law_far_2 : List S := [l__law_far_0]
def l__law_far_2 : S := .for_ (.slot 6) .ex [(.var 4)] lb__law_far_2
def lb__law_far_4 : List S := [.set 5 (.lst true []), l__law_far_2, .set 4 (.var 5)]
def l__law_far_4 : S := .for_ (.slot 2) .rng [(.bi .len [(.var 0)])] lb__law_far_4
def b__law_far : List S := [.par [3, 4] [(.dct true false [(.var 1), (.int 0)]), (.lst false [(.var 1)])], l__law_far_4, .ret (.var 3)]
def d__law_far : Df := ⟨2, 8, b__law_far, false⟩
def lb__law_friends_0 : List S := [.iff (.bool true [(.cmp .eq (.call 23 [(.var 0), (.var 3)]) (.int 0)), (.cmp .lt (.bi .len [(.var 6)]) (.int 300))]) [.sub (.var 6) (.tup [(.var 7), (.var 4)]) (.bl true)] []]
def l__law_friends_0 : S := .for_ (.slot 7) .rng [(.var 4)] lb__law_friends_0
def lb__law_friends_2 : List S := [.iff (.var 2) [.sub (.var 6) (.tup [(.call 23 [(.var 0), (.var 4)]), (.var 4)]) (.bl true)] [], l__law_friends_0]
def l__law_friends_2 : S := .for_ (.slot 4) .rng [(.int 1), (.var 5)] lb__law_friends_2
def b__law_friends : List S := [.par [5, 6] [(.bin false .add (.int 1) (.call 23 [(.var 0), (.var 1)])), (.dct true true [])], .set 3 (.call 24 [(.var 0), (.lst false [(.int 2), (.int 4), (.int 12)])]), l__law_friends_2, .ret (.tup [(.var 5), (.col false .tuple .ex [(.col false .sorted .ex [(.var 6)])])])]
def d__law_friends : Df := ⟨3, 8, b__law_friends, false⟩
def c__law_path_0 : E := .comp false (.slot 1) .rng [(.bin false .sub (.var 0) (.int 1))] (.bl true) (.tup [(.var 1), (.bin false .add (.var 1) (.int 1))]) [1]
def b__law_path : List S := [.ret (.tup [(.var 0), (.col false .tuple .ex [c__law_path_0])])]
def d__law_path : Df := ⟨1, 2, b__law_path, false⟩
def c__law_star_0 : E := .comp false (.slot 1) .rng [(.int 1), (.var 0)] (.bl true) (.tup [(.int 0), (.var 1)]) [1]
def b__law_star : List S := [.ret (.tup [(.var 0), (.col false .tuple .ex [c__law_star_0])])]
def d__law_star : Df := ⟨1, 2, b__law_star, false⟩
def c__law_ring_0 : E := .comp false (.slot 1) .rng [(.bin false .sub (.var 0) (.int 1))] (.bl true) (.tup [(.var 1), (.bin false .add (.var 1) (.int 1))]) [1]
def b__law_ring : List S := [.ret (.tup [(.var 0), (.col false .tuple .ex [(.col false .sorted .ex [(.bin false .add c__law_ring_0 (.lst false [(.tup [(.int 0), (.bin false .sub (.var 0) (.int 1))])]))])])])]
def d__law_ring : Df := ⟨1, 2, b__law_ring, false⟩
def c__law_hopped_0 : E := .comp false (.slot 3) .ex [(.var 2)] (.bl true) (.idx (.var 1) (.var 3)) [3]
def c__law_hopped_1 : E := .comp false (.slot 2) .ex [(.slc false (.var 0) (.int 1) .non)] (.bl true) (.bin false .add (.int 1) (.bi .min1 [c__law_hopped_0])) [2]
def b__law_hopped : List S := [.ret (.bin false .add (.tup [(.int 0)]) (.col false .tuple .ex [c__law_hopped_1]))]
def d__law_hopped : Df := ⟨2, 4, b__law_hopped, false⟩
def c__law_right_0 : E := .comp false (.slot 15) .rng [(.idx (.var 1) (.int 0))] (.bl true) (.idx (.var 3) (.var 15)) [15]
def c__law_right_1 : E := .comp false (.slot 16) .ex [(.var 5)] (.not (.call 27 [(.var 16), (.int 0), (.bin false .pow (.int 10) (.int 6))])) (.int 1) [16]
def c__law_right_2 : E := .comp false (.slot 15) .rng [(.idx (.var 1) (.int 0))] (.bl true) (.call 23 [(.var 0), (.bin false .add (.var 6) (.int 1))]) [15]
def lb__law_right_3 : List S := [.iff (.cmp .ne (.var 13) (.var 4)) [.par [13, 14] [(.call 34 [(.var 2), (.var 13)]), (.bin false .add (.var 14) (.int 1))]] []]
def l__law_right_3 : S := .for_ (.slot 9) .rng [(.bin false .add (.idx (.var 1) (.int 0)) (.int 2))] lb__law_right_3
def lb__law_right_5 : List S := [.set 11 (.call 34 [(.var 2), (.var 11)])]
def l__law_right_5 : S := .for_ (.slot 9) .rng [(.var 10)] lb__law_right_5
def lb__law_right_7 : List S := [.par [13, 14] [(.var 8), (.int 0)], l__law_right_3, .iff (.bool false [(.cmp .ne (.var 13) (.var 4)), (.not (.call 26 [(.call 19 [(.var 1), (.var 8)]), (.var 14)]))]) [.ret (.bl false)] [], .iff (.bool false [(.bool true [(.cmp .eq (.var 8) (.var 5)), (.cmp .ne (.var 14) (.bin false .add (.bi .max1 [(.var 4)]) (.int 1)))]), (.bool true [(.cmp .eq (.bi .max1 [(.var 8)]) (.int 0)), (.cmp .ne (.var 14) (.bi .max1 [(.var 4)]))]), (.cmp .gt (.var 14) (.bin false .add (.bi .max1 [(.var 4)]) (.int 1)))]) [.ret (.bl false)] [], .set 10 (.call 23 [(.var 0), (.bin false .add (.var 14) (.int 3))]), .set 11 (.var 8), l__law_right_5, .set 12 (.lst false [(.call 17 [(.var 1), (.var 8)]), (.call 18 [(.var 1), (.var 8), (.var 10)]), (.call 18 [(.var 1), (.var 8), (.bin false .pow (.int 10) (.int 18))]), (.call 18 [(.var 1), (.var 8), (.int 0)])]), .iff (.not (.call 26 [(.var 12), (.lst false [(.call 34 [(.var 2), (.var 8)]), (.var 11), (.var 4), (.var 8)])])) [.ret (.bl false)] []]
def l__law_right_7 : S := .for_ (.slot 8) .ex [(.tup [(.var 7), (.bin false .mul (.tup [(.int 0)]) (.idx (.var 1) (.int 0))), (.var 5), (.var 4), (.bin false .mul (.tup [(.int 1000000)]) (.idx (.var 1) (.int 0)))])] lb__law_right_7
def b__law_right : List S := [.set 2 (.call 28 [(.var 1)]), .set 3 (.call 29 [(.var 2), (.int 0)]), .set 4 (.col false .tuple .ex [c__law_right_0]), .set 5 (.call 21 [(.var 1)]), .iff (.not (.call 26 [(.lst false [(.call 16 [(.var 1)]), (.call 20 [(.var 1)])]), (.lst false [(.var 4), (.bin false .add (.bi .max1 [(.var 4)]) (.int 1))])])) [.ret (.bl false)] [], .iff (.bool false [(.cmp .ne (.call 25 [(.var 5)]) (.int 4)), (.cmp .ne (.bi .len [(.var 5)]) (.idx (.var 1) (.int 0))), (.cmp .ne c__law_right_1 (.lst false []))]) [.ret (.bl false)] [], .set 6 (.call 24 [(.var 0), (.lst false [(.int 1), (.int 5), (.int 50), (.int 1000000)])]), .set 7 (.col false .tuple .ex [c__law_right_2]), l__law_right_7, .ret (.bl true)]
def d__law_right : Df := ⟨2, 17, b__law_right, false⟩
def c__law_great_right_0 : E := .comp false (.tup [(.slot 7), (.slot 8)]) .zip [(.var 2), (.slc false (.var 2) (.int 1) .non)] (.bl true) (.tup [(.bi .min2 [(.var 7), (.var 8)]), (.bi .max2 [(.var 7), (.var 8)])]) [7, 8]
def b__law_great_right : List S := [.par [5, 6] [(.call 31 [(.int 40)]), (.call 23 [(.var 0), (.int 40)])], .set 1 (.bin false .add (.lst false [(.int 0)]) (.col false .list .rng [(.int 1), (.int 40)])), .set 2 (.bin false .add (.bin false .add (.slc false (.var 1) (.int 1) (.bin false .add (.var 6) (.int 1))) (.lst false [(.int 0)])) (.slc false (.var 1) (.bin false .add (.var 6) (.int 1)) .non)), .set 3 (.tup [(.int 40), (.col false .tuple .ex [(.col false .sorted .ex [c__law_great_right_0])])]), .set 4 (.lst false [(.call 20 [(.var 5)]), (.call 20 [(.var 3)]), (.call 20 [(.call 33 [(.int 40)])]), (.call 20 [(.call 32 [(.int 40)])]), (.call 20 [(.tup [(.int 1), (.tup [])])]), (.call 19 [(.var 5), (.bin false .mul (.tup [(.int 0)]) (.int 40))]), (.call 19 [(.var 5), (.bin false .mul (.tup [(.int 1000000)]) (.int 40))])]), .iff (.not (.call 26 [(.var 4), (.lst false [(.int 40), (.bin false .add (.bi .max2 [(.var 6), (.bin false .sub (.int 39) (.var 6))]) (.int 1)), (.int 21), (.int 2), (.int 1), (.int 39), (.int 40)])])) [.ret (.bl false)] [], .ret (.bool true [(.call 35 [(.var 0), (.var 3)]), (.call 35 [(.var 0), (.call 30 [(.var 0), (.int 40), (.bl true)])])])]
def d__law_great_right : Df := ⟨1, 9, b__law_great_right, false⟩
def b__law_written_right : List S := [.par [1, 2] [(.call 31 [(.int 4)]), (.call 32 [(.int 4)])], .set 0 (.lst false [(.call 16 [(.var 1)]), (.call 17 [(.var 1), (.tup [(.int 0), (.int 0), (.int 0), (.int 0)])]), (.call 18 [(.var 1), (.tup [(.int 9), (.int 9), (.int 9), (.int 9)]), (.int 3)]), (.call 19 [(.var 1), (.tup [(.int 0), (.int 0), (.int 0), (.int 0)])]), (.call 19 [(.var 1), (.tup [(.int 9), (.int 9), (.int 9), (.int 9)])])]), .set 0 (.bin false .add (.var 0) (.lst false [(.call 20 [(.var 1)]), (.call 19 [(.var 2), (.tup [(.int 0), (.int 1), (.int 1), (.int 1)])])])), .set 0 (.bin false .add (.var 0) (.lst false [(.call 20 [(.tup [(.int 1), (.tup [])])]), (.call 18 [(.var 2), (.tup [(.int 7), (.int 7), (.int 7), (.int 7)]), (.bin false .pow (.int 10) (.int 18))]), (.call 17 [(.tup [(.int 1), (.tup [])]), (.tup [(.int 5)])])])), .set 0 (.bin false .add (.var 0) (.lst false [(.call 19 [(.tup [(.int 1), (.tup [])]), (.tup [(.int 5)])]), (.call 19 [(.tup [(.int 1), (.tup [])]), (.tup [(.int 0)])]), (.call 19 [(.var 1), (.tup [(.int 3), (.int 2), (.int 1), (.int 0)])])])), .ret (.call 26 [(.var 0), (.lst false [(.tup [(.int 0), (.int 1), (.int 2), (.int 3)]), (.tup [(.int 0), (.int 1), (.int 1), (.int 1)]), (.tup [(.int 0), (.int 1), (.int 2), (.int 12)]), (.int 3), (.int 4), (.int 4), (.int 0), (.int 1), (.tup [(.int 0), (.int 1), (.int 1), (.int 1)]), (.tup [(.int 0)]), (.int 1), (.int 0), (.int 4)])])]
def d__law_written_right : Df := ⟨0, 3, b__law_written_right, false⟩
def lb_law_0 : List S := [.iff (.not (.call 35 [(.var 1), (.call 30 [(.var 1), (.int 9), (.bl true)])])) [.ret (.bl false)] []]
def l_law_0 : S := .for_ (.slot 2) .rng [(.int 6)] lb_law_0
def b_law : List S := [.set 1 (.call 22 [(.var 0)]), l_law_0, .ret (.bool true [(.call 36 [(.var 1)]), (.call 37 [])])]
def d_law : Df := ⟨1, 3, b_law, false⟩
def defs : List Df := d_is_whole :: d_need_whole :: d_is_tuple_of :: d_is_ascending :: d_are_wholes :: d_is_pair_of :: d_are_friends :: d_need_friends :: d_beside :: d_spread :: d_need_few :: d_need_whole_town :: d_need_numbers :: d_far :: d_step :: d_rest_in :: d_distances :: d_stepped :: d_behind_steps :: d_steps_to_rest :: d_most_steps :: d_late_numbers :: d__law_cup :: d__law_roll :: d__law_some :: d__law_sort :: d__law_like :: d__law_whole :: d__law_beside :: d__law_far :: d__law_friends :: d__law_path :: d__law_star :: d__law_ring :: d__law_hopped :: d__law_right :: d__law_great_right :: d__law_written_right :: d_law :: []
theorem run_is_whole (k : Nat) (us : List U) (μ : Mu) : runF defs (k + 1) 0 us μ = (if us.length = 3 then endO false μ.length (exL (runF defs k) μ.length b_is_whole (us.map some ++ List.replicate 0 none) μ) else none) := rfl
theorem run_need_whole (k : Nat) (us : List U) (μ : Mu) : runF defs (k + 1) 1 us μ = (if us.length = 3 then endO false μ.length (exL (runF defs k) μ.length b_need_whole (us.map some ++ List.replicate 0 none) μ) else none) := rfl
theorem run_is_tuple_of (k : Nat) (us : List U) (μ : Mu) : runF defs (k + 1) 2 us μ = (if us.length = 3 then endO false μ.length (exL (runF defs k) μ.length b_is_tuple_of (us.map some ++ List.replicate 0 none) μ) else none) := rfl
theorem run_is_ascending (k : Nat) (us : List U) (μ : Mu) : runF defs (k + 1) 3 us μ = (if us.length = 1 then endO false μ.length (exL (runF defs k) μ.length b_is_ascending (us.map some ++ List.replicate 2 none) μ) else none) := rfl
theorem run_are_wholes (k : Nat) (us : List U) (μ : Mu) : runF defs (k + 1) 4 us μ = (if us.length = 4 then endO false μ.length (exL (runF defs k) μ.length b_are_wholes (us.map some ++ List.replicate 1 none) μ) else none) := rfl
theorem run_is_pair_of (k : Nat) (us : List U) (μ : Mu) : runF defs (k + 1) 5 us μ = (if us.length = 2 then endO false μ.length (exL (runF defs k) μ.length b_is_pair_of (us.map some ++ List.replicate 0 none) μ) else none) := rfl
theorem run_are_friends (k : Nat) (us : List U) (μ : Mu) : runF defs (k + 1) 6 us μ = (if us.length = 1 then endO false μ.length (exL (runF defs k) μ.length b_are_friends (us.map some ++ List.replicate 1 none) μ) else none) := rfl
theorem run_need_friends (k : Nat) (us : List U) (μ : Mu) : runF defs (k + 1) 7 us μ = (if us.length = 1 then endO false μ.length (exL (runF defs k) μ.length b_need_friends (us.map some ++ List.replicate 0 none) μ) else none) := rfl
theorem run_beside (k : Nat) (us : List U) (μ : Mu) : runF defs (k + 1) 8 us μ = (if us.length = 1 then endO false μ.length (exL (runF defs k) μ.length b_beside (us.map some ++ List.replicate 5 none) μ) else none) := rfl
theorem run_spread (k : Nat) (us : List U) (μ : Mu) : runF defs (k + 1) 9 us μ = (if us.length = 2 then endO false μ.length (exL (runF defs k) μ.length b_spread (us.map some ++ List.replicate 5 none) μ) else none) := rfl
theorem run_need_few (k : Nat) (us : List U) (μ : Mu) : runF defs (k + 1) 10 us μ = (if us.length = 1 then endO false μ.length (exL (runF defs k) μ.length b_need_few (us.map some ++ List.replicate 0 none) μ) else none) := rfl
theorem run_need_whole_town (k : Nat) (us : List U) (μ : Mu) : runF defs (k + 1) 11 us μ = (if us.length = 1 then endO false μ.length (exL (runF defs k) μ.length b_need_whole_town (us.map some ++ List.replicate 0 none) μ) else none) := rfl
theorem run_need_numbers (k : Nat) (us : List U) (μ : Mu) : runF defs (k + 1) 12 us μ = (if us.length = 2 then endO false μ.length (exL (runF defs k) μ.length b_need_numbers (us.map some ++ List.replicate 0 none) μ) else none) := rfl
theorem run_far (k : Nat) (us : List U) (μ : Mu) : runF defs (k + 1) 13 us μ = (if us.length = 1 then endO false μ.length (exL (runF defs k) μ.length b_far (us.map some ++ List.replicate 2 none) μ) else none) := rfl
theorem run_step (k : Nat) (us : List U) (μ : Mu) : runF defs (k + 1) 14 us μ = (if us.length = 2 then endO false μ.length (exL (runF defs k) μ.length b_step (us.map some ++ List.replicate 2 none) μ) else none) := rfl
theorem run_rest_in (k : Nat) (us : List U) (μ : Mu) : runF defs (k + 1) 15 us μ = (if us.length = 2 then endO false μ.length (exL (runF defs k) μ.length b_rest_in (us.map some ++ List.replicate 3 none) μ) else none) := rfl
theorem run_distances (k : Nat) (us : List U) (μ : Mu) : runF defs (k + 1) 16 us μ = (if us.length = 1 then endO false μ.length (exL (runF defs k) μ.length b_distances (us.map some ++ List.replicate 0 none) μ) else none) := rfl
theorem run_stepped (k : Nat) (us : List U) (μ : Mu) : runF defs (k + 1) 17 us μ = (if us.length = 2 then endO false μ.length (exL (runF defs k) μ.length b_stepped (us.map some ++ List.replicate 0 none) μ) else none) := rfl
theorem run_behind_steps (k : Nat) (us : List U) (μ : Mu) : runF defs (k + 1) 18 us μ = (if us.length = 3 then endO false μ.length (exL (runF defs k) μ.length b_behind_steps (us.map some ++ List.replicate 2 none) μ) else none) := rfl
theorem run_steps_to_rest (k : Nat) (us : List U) (μ : Mu) : runF defs (k + 1) 19 us μ = (if us.length = 2 then endO false μ.length (exL (runF defs k) μ.length b_steps_to_rest (us.map some ++ List.replicate 0 none) μ) else none) := rfl
theorem run_most_steps (k : Nat) (us : List U) (μ : Mu) : runF defs (k + 1) 20 us μ = (if us.length = 1 then endO false μ.length (exL (runF defs k) μ.length b_most_steps (us.map some ++ List.replicate 0 none) μ) else none) := rfl
theorem run_late_numbers (k : Nat) (us : List U) (μ : Mu) : runF defs (k + 1) 21 us μ = (if us.length = 1 then endO false μ.length (exL (runF defs k) μ.length b_late_numbers (us.map some ++ List.replicate 0 none) μ) else none) := rfl
theorem run__law_cup (k : Nat) (us : List U) (μ : Mu) : runF defs (k + 1) 22 us μ = (if us.length = 1 then endO true μ.length (exL (runF defs k) μ.length b__law_cup (us.map some ++ List.replicate 1 none) μ) else none) := rfl
theorem run__law_roll (k : Nat) (us : List U) (μ : Mu) : runF defs (k + 1) 23 us μ = (if us.length = 2 then endO false μ.length (exL (runF defs k) μ.length b__law_roll (us.map some ++ List.replicate 2 none) μ) else none) := rfl
theorem run__law_some (k : Nat) (us : List U) (μ : Mu) : runF defs (k + 1) 24 us μ = (if us.length = 2 then endO false μ.length (exL (runF defs k) μ.length b__law_some (us.map some ++ List.replicate 0 none) μ) else none) := rfl
theorem run__law_sort (k : Nat) (us : List U) (μ : Mu) : runF defs (k + 1) 25 us μ = (if us.length = 1 then endO false μ.length (exL (runF defs k) μ.length b__law_sort (us.map some ++ List.replicate 0 none) μ) else none) := rfl
theorem run__law_like (k : Nat) (us : List U) (μ : Mu) : runF defs (k + 1) 26 us μ = (if us.length = 2 then endO false μ.length (exL (runF defs k) μ.length b__law_like (us.map some ++ List.replicate 3 none) μ) else none) := rfl
theorem run__law_whole (k : Nat) (us : List U) (μ : Mu) : runF defs (k + 1) 27 us μ = (if us.length = 3 then endO false μ.length (exL (runF defs k) μ.length b__law_whole (us.map some ++ List.replicate 0 none) μ) else none) := rfl
theorem run__law_beside (k : Nat) (us : List U) (μ : Mu) : runF defs (k + 1) 28 us μ = (if us.length = 1 then endO false μ.length (exL (runF defs k) μ.length b__law_beside (us.map some ++ List.replicate 4 none) μ) else none) := rfl
theorem run__law_far (k : Nat) (us : List U) (μ : Mu) : runF defs (k + 1) 29 us μ = (if us.length = 2 then endO false μ.length (exL (runF defs k) μ.length b__law_far (us.map some ++ List.replicate 6 none) μ) else none) := rfl
theorem run__law_friends (k : Nat) (us : List U) (μ : Mu) : runF defs (k + 1) 30 us μ = (if us.length = 3 then endO false μ.length (exL (runF defs k) μ.length b__law_friends (us.map some ++ List.replicate 5 none) μ) else none) := rfl
theorem run__law_path (k : Nat) (us : List U) (μ : Mu) : runF defs (k + 1) 31 us μ = (if us.length = 1 then endO false μ.length (exL (runF defs k) μ.length b__law_path (us.map some ++ List.replicate 1 none) μ) else none) := rfl
theorem run__law_star (k : Nat) (us : List U) (μ : Mu) : runF defs (k + 1) 32 us μ = (if us.length = 1 then endO false μ.length (exL (runF defs k) μ.length b__law_star (us.map some ++ List.replicate 1 none) μ) else none) := rfl
theorem run__law_ring (k : Nat) (us : List U) (μ : Mu) : runF defs (k + 1) 33 us μ = (if us.length = 1 then endO false μ.length (exL (runF defs k) μ.length b__law_ring (us.map some ++ List.replicate 1 none) μ) else none) := rfl
theorem run__law_hopped (k : Nat) (us : List U) (μ : Mu) : runF defs (k + 1) 34 us μ = (if us.length = 2 then endO false μ.length (exL (runF defs k) μ.length b__law_hopped (us.map some ++ List.replicate 2 none) μ) else none) := rfl
theorem run__law_right (k : Nat) (us : List U) (μ : Mu) : runF defs (k + 1) 35 us μ = (if us.length = 2 then endO false μ.length (exL (runF defs k) μ.length b__law_right (us.map some ++ List.replicate 15 none) μ) else none) := rfl
theorem run__law_great_right (k : Nat) (us : List U) (μ : Mu) : runF defs (k + 1) 36 us μ = (if us.length = 1 then endO false μ.length (exL (runF defs k) μ.length b__law_great_right (us.map some ++ List.replicate 8 none) μ) else none) := rfl
theorem run__law_written_right (k : Nat) (us : List U) (μ : Mu) : runF defs (k + 1) 37 us μ = (if us.length = 0 then endO false μ.length (exL (runF defs k) μ.length b__law_written_right (us.map some ++ List.replicate 3 none) μ) else none) := rfl
theorem run_law (k : Nat) (us : List U) (μ : Mu) : runF defs (k + 1) 38 us μ = (if us.length = 1 then endO false μ.length (exL (runF defs k) μ.length b_law (us.map some ++ List.replicate 2 none) μ) else none) := rfl
end K50

set_option Elab.async false
set_option linter.all false
set_option maxRecDepth 100000
set_option maxHeartbeats 4000000
namespace K50
open PySem L2 R
theorem whole_ok (k : Nat) (v lo hi : Int) (μ : Mu) (h : lo ≤ v ∧ v ≤ hi) : runF defs (k + 1) 0 [.int v, .int lo, .int hi] μ = some (.bl true, μ) := by
  rw [run_is_whole]
  have h1 : ¬ v < lo := by omega
  have h2 : ¬ hi < v := by omega
  simp [b_is_whole, h1, h2, exL, exS, evalE, evalL, evalB, evBin, evCmp, evEq, evIn, evLt, neg?, evIdx, evBi, evIsi, truth, asL, asS, cont, asInt, R.fresh, bindP, bindPs, bindI, R.finish, frz, wipeE, R.isNon, okw, okm, evMe, sky, tky, evSlc, evRev, bnd, walk, items, evCol, dget, dput, storeSub, intL, intT, bls, pairKV, keyU, keysU, mulOk, dat, mapO, nomut, nomuts, lk, biF, D0, endO]
theorem tuple_ok (k : Nat) (xs : List U) (lo hi : Int) (μ : Mu) (h : lo ≤ xs.length ∧ (xs.length : Int) ≤ hi) : runF defs (k + 1) 2 [.tup xs, .int lo, .int hi] μ = some (.bl true, μ) := by
  rw [run_is_tuple_of]
  have h1 : ¬ (xs.length : Int) < lo := by omega
  have h2 : ¬ hi < (xs.length : Int) := by omega
  simp [b_is_tuple_of, h1, h2, exL, exS, evalE, evalL, evalB, evBin, evCmp, evEq, evIn, evLt, neg?, evIdx, evBi, evIsi, truth, asL, asS, cont, asInt, R.fresh, bindP, bindPs, bindI, R.finish, frz, wipeE, R.isNon, okw, okm, evMe, sky, tky, evSlc, evRev, bnd, walk, items, evCol, dget, dput, storeSub, intL, intT, bls, pairKV, keyU, keysU, mulOk, dat, mapO, nomut, nomuts, lk, biF, D0, endO]
theorem need_whole_ok (k : Nat) (v lo hi : Int) (μ : Mu) (h : lo ≤ v ∧ v ≤ hi) : runF defs (k + 2) 1 [.int v, .int lo, .int hi] μ = some (.non, μ) := by
  rw [run_need_whole]
  simp [b_need_whole, whole_ok k v lo hi μ h, exL, exS, evalE, evalL, evalB, evBin, evCmp, evEq, evIn, evLt, neg?, evIdx, evBi, evIsi, truth, asL, asS, cont, asInt, R.fresh, bindP, bindPs, bindI, R.finish, frz, wipeE, R.isNon, okw, okm, evMe, sky, tky, evSlc, evRev, bnd, walk, items, evCol, dget, dput, storeSub, intL, intT, bls, pairKV, keyU, keysU, mulOk, dat, mapO, nomut, nomuts, lk, biF, D0, endO]
/-- numbers within bounds -/
theorem wholes_ok (k : Nat) (ns : List Int) (lo hi : Int) (μ : Mu) (h : ∀ n ∈ ns, lo ≤ n ∧ n ≤ hi) (hz : ns.length ≤ SZ) : runF defs (k + 2) 4 [.tup (ns.map U.int), .int ns.length, .int lo, .int hi] μ = some (.bl true, μ) := by
  rw [run_are_wholes]
  have t := tuple_ok k (ns.map U.int) ns.length ns.length μ (by simp)
  have c : evalE (runF defs (k + 1)) μ.length c_are_wholes_0 [some (.tup (ns.map U.int)), some (.int ns.length), some (.int lo), some (.int hi), none] μ = some (.lst (ns.map fun _ => .bl true), μ) := by
    refine (ev_comp (us := [.tup (ns.map U.int)]) (μ1 := μ) rfl rfl (compL_all (g := fun _ => .bl true) (fun x hx => ?_) (by simpa using hz))).trans rfl
    simp [cstep, exL, exS, evalE, evalL, evalB, evBin, evCmp, evEq, evIn, evLt, neg?, evIdx, evBi, evIsi, truth, asL, asS, cont, asInt, R.fresh, bindP, bindPs, bindI, R.finish, frz, wipeE, R.isNon, okw, okm, evMe, sky, tky, evSlc, evRev, bnd, walk, items, evCol, dget, dput, storeSub, intL, intT, bls, pairKV, keyU, keysU, mulOk, dat, mapO, nomut, nomuts, lk, biF, D0, endO, whole_ok k x lo hi μ (h x hx)]
  simp [b_are_wholes, t, c, exL, exS, evalE, evalL, evalB, evBin, evCmp, evEq, evIn, evLt, neg?, evIdx, evBi, evIsi, truth, asL, asS, cont, asInt, R.fresh, bindP, bindPs, bindI, R.finish, frz, wipeE, R.isNon, okw, okm, evMe, sky, tky, evSlc, evRev, bnd, walk, items, evCol, dget, dput, storeSub, intL, intT, bls, pairKV, keyU, keysU, mulOk, dat, mapO, nomut, nomuts, lk, biF, D0, endO, all_bls, -List.map_const']
abbrev pU (p : Nat × Nat) : U := .tup [I p.1, I p.2]
abbrev tU (n : Nat) (es : List (Nat × Nat)) : U := .tup [I n, .tup (es.map pU)]
def lex (p q : Nat × Nat) : Prop := p.1 < q.1 ∨ p.1 = q.1 ∧ p.2 < q.2
structure Town (n : Nat) (es : List (Nat × Nat)) (rk : Nat → Nat) : Prop where
  n1 : 1 ≤ n
  n40 : n ≤ 40
  len : es.length ≤ 400
  lt : ∀ p ∈ es, p.1 < p.2 ∧ p.2 < n
  asc : es.Pairwise lex
  rk : ∀ h, 1 ≤ h → h < n → ∃ g, ((g, h) ∈ es ∨ (h, g) ∈ es) ∧ rk g < rk h
theorem pair_ok (k : Nat) (p : Nat × Nat) (n : Nat) (μ : Mu) (h : p.1 < p.2 ∧ p.2 < n) : runF defs (k + 2) 5 [pU p, I n] μ = some (.bl true, μ) := by
  rw [run_is_pair_of]
  have t := tuple_ok k [I p.1, I p.2] 2 2 μ (by simp)
  have w1 := whole_ok k p.1 0 ((n : Int) - 1) μ (by omega)
  have w2 := whole_ok k p.2 0 ((n : Int) - 1) μ (by omega)
  have c : (p.1 : Int) < p.2 := by omega
  have a0 : atI [I p.1, I p.2] (0 : Int) = some (I p.1) := rfl
  have a1 : atI [I p.1, I p.2] (1 : Int) = some (I p.2) := rfl
  simp [b_is_pair_of, exL, exS, evalE, evalL, evalB, evBin, evCmp, evEq, evIn, evLt, neg?, evIdx, evBi, evIsi, truth, asL, asS, cont, asInt, R.fresh, bindP, bindPs, bindI, R.finish, frz, wipeE, R.isNon, okw, okm, evMe, sky, tky, evSlc, evRev, bnd, walk, items, evCol, dget, dput, storeSub, intL, intT, bls, pairKV, keyU, keysU, mulOk, dat, mapO, nomut, nomuts, lk, biF, D0, endO, t, w1, w2, a0, a1, h.1]
theorem chain_zip {α : Type} {R : α → α → Prop} : ∀ {l : List α}, l.Pairwise R → ∀ q ∈ l.zip (l.drop 1), R q.1 q.2
  | [], _, q, h => by simp at h
  | [a], _, q, h => by simp at h
  | a :: b :: l, hp, q, h => by
    simp only [List.drop_succ_cons, List.drop_zero, List.zip_cons_cons, List.mem_cons] at h
    rcases h with h | h
    · subst h
      exact (List.pairwise_cons.mp hp).1 b (by simp)
    · exact chain_zip (l := b :: l) (List.pairwise_cons.mp hp).2 q (by simpa using h)
theorem lex_lt {p q : Nat × Nat} (h : lex p q) (μ : Mu) : evLt μ (pU p) (pU q) = some true := by
  have e : PySem.W.dataLt (.tuple [.int p.1, .int p.2]) (.tuple [.int q.1, .int q.2]) = true := by
    rw [PySem.W.dataLt_ii]
    unfold lex at h
    simp
    omega
  simp [evLt, dat, mapO, D0, e, PySem.W.alike, PySem.W.alikeAll]
theorem asc_ok (k : Nat) (es : List (Nat × Nat)) (μ : Mu) (h : es.Pairwise lex) (hz : es.length ≤ 400) : runF defs (k + 1) 3 [.tup (es.map pU)] μ = some (.bl true, μ) := by
  rw [run_is_ascending]
  have c : evalE (runF defs k) μ.length c_is_ascending_0 [some (.tup (es.map pU)), none, none] μ = some (.lst ((es.zip (es.drop 1)).map fun _ => .bl true), μ) := by
    refine (ev_comp (us := [.tup (es.map pU), .tup ((es.drop 1).map pU)]) (μ1 := μ) ?_ ?_ (compL_all (enc := fun q : (Nat × Nat) × (Nat × Nat) => .tup [pU q.1, pU q.2]) (g := fun _ => .bl true) (xs := es.zip (es.drop 1)) (fun q hq => ?_) (by simp; unfold SZ; omega))).trans rfl
    · have := cutU_from (es.map pU) 1
      simp [exL, exS, evalE, evalL, evalB, evBin, evCmp, evEq, evIn, evLt, neg?, evIdx, evBi, evIsi, truth, asL, asS, cont, asInt, R.fresh, bindP, bindPs, bindI, R.finish, frz, wipeE, R.isNon, okw, okm, evMe, sky, tky, evSlc, evRev, bnd, walk, items, evCol, dget, dput, storeSub, intL, intT, bls, pairKV, keyU, keysU, mulOk, dat, mapO, nomut, nomuts, lk, biF, D0, endO] at this ⊢
      exact this
    · simp only [walk, zip_enc]
    · have hl := lex_lt (chain_zip h q hq) μ
      simp only [cstep, bindP, bindPs, wipeE, evalE, truth]
      simp [evCmp, hl]
  simp [b_is_ascending, c, exL, exS, evalE, evalL, evalB, evBin, evCmp, evEq, evIn, evLt, neg?, evIdx, evBi, evIsi, truth, asL, asS, cont, asInt, R.fresh, bindP, bindPs, bindI, R.finish, frz, wipeE, R.isNon, okw, okm, evMe, sky, tky, evSlc, evRev, bnd, walk, items, evCol, dget, dput, storeSub, intL, intT, bls, pairKV, keyU, keysU, mulOk, dat, mapO, nomut, nomuts, lk, biF, D0, endO, all_bls, -List.map_const', -List.drop_one]
theorem friends_ok (k : Nat) {n : Nat} {es : List (Nat × Nat)} {rk : Nat → Nat} (μ : Mu) (T : Town n es rk) : runF defs (k + 3) 6 [tU n es] μ = some (.bl true, μ) := by
  rw [run_are_friends]
  have n1 := T.n1
  have n40 := T.n40
  have hl := T.len
  have t := tuple_ok (k + 1) [I n, .tup (es.map pU)] 2 2 μ (by simp)
  have w := whole_ok (k + 1) n 1 60 μ (by omega)
  have t2 := tuple_ok (k + 1) (es.map pU) 0 400 μ (by simp; omega)
  have a := asc_ok (k + 1) es μ T.asc T.len
  have a0 : atI [I n, .tup (es.map pU)] (0 : Int) = some (I n) := rfl
  have a1 : atI [I n, .tup (es.map pU)] (1 : Int) = some (.tup (es.map pU)) := rfl
  have c : evalE (runF defs (k + 2)) μ.length c_are_friends_0 [some (tU n es), none] μ = some (.lst (es.map fun _ => .bl true), μ) := by
    refine (ev_comp (us := [.tup (es.map pU)]) (μ1 := μ) ?_ rfl (compL_all (enc := pU) (g := fun _ => .bl true) (xs := es) (fun q hq => ?_) (by simp; unfold SZ; omega))).trans rfl
    · simp [exL, exS, evalE, evalL, evalB, evBin, evCmp, evEq, evIn, evLt, neg?, evIdx, evBi, evIsi, truth, asL, asS, cont, asInt, R.fresh, bindP, bindPs, bindI, R.finish, frz, wipeE, R.isNon, okw, okm, evMe, sky, tky, evSlc, evRev, bnd, walk, items, evCol, dget, dput, storeSub, intL, intT, bls, pairKV, keyU, keysU, mulOk, dat, mapO, nomut, nomuts, lk, biF, D0, endO, a1]
    · simp [cstep, exL, exS, evalE, evalL, evalB, evBin, evCmp, evEq, evIn, evLt, neg?, evIdx, evBi, evIsi, truth, asL, asS, cont, asInt, R.fresh, bindP, bindPs, bindI, R.finish, frz, wipeE, R.isNon, okw, okm, evMe, sky, tky, evSlc, evRev, bnd, walk, items, evCol, dget, dput, storeSub, intL, intT, bls, pairKV, keyU, keysU, mulOk, dat, mapO, nomut, nomuts, lk, biF, D0, endO, a0, pair_ok k q n μ (T.lt q hq)]
  simp [b_are_friends, t, w, t2, a, c, a0, a1, exL, exS, evalE, evalL, evalB, evBin, evCmp, evEq, evIn, evLt, neg?, evIdx, evBi, evIsi, truth, asL, asS, cont, asInt, R.fresh, bindP, bindPs, bindI, R.finish, frz, wipeE, R.isNon, okw, okm, evMe, sky, tky, evSlc, evRev, bnd, walk, items, evCol, dget, dput, storeSub, intL, intT, bls, pairKV, keyU, keysU, mulOk, dat, mapO, nomut, nomuts, lk, biF, D0, endO, all_bls, -List.map_const']
theorem need_friends_ok (k : Nat) {n : Nat} {es : List (Nat × Nat)} {rk : Nat → Nat} (μ : Mu) (T : Town n es rk) : runF defs (k + 4) 7 [tU n es] μ = some (.non, μ) := by
  rw [run_need_friends]
  simp [b_need_friends, friends_ok k μ T, exL, exS, evalE, evalL, evalB, evBin, evCmp, evEq, evIn, evLt, neg?, evIdx, evBi, evIsi, truth, asL, asS, cont, asInt, R.fresh, bindP, bindPs, bindI, R.finish, frz, wipeE, R.isNon, okw, okm, evMe, sky, tky, evSlc, evRev, bnd, walk, items, evCol, dget, dput, storeSub, intL, intT, bls, pairKV, keyU, keysU, mulOk, dat, mapO, nomut, nomuts, lk, biF, D0, endO]
end K50

set_option Elab.async false
set_option linter.all false
set_option maxRecDepth 100000
set_option maxHeartbeats 4000000
namespace K50
open PySem L2 R
abbrev rho (r : List Nat) : U := .lst (r.map I)
/-- one pair more -/
def addE (rows : List (List Nat)) (p : Nat × Nat) : List (List Nat) :=
  let r1 := rows.set p.1 (rows[p.1]?.getD [] ++ [p.2])
  r1.set p.2 (r1[p.2]?.getD [] ++ [p.1])
def rowsOf (n : Nat) (es : List (Nat × Nat)) : List (List Nat) := es.foldl addE (List.replicate n [])
theorem addE_len (rows : List (List Nat)) (p : Nat × Nat) : (addE rows p).length = rows.length := by simp [addE]
theorem rowsOf_len (n : Nat) (es : List (Nat × Nat)) : (rowsOf n es).length = n := by
  unfold rowsOf
  have : ∀ (es : List (Nat × Nat)) (rows : List (List Nat)), (es.foldl addE rows).length = rows.length := by
    intro es
    induction es with
    | nil => intro rows; rfl
    | cons p es ih => intro rows; simp [ih, addE_len]
  simp [this]
theorem addE_mem {rows : List (List Nat)} {p : Nat × Nat} (h1 : p.1 < rows.length) (h2 : p.2 < rows.length) (hne : p.1 ≠ p.2) (g h : Nat) :
    h ∈ (addE rows p)[g]?.getD [] ↔ h ∈ rows[g]?.getD [] ∨ (g, h) = p ∨ (h, g) = p := by
  obtain ⟨a, b⟩ := p
  simp only at h1 h2 hne
  unfold addE
  simp only
  by_cases e2 : b = g
  · subst e2
    rw [List.getElem?_set_self (by simpa using h2)]
    rw [List.getElem?_set_ne hne]
    simp only [Option.getD_some, List.mem_append, List.mem_singleton, Prod.mk.injEq]
    constructor
    · rintro (z | z)
      · exact .inl z
      · exact .inr (.inr ⟨z, trivial⟩)
    · rintro (z | z | z)
      · exact .inl z
      · exact absurd z.1.symm hne
      · exact .inr z.1
  · rw [List.getElem?_set_ne e2]
    by_cases e1 : a = g
    · subst e1
      rw [List.getElem?_set_self h1]
      simp only [Option.getD_some, List.mem_append, List.mem_singleton, Prod.mk.injEq]
      constructor
      · rintro (z | z)
        · exact .inl z
        · exact .inr (.inl ⟨trivial, z⟩)
      · rintro (z | z | z)
        · exact .inl z
        · exact .inr z.2
        · exact absurd z.2.symm e2
    · rw [List.getElem?_set_ne e1]
      simp only [Prod.mk.injEq]
      constructor
      · exact .inl
      · rintro (z | z | z)
        · exact z
        · exact absurd z.1.symm e1
        · exact absurd z.2.symm e2
theorem rowsOf_mem {n : Nat} {es : List (Nat × Nat)} (he : ∀ p ∈ es, p.1 < p.2 ∧ p.2 < n) (g h : Nat) : h ∈ (rowsOf n es)[g]?.getD [] ↔ (g, h) ∈ es ∨ (h, g) ∈ es := by
  unfold rowsOf
  have : ∀ (es : List (Nat × Nat)) (rows : List (List Nat)), rows.length = n → (∀ p ∈ es, p.1 < p.2 ∧ p.2 < n) → (h ∈ (es.foldl addE rows)[g]?.getD [] ↔ h ∈ rows[g]?.getD [] ∨ (g, h) ∈ es ∨ (h, g) ∈ es) := by
    intro es
    induction es with
    | nil => intro rows _ _; simp
    | cons p es ih =>
      intro rows hl hp
      have hp1 := hp p (by simp)
      rw [List.foldl_cons, ih _ (by rw [addE_len]; exact hl) (fun q hq => hp q (by simp [hq])), addE_mem (by omega) (by omega) (by omega)]
      simp only [List.mem_cons]
      constructor
      · rintro ((z | z | z) | z | z)
        · exact .inl z
        · exact .inr (.inl (.inl z))
        · exact .inr (.inr (.inl z))
        · exact .inr (.inl (.inr z))
        · exact .inr (.inr (.inr z))
      · rintro (z | (z | z) | (z | z))
        · exact .inl (.inl z)
        · exact .inl (.inr (.inl z))
        · exact .inr (.inl z)
        · exact .inl (.inr (.inr z))
        · exact .inr (.inr z)
  rw [this es _ (by simp) he]
  simp [List.getElem?_replicate]
  intro z
  split at z <;> simp at z
/-- new lists, one a turn -/
theorem compL_new {step : U → Mu → Option (Option U × Mu)} : ∀ {xs : List U} {acc : List U} {μ : Mu}, (∀ x ∈ xs, ∀ μ, step x μ = some (some (.ob μ.length), μ ++ [.lst []])) → acc.length + xs.length ≤ SZ →
    compL step xs acc μ = some (acc ++ (List.range xs.length).map (fun i => .ob (μ.length + i)), μ ++ List.replicate xs.length (.lst []))
  | [], acc, μ, _, _ => by simp [compL]
  | x :: xs, acc, μ, h, hl => by
    simp only [compL]
    rw [h x (by simp)]
    simp only
    rw [if_pos (by simp at hl; omega), compL_new (fun y hy => h y (by simp [hy])) (by simp at hl ⊢; omega)]
    simp [List.range_succ_eq_map, List.replicate_succ, Function.comp_def]
    intro a _
    omega
theorem mapO_frzI (n : Nat) (μ : Mu) (k : Nat) (r : List Nat) : mapO (frz n μ k) (r.map I) = some (r.map I) := mapO_map fun x _ => by cases k <;> rfl
theorem frz_rho (n : Nat) (μ : Mu) (k : Nat) (r : List Nat) : frz n μ (k + 1) (rho r) = some (rho r) := by
  simp only [frz, mapO_frzI]
theorem frz_rows (n : Nat) (μ : Mu) (k : Nat) (rs : List (List Nat)) : frz n μ (k + 2) (.lst (rs.map rho)) = some (.lst (rs.map rho)) := by
  simp only [frz]
  rw [mapO_map (h := rho) fun x _ => frz_rho n μ k x]
/-- the mutable rows, frozen -/
theorem frz_obs (μ : Mu) (rs : List (List Nat)) (k : Nat) : frz μ.length (μ ++ rs.map rho) (k + 2) (.lst ((List.range rs.length).map fun i => .ob (μ.length + i))) = some (.lst (rs.map rho)) := by
  simp only [frz]
  have e : rs.map rho = (List.range rs.length).map fun i => rho (rs[i]?.getD []) := by
    apply List.ext_getElem?
    intro i
    simp only [List.getElem?_map]
    by_cases h : i < rs.length
    · simp [h]
    · simp [h]
  rw [mapO_map (h := fun i => rho (rs[i]?.getD [])) (xs := List.range rs.length) ?_]
  · rw [← e]
  · intro i hi
    have hi : i < rs.length := by simpa using hi
    simp only [frz]
    rw [if_neg (by omega), List.getElem?_append_right (by omega)]
    simp [hi, mapO_frzI]
/-- the pairs are walked, both rows get one more -/
theorem beside_loop {cal : Nat → List U → Mu → Option (U × Mu)} (μ : Mu) (n : Nat) (es : List (Nat × Nat)) (he : ∀ p ∈ es, p.1 < p.2 ∧ p.2 < n) (hz : es.length ≤ 400) {f : U} {rest : R.Env} (lb : List S)
    (hlb : lb = [.ex (.me false .append (.idx (.var 1) (.var 2)) [(.var 3)]), .ex (.me false .append (.idx (.var 1) (.var 3)) [(.var 2)])]) (x2 x3 : Option U) :
    ∃ y2 y3, forL (fstep cal μ.length (.tup [(.slot 2), (.slot 3)]) lb) (es.map pU) (some f :: some (.lst ((List.range n).map fun i => .ob (μ.length + i))) :: x2 :: x3 :: rest) (μ ++ List.replicate n (.lst [])) =
      some (.nx (some f :: some (.lst ((List.range n).map fun i => .ob (μ.length + i))) :: y2 :: y3 :: rest) (μ ++ (rowsOf n es).map rho)) := by
  have row_le : ∀ (es : List (Nat × Nat)) (rows : List (List Nat)) (g : Nat), ((es.foldl addE rows)[g]?.getD []).length ≤ (rows[g]?.getD []).length + 2 * es.length := by
    intro es
    induction es with
    | nil => intro rows g; simp
    | cons p es ih =>
      intro rows g
      rw [List.foldl_cons]
      refine Nat.le_trans (ih _ g) ?_
      have : ((addE rows p)[g]?.getD []).length ≤ (rows[g]?.getD []).length + 2 := by
        unfold addE
        simp only [List.getElem?_set]
        split <;> split <;> simp_all
        all_goals (try split) <;> simp_all <;> try omega
      simp
      omega
  obtain ⟨σ', μ', e, y2, y3, rfl, rfl⟩ := forL_inv0 (step := fstep cal μ.length (.tup [(.slot 2), (.slot 3)]) lb) (xs := es.map pU)
    (fun i σ μ' => ∃ y2 y3, σ = (some f :: some (.lst ((List.range n).map fun i => .ob (μ.length + i))) :: y2 :: y3 :: rest) ∧ μ' = μ ++ (rowsOf n (es.take i)).map rho)
    (σ := (some f :: some (.lst ((List.range n).map fun i => .ob (μ.length + i))) :: x2 :: x3 :: rest)) (μ := μ ++ List.replicate n (.lst []))
    ⟨x2, x3, rfl, by simp [rowsOf, rho]⟩ (fun i x σ μ' hx hp => by
      obtain ⟨y2, y3, rfl, rfl⟩ := hp
      rw [List.getElem?_map] at hx
      cases hp : es[i]? with
      | none => rw [hp] at hx; cases hx
      | some p =>
        rw [hp] at hx
        cases hx
        obtain ⟨h1, h2⟩ := he p (List.mem_of_getElem? hp)
        have e1 : rowsOf n (es.take (i + 1)) = addE (rowsOf n (es.take i)) p := by
          unfold rowsOf
          rw [List.take_add_one, hp, List.foldl_append]
          rfl
        have hlen := rowsOf_len n (es.take i)
        have hle : ∀ g, ((rowsOf n (es.take i))[g]?.getD []).length ≤ 2 * es.length := fun g => by
          have := row_le (es.take i) (List.replicate n []) g
          unfold rowsOf
          have h0 : ((List.replicate n ([] : List Nat))[g]?.getD []).length = 0 := by
            simp [List.getElem?_replicate]; split <;> simp
          have h3 : (es.take i).length ≤ es.length := by simp; omega
          omega
        have hsz : 2 * es.length < SZ := by unfold SZ; omega
        refine ⟨some f :: some (.lst ((List.range n).map fun i => .ob (μ.length + i))) :: some (I p.1) :: some (I p.2) :: rest, μ ++ (addE (rowsOf n (es.take i)) p).map rho, .inl ?_, some (I p.1), some (I p.2), rfl, ?_⟩
        · subst hlb
          have a1 : atI ((List.range n).map fun i => U.ob (μ.length + i)) (p.1 : Int) = some (.ob (μ.length + p.1)) := atI_of (by rw [List.getElem?_map, List.getElem?_range (by omega)]; rfl)
          have a2 : atI ((List.range n).map fun i => U.ob (μ.length + i)) (p.2 : Int) = some (.ob (μ.length + p.2)) := atI_of (by rw [List.getElem?_map, List.getElem?_range (by omega)]; rfl)
          have m1 : (μ ++ (rowsOf n (es.take i)).map rho)[μ.length + p.1]? = some (rho ((rowsOf n (es.take i))[p.1]?.getD [])) := by
            rw [List.getElem?_append_right (by omega)]
            simp [hlen, show p.1 < n by omega]
          have s1 : (μ ++ (rowsOf n (es.take i)).map rho).set (μ.length + p.1) (.lst ((((rowsOf n (es.take i))[p.1]?.getD []).map I) ++ [I p.2])) = μ ++ ((rowsOf n (es.take i)).set p.1 ((rowsOf n (es.take i))[p.1]?.getD [] ++ [p.2])).map rho := by
            rw [List.set_append_right _ _ (by omega)]
            simp [List.map_set, rho]
          have hr1 : ((rowsOf n (es.take i)).set p.1 ((rowsOf n (es.take i))[p.1]?.getD [] ++ [p.2]))[p.2]? = some ((rowsOf n (es.take i))[p.2]?.getD []) := by
            rw [List.getElem?_set_ne (by omega)]
            simp [hlen, h2]
          have m2 : (μ ++ ((rowsOf n (es.take i)).set p.1 ((rowsOf n (es.take i))[p.1]?.getD [] ++ [p.2])).map rho)[μ.length + p.2]? = some (rho ((rowsOf n (es.take i))[p.2]?.getD [])) := by
            rw [List.getElem?_append_right (by omega)]
            simp only [Nat.add_sub_cancel_left, List.getElem?_map, hr1]
            rfl
          have s2 : (μ ++ ((rowsOf n (es.take i)).set p.1 ((rowsOf n (es.take i))[p.1]?.getD [] ++ [p.2])).map rho).set (μ.length + p.2) (.lst ((((rowsOf n (es.take i))[p.2]?.getD []).map I) ++ [I p.1])) = μ ++ (addE (rowsOf n (es.take i)) p).map rho := by
            rw [List.set_append_right _ _ (by omega)]
            unfold addE
            simp only [hr1]
            simp [List.map_set, rho]
          have l1 := hle p.1
          have l2 := hle p.2
          show exL cal μ.length _ (some f :: some (.lst ((List.range n).map fun i => .ob (μ.length + i))) :: some (I p.1) :: some (I p.2) :: rest) _ = _
          rw [ex_seq (ex_append (ev_idxL (ev_var rfl) (ev_var rfl) rfl a1) (ev_var rfl) m1 (by rw [List.length_map]; omega) (by omega)), s1]
          rw [ex_seq (ex_append (ev_idxL (ev_var rfl) (ev_var rfl) rfl a2) (ev_var rfl) m2 (by rw [List.length_map]; omega) (by omega)), s2]
          exact ex_nil
        · rw [e1])
  refine ⟨y2, y3, ?_⟩
  rw [e]
  simp

theorem tU0 {n : Nat} {es : List (Nat × Nat)} : atI [I n, .tup (es.map pU)] (0 : Int) = some (I n) := rfl
theorem tU1 {n : Nat} {es : List (Nat × Nat)} : atI [I n, .tup (es.map pU)] (1 : Int) = some (.tup (es.map pU)) := rfl
theorem walk_rng {μ : Mu} {n : Nat} (h : n < 2 ^ 60) : walk μ .rng [I n] = some (.inl ((List.range n).map I)) := by
  simp only [walk]
  rw [if_pos (by omega), rgn_nat]
theorem obs_ok {cal : Nat → List U → Mu → Option (U × Mu)} {n0 : Nat} {μ : Mu} {n : Nat} {es : List (Nat × Nat)} (hn : n ≤ 40) {σ : R.Env} (h0 : σ[0]? = some (some (tU n es))) :
    evalE cal n0 (.comp false (.slot 4) .rng [(.idx (.var 0) (.int 0))] (.bl true) (.lst true []) [4]) σ μ = some (.lst ((List.range n).map fun i => .ob (μ.length + i)), μ ++ List.replicate n (.lst [])) := by
  have c := compL_new (step := cstep cal n0 (.slot 4) (.bl true) (.lst true []) [4] σ) (xs := (List.range n).map I) (acc := []) (μ := μ) (fun x _ μ => by simp [cstep, exL, exS, evalE, evalL, evalB, evBin, evCmp, evEq, evIn, evLt, neg?, evIdx, evBi, evIsi, truth, asL, asS, cont, asInt, R.fresh, bindP, bindPs, bindI, R.finish, frz, wipeE, R.isNon, okw, okm, evMe, sky, tky, evSlc, evRev, bnd, walk, items, evCol, dget, dput, storeSub, intL, intT, bls, pairKV, keyU, keysU, mulOk, dat, mapO, nomut, nomuts, lk, biF, D0]) (by simp; unfold SZ; omega)
  rw [List.length_map, List.length_range] at c
  exact ev_comp (ev_l1 (ev_idxT (ev_var h0) rfl tU0)) (walk_rng (by omega)) c
theorem law_beside_ok (k : Nat) {n : Nat} {es : List (Nat × Nat)} {rk : Nat → Nat} (μ : Mu) (T : Town n es rk) : runF defs (k + 1) 28 [tU n es] μ = some (.lst ((rowsOf n es).map rho), μ) := by
  rw [run__law_beside]
  have l := rowsOf_len n es
  have f : frz μ.length (μ ++ (rowsOf n es).map rho) D0 (.lst ((List.range (rowsOf n es).length).map fun i => .ob (μ.length + i))) = some (.lst ((rowsOf n es).map rho)) := frz_obs μ (rowsOf n es) 10
  rw [l] at f
  obtain ⟨y2, y3, e⟩ := beside_loop (cal := runF defs k) μ n es T.lt T.len (f := tU n es) (rest := [none]) lb__law_beside_1 rfl none none
  have b : exL (runF defs k) μ.length b__law_beside [some (tU n es), none, none, none, none] μ = some (.rt (.lst ((List.range n).map fun i => .ob (μ.length + i))) (μ ++ (rowsOf n es).map rho)) := by
    unfold b__law_beside
    refine (ex_seq (ex_set (show evalE _ _ c__law_beside_0 _ _ = _ from obs_ok T.n40 rfl))).trans ?_
    refine (ex_seq (((show exS _ _ l__law_beside_1 _ _ = _ from ex_for (ev_l1 (ev_idxT (ev_var rfl) rfl tU1)) rfl)).trans e)).trans ?_
    exact ex_ret (ev_var rfl)
  exact (if_pos rfl).trans (run_rt b (fin_cut f (by simp)))
theorem row_le : ∀ (es : List (Nat × Nat)) (rows : List (List Nat)) (g : Nat), ((es.foldl addE rows)[g]?.getD []).length ≤ (rows[g]?.getD []).length + 2 * es.length := by
    intro es
    induction es with
    | nil => intro rows g; simp
    | cons p es ih =>
      intro rows g
      rw [List.foldl_cons]
      refine Nat.le_trans (ih _ g) ?_
      have : ((addE rows p)[g]?.getD []).length ≤ (rows[g]?.getD []).length + 2 := by
        unfold addE
        simp only [List.getElem?_set]
        split <;> split <;> simp_all
        all_goals (try split) <;> simp_all <;> try omega
      simp
      omega
theorem row_sz {n : Nat} {es : List (Nat × Nat)} {rk : Nat → Nat} (T : Town n es rk) (g : Nat) : ((rowsOf n es)[g]?.getD []).length ≤ SZ := by
  have := row_le es (List.replicate n []) g
  have h0 : ((List.replicate n ([] : List Nat))[g]?.getD []).length = 0 := by
    simp [List.getElem?_replicate]; split <;> simp
  have := T.len
  unfold SZ rowsOf
  omega
/-- the rows in order -/
def srt (r : List Nat) : List Nat := r.mergeSort fun a b => decide (a ≤ b)
theorem srt_mem (r : List Nat) (h : Nat) : h ∈ srt r ↔ h ∈ r := (List.mergeSort_perm _ _).mem_iff
theorem srt_U (r : List Nat) : ((r.map fun (x : Nat) => (x : Int)).mergeSort fun a b => decide (a ≤ b)).map U.int = (srt r).map I := by
  unfold srt
  rw [← List.map_mergeSort (r := fun a b => decide (a ≤ b)) (s := fun a b => decide (a ≤ b)) (f := fun (x : Nat) => (x : Int))]
  · rw [List.map_map]; rfl
  · intro a _ b _; simp
theorem srtd_I (μ : Mu) (r : List Nat) (h : r.length ≤ SZ) : srtd μ (r.map I) = some ((srt r).map I) := by
  have := srtd_ints μ (r.map fun (x : Nat) => (x : Int)) (by simpa using h)
  rw [srt_U, List.map_map] at this
  exact this
theorem beside_ok (k : Nat) {n : Nat} {es : List (Nat × Nat)} {rk : Nat → Nat} (μ : Mu) (T : Town n es rk) : runF defs (k + 1) 8 [tU n es] μ = some (.lst (((rowsOf n es).map srt).map rho), μ) := by
  rw [run_beside]
  have l := rowsOf_len n es
  obtain ⟨y2, y3, e⟩ := beside_loop (cal := runF defs k) μ n es T.lt T.len (f := tU n es) (rest := [none, none]) lb_beside_1 rfl none none
  have c : ∀ y2 y3 : Option U, evalE (runF defs k) μ.length c_beside_3 [some (tU n es), some (.lst ((List.range n).map fun i => .ob (μ.length + i))), y2, y3, none, none] (μ ++ (rowsOf n es).map rho) = some (.lst (((rowsOf n es).map srt).map rho), μ ++ (rowsOf n es).map rho) := by
    intro y2 y3
    have e1 : ((rowsOf n es).map srt).map rho = (List.range n).map fun i => rho (srt ((rowsOf n es)[i]?.getD [])) := by
      apply List.ext_getElem?
      intro i
      simp only [List.getElem?_map]
      by_cases h : i < n
      · have h' : i < (rowsOf n es).length := by omega
        simp [h, h']
      · have h' : ¬ i < (rowsOf n es).length := by omega
        simp [h, h']
    rw [e1]
    refine (ev_comp (xs := (List.range n).map fun i => .ob (μ.length + i)) (μ2 := μ ++ (rowsOf n es).map rho) (ev_l1 (ev_var rfl)) rfl (compL_all (enc := fun i => U.ob (μ.length + i)) (g := fun i => rho (srt ((rowsOf n es)[i]?.getD []))) (fun i hi => ?_) (by simp; unfold SZ; have := T.n40; omega))).trans rfl
    have hi : i < n := by simpa using hi
    have m1 : (μ ++ (rowsOf n es).map rho)[μ.length + i]? = some (rho ((rowsOf n es)[i]?.getD [])) := by
      rw [List.getElem?_append_right (by omega)]
      simp [l, hi]
    have it : asS (μ ++ (rowsOf n es).map rho) (.ob (μ.length + i)) = some (((rowsOf n es)[i]?.getD []).map I) := by
      simp only [asS, asL, m1]
    refine cs_yes rfl (ev_col (ev_l1 (ev_var rfl)) (xs := ((rowsOf n es)[i]?.getD []).map I) ?_ ?_)
    · simp only [items, it]
    · simp only [evCol]
      rw [srtd_I _ _ (row_sz T i)]
      rfl
  have b : exL (runF defs k) μ.length b_beside [some (tU n es), none, none, none, none, none] μ = some (.rt (.lst (((rowsOf n es).map srt).map rho)) (μ ++ (rowsOf n es).map rho)) := by
    unfold b_beside
    refine (ex_seq (ex_set (show evalE _ _ c_beside_0 _ _ = _ from obs_ok T.n40 rfl))).trans ?_
    refine (ex_seq (((show exS _ _ l_beside_1 _ _ = _ from ex_for (ev_l1 (ev_idxT (ev_var rfl) rfl tU1)) rfl)).trans e)).trans ?_
    exact ex_ret (c _ _)
  exact (if_pos rfl).trans (run_rt b (fin_cut (show frz μ.length (μ ++ (rowsOf n es).map rho) D0 (.lst (((rowsOf n es).map srt).map rho)) = some _ from frz_rows _ _ 10 _) (by simp)))
end K50

set_option Elab.async false
set_option linter.all false
set_option maxRecDepth 100000
set_option maxHeartbeats 4000000
namespace K50
open PySem L2 R
abbrev nb (rs : List (List Nat)) (g : Nat) : List Nat := rs[g]?.getD []
/-- d is the distance from 0, ks the houses that are reached -/
structure Dst (n : Nat) (rs : List (List Nat)) (ks : List Nat) (d : Nat → Nat) : Prop where
  nd : ks.Nodup
  zero : 0 ∈ ks
  d0 : d 0 = 0
  lt : ∀ h ∈ ks, h < n
  prev : ∀ h ∈ ks, h ≠ 0 → ∃ g ∈ ks, h ∈ nb rs g ∧ d h = d g + 1
  next : ∀ g ∈ ks, ∀ h ∈ nb rs g, h ∈ ks ∧ d h ≤ d g + 1
theorem Dst.le {n n' : Nat} {rs rs' : List (List Nat)} {ks ks' : List Nat} {d d' : Nat → Nat} (hm : ∀ g h, h ∈ nb rs' g → h ∈ nb rs g) (D : Dst n rs ks d) (D' : Dst n' rs' ks' d') : ∀ (m h : Nat), h ∈ ks' → d' h = m → h ∈ ks ∧ d h ≤ m := by
  intro m
  induction m with
  | zero =>
    intro h hk e
    by_cases h0 : h = 0
    · subst h0; exact ⟨D.zero, by rw [D.d0]; exact Nat.le_refl _⟩
    · obtain ⟨g, _, _, e2⟩ := D'.prev h hk h0
      omega
  | succ m ih =>
    intro h hk e
    by_cases h0 : h = 0
    · subst h0; have := D'.d0; omega
    · obtain ⟨g, hg, hh, e2⟩ := D'.prev h hk h0
      obtain ⟨g1, g2⟩ := ih g hg (by omega)
      obtain ⟨a, b⟩ := D.next g g1 h (hm g h hh)
      exact ⟨a, by omega⟩
/-- the distance is one -/
theorem Dst.uniq {n n' : Nat} {rs rs' : List (List Nat)} {ks ks' : List Nat} {d d' : Nat → Nat} (hm : ∀ g h, h ∈ nb rs' g ↔ h ∈ nb rs g) (D : Dst n rs ks d) (D' : Dst n' rs' ks' d') {h : Nat} (hk : h ∈ ks) : h ∈ ks' ∧ d' h = d h := by
  obtain ⟨a, b⟩ := D'.le (fun g h => (hm g h).mpr) D _ h hk rfl
  obtain ⟨_, c⟩ := D.le (fun g h => (hm g h).mp) D' _ h a rfl
  exact ⟨a, by omega⟩
/-- all are reached -/
theorem Dst.all {n : Nat} {rs : List (List Nat)} {ks : List Nat} {d rk : Nat → Nat} (D : Dst n rs ks d) (hr : ∀ h, 1 ≤ h → h < n → ∃ g, h ∈ nb rs g ∧ g < n ∧ rk g < rk h) : ∀ (m h : Nat), rk h < m → h < n → h ∈ ks := by
  intro m
  induction m with
  | zero => intro h hm; omega
  | succ m ih =>
    intro h hm hn
    by_cases h0 : h = 0
    · subst h0; exact D.zero
    · obtain ⟨g, hg, gn, hl⟩ := hr h (by omega) hn
      exact (D.next g (ih g (by omega) gn) h hg).1

/-! ### spread: a queue -/
abbrev fU (d : Nat → Nat) (pp : Nat → U) (h : Nat) : U := .tup [I (d h), pp h]
/-- the queue's state: at of it are done, c is being done (its row up to i) -/
structure Qs (n : Nat) (rs : List (List Nat)) (q : List Nat) (d : Nat → Nat) (at_ : Nat) : Prop where
  nd : q.Nodup
  zero : 0 ∈ q
  d0 : d 0 = 0
  lt : ∀ h ∈ q, h < n
  prev : ∀ h ∈ q, h ≠ 0 → ∃ g ∈ q, h ∈ nb rs g ∧ d h = d g + 1
  mono : q.Pairwise fun a b => d a ≤ d b
  done : ∀ j c, j < at_ → q[j]? = some c → ∀ h ∈ nb rs c, h ∈ q ∧ d h ≤ d c + 1
def up1 (d : Nat → Nat) (o v : Nat) : Nat → Nat := fun h => if h = o then v else d h
theorem up1_same {d : Nat → Nat} {o v : Nat} : up1 d o v o = v := if_pos rfl
theorem up1_ne {d : Nat → Nat} {o v h : Nat} (e : h ≠ o) : up1 d o v h = d h := if_neg e
theorem ne_mem {q : List Nat} {h o : Nat} (hh : h ∈ q) (ho : o ∉ q) : h ≠ o := fun e => ho (by rw [← e]; exact hh)
theorem Qs.push {n : Nat} {rs : List (List Nat)} {q : List Nat} {d : Nat → Nat} {at_ c o : Nat} (Q : Qs n rs q d at_) (hc : c ∈ q) (ho : o ∉ q) (hn : o < n) (hr : o ∈ nb rs c) (hb : ∀ h ∈ q, d h ≤ d c + 1) (hat : at_ ≤ q.length) :
    Qs n rs (q ++ [o]) (up1 d o (d c + 1)) at_ where
  nd := by
    rw [List.nodup_append]
    exact ⟨Q.nd, by simp, fun a ha b hb z => by simp at hb; subst hb; exact ho (z ▸ ha)⟩
  zero := List.mem_append_left _ Q.zero
  d0 := by
    rw [up1_ne (ne_mem Q.zero ho)]
    exact Q.d0
  lt := fun h hh => by
    rcases List.mem_append.mp hh with z | z
    · exact Q.lt h z
    · simp at z; omega
  prev := fun h hh h0 => by
    rcases List.mem_append.mp hh with z | z
    · obtain ⟨g, g1, g2, g3⟩ := Q.prev h z h0
      refine ⟨g, List.mem_append_left _ g1, g2, ?_⟩
      rw [up1_ne (ne_mem z ho), up1_ne (ne_mem g1 ho)]
      exact g3
    · simp at z
      subst z
      refine ⟨c, List.mem_append_left _ hc, hr, ?_⟩
      rw [up1_same, up1_ne (ne_mem hc ho)]
  mono := by
    rw [List.pairwise_append]
    refine ⟨List.Pairwise.imp_of_mem (fun {a b} ha hb h => ?_) Q.mono, by simp, fun a ha b hb' => ?_⟩
    · rw [up1_ne (ne_mem ha ho), up1_ne (ne_mem hb ho)]
      exact h
    · simp at hb'
      subst hb'
      rw [up1_ne (ne_mem ha ho), up1_same]
      exact hb a ha
  done := fun j x hj hx h hh => by
    rw [List.getElem?_append_left (by omega)] at hx
    obtain ⟨a, b⟩ := Q.done j x hj hx h hh
    have hx' := List.mem_of_getElem? hx
    refine ⟨List.mem_append_left _ a, ?_⟩
    rw [up1_ne (ne_mem a ho), up1_ne (ne_mem hx' ho)]
    exact b
theorem map_push {q : List Nat} {o : Nat} {f g : Nat → U} (ho : o ∉ q) (h : ∀ x ∈ q, f x = g x) : (q ++ [o]).map f = q.map g ++ [f o] := by
  rw [List.map_append]
  congr 1
  exact List.map_congr_left h
def plain (u : U) : Prop := u = .non ∨ ∃ g : Nat, u = I g
theorem spread_row {cal : Nat → List U → Mu → Option (U × Mu)} (μ : Mu) {n : Nat} {rs : List (List Nat)} (hn : n ≤ 40) (hl : rs.length = n) (hrs : ∀ g h, h ∈ nb rs g → h < n) {q : List Nat} {d : Nat → Nat} {pp : Nat → U} {at_ c : Nat} {x5 : Option U}
    (Q : Qs n rs q d at_) (hc : q[at_]? = some c) (hb : ∀ h ∈ q, d h ≤ d c + 1) (hpp : ∀ h, plain (pp h)) :
    ∃ q' d' pp' x5', exS cal μ.length l_spread_0 [some (.lst (rs.map rho)), some (I 0), some (.ob μ.length), some (.ob (μ.length + 1)), some (I (at_ + 1)), x5, some (I c)] (μ ++ [U.dk (q.map kI) (q.map (fU d pp)), U.lst (q.map I)]) =
      some (.nx [some (.lst (rs.map rho)), some (I 0), some (.ob μ.length), some (.ob (μ.length + 1)), some (I (at_ + 1)), x5', some (I c)] (μ ++ [U.dk (q'.map kI) (q'.map (fU d' pp')), U.lst (q'.map I)])) ∧
      Qs n rs q' d' (at_ + 1) ∧ (∀ h ∈ q', d' h ≤ d' c + 1) ∧ q'[at_]? = some c ∧ ∀ h, plain (pp' h) := by
  have hcm := List.mem_of_getElem? hc
  have hcn := Q.lt c hcm
  have hrow : (rs.map rho)[c]? = some (rho (nb rs c)) := by
    have h0 : rs[c]? = some (nb rs c) := by simp [nb, hl, hcn]
    rw [List.getElem?_map, h0]
    rfl
  have e1 : exS cal μ.length l_spread_0 [some (.lst (rs.map rho)), some (I 0), some (.ob μ.length), some (.ob (μ.length + 1)), some (I (at_ + 1)), x5, some (I c)] (μ ++ [U.dk (q.map kI) (q.map (fU d pp)), U.lst (q.map I)]) =
      forL (fstep cal μ.length (.slot 5) lb_spread_0) ((nb rs c).map I) [some (.lst (rs.map rho)), some (I 0), some (.ob μ.length), some (.ob (μ.length + 1)), some (I (at_ + 1)), x5, some (I c)] (μ ++ [U.dk (q.map kI) (q.map (fU d pp)), U.lst (q.map I)]) :=
    ex_for (ev_l1 (ev_idxL (ev_var rfl) (ev_var rfl) rfl (atI_of hrow))) rfl
  rw [e1]
  obtain ⟨σ', μ', e, q', d', pp', x5', rfl, rfl, Q', hb', hc', hall, hpp'⟩ := forL_inv0 (step := fstep cal μ.length (.slot 5) lb_spread_0) (xs := (nb rs c).map I)
    (σ := [some (.lst (rs.map rho)), some (I 0), some (.ob μ.length), some (.ob (μ.length + 1)), some (I (at_ + 1)), x5, some (I c)]) (μ := μ ++ [U.dk (q.map kI) (q.map (fU d pp)), U.lst (q.map I)])
    (fun i σ μ' => ∃ q' d' pp' x5', σ = [some (.lst (rs.map rho)), some (I 0), some (.ob μ.length), some (.ob (μ.length + 1)), some (I (at_ + 1)), x5', some (I c)] ∧ μ' = μ ++ [U.dk (q'.map kI) (q'.map (fU d' pp')), U.lst (q'.map I)] ∧
      Qs n rs q' d' at_ ∧ (∀ h ∈ q', d' h ≤ d' c + 1) ∧ q'[at_]? = some c ∧ (∀ h ∈ (nb rs c).take i, h ∈ q') ∧ ∀ h, plain (pp' h))
    ⟨q, d, pp, x5, rfl, rfl, Q, hb, hc, by simp, hpp⟩ (fun i x σ μ' hx hp => by
      obtain ⟨q', d', pp', x5', rfl, rfl, Q', hb', hc', hall, hpp'⟩ := hp
      rw [List.getElem?_map] at hx
      cases ho : (nb rs c)[i]? with
      | none => rw [ho] at hx; cases hx
      | some o =>
        rw [ho] at hx
        cases hx
        have hor := List.mem_of_getElem? ho
        have hon := hrs c o hor
        have hc'm := List.mem_of_getElem? hc'
        have hat : at_ < q'.length := (List.getElem?_eq_some_iff.mp hc').1
        have hql := nodup_lt Q'.nd Q'.lt
        have mD : (μ ++ [U.dk (q'.map kI) (q'.map (fU d' pp')), U.lst (q'.map I)])[μ.length]? = some (U.dk (q'.map kI) (q'.map (fU d' pp'))) := by
          rw [List.getElem?_append_right (by omega)]
          simp
        by_cases hoq : o ∈ q'
        · refine ⟨[some (.lst (rs.map rho)), some (I 0), some (.ob μ.length), some (.ob (μ.length + 1)), some (I (at_ + 1)), some (I o), some (I c)], μ ++ [U.dk (q'.map kI) (q'.map (fU d' pp')), U.lst (q'.map I)], .inl ?_, q', d', pp', some (I o), rfl, rfl, Q', hb', hc', fun h hh => ?_, hpp'⟩
          · show exL cal μ.length lb_spread_0 [some (.lst (rs.map rho)), some (I 0), some (.ob μ.length), some (.ob (μ.length + 1)), some (I (at_ + 1)), some (I o), some (I c)] _ = _
            have cnd : evCmp (μ ++ [U.dk (q'.map kI) (q'.map (fU d' pp')), U.lst (q'.map I)]) .notin (I o) (.ob μ.length) = some false := by
              simp only [evCmp, evIn, cont, mD, dget, sky, neg?]
              rw [show lk (q'.map kI) (q'.map (fU d' pp')) (Sum.inl (o : Int)) = some (fU d' pp' o) from lk_map hoq]
              rfl
            unfold lb_spread_0
            refine (ex_seq ((ex_ifF (ev_cmp (ev_var rfl) (ev_var rfl) cnd) rfl).trans ex_nil)).trans ?_
            exact ex_nil
          · rw [List.take_add_one, ho] at hh
            rcases List.mem_append.mp hh with z | z
            · exact hall h z
            · simp at z; subst z; exact hoq
        · have ce : (μ ++ [U.dk (q'.map kI) (q'.map (fU d' pp')), U.lst (q'.map I)]).set μ.length (U.dk ((q' ++ [o]).map kI) ((q' ++ [o]).map (fU (up1 d' o (d' c + 1)) (fun h => if h = o then I c else pp' h)))) = μ ++ [U.dk ((q' ++ [o]).map kI) ((q' ++ [o]).map (fU (up1 d' o (d' c + 1)) (fun h => if h = o then I c else pp' h))), U.lst (q'.map I)] := by
            rw [List.set_append_right _ _ (by omega)]
            simp
          have hmv : (q' ++ [o]).map (fU (up1 d' o (d' c + 1)) (fun h => if h = o then I c else pp' h)) = q'.map (fU d' pp') ++ [.tup [.int ((d' c : Int) + 1), I c]] := by
            rw [map_push (g := fU d' pp') hoq fun x hx => ?_]
            · simp only [fU, up1_same, if_true]
              rfl
            · simp only [fU, up1_ne (ne_mem hx hoq), if_neg (ne_mem hx hoq)]
          refine ⟨[some (.lst (rs.map rho)), some (I 0), some (.ob μ.length), some (.ob (μ.length + 1)), some (I (at_ + 1)), some (I o), some (I c)], μ ++ [U.dk ((q' ++ [o]).map kI) ((q' ++ [o]).map (fU (up1 d' o (d' c + 1)) (fun h => if h = o then I c else pp' h))), U.lst ((q' ++ [o]).map I)], .inl ?_, q' ++ [o], up1 d' o (d' c + 1), (fun h => if h = o then I c else pp' h), some (I o), rfl, rfl, Q'.push hc'm hoq hon hor hb' (by omega), fun h hh => ?_, ?_, fun h hh => ?_, fun h => ?_⟩
          · show exL cal μ.length lb_spread_0 [some (.lst (rs.map rho)), some (I 0), some (.ob μ.length), some (.ob (μ.length + 1)), some (I (at_ + 1)), some (I o), some (I c)] _ = _
            have cnd : evCmp (μ ++ [U.dk (q'.map kI) (q'.map (fU d' pp')), U.lst (q'.map I)]) .notin (I o) (.ob μ.length) = some true := by
              simp only [evCmp, evIn, cont, mD, dget, sky, neg?]
              rw [show lk (q'.map kI) (q'.map (fU d' pp')) (Sum.inl (o : Int)) = none from lk_none hoq]
              rfl
            have hnk : kI o ∉ q'.map kI := fun z => hoq (kI_mem.mp z)
            have hlc : lk (q'.map kI) (q'.map (fU d' pp')) (kI c) = some (fU d' pp' c) := lk_map hc'm
            unfold lb_spread_0
            refine (ex_seq ((ex_ifT (ev_cmp (ev_var rfl) (ev_var rfl) cnd) rfl).trans ?_)).trans ex_nil
            refine (ex_seq (ex_subK (u := .tup [.int ((d' c : Int) + 1), I c]) (ev_tup (ev_l2 (ev_bin (ev_idxT (ev_idxK (u := .ob μ.length) (v := I c) (ev_var rfl) (ev_var rfl) mD rfl hlc) rfl rfl) rfl rfl) (ev_var rfl)) (show 2 ≤ SZ by decide)) (ev_var rfl) (ev_var rfl) rfl mD (by rw [List.length_map]; unfold SZ; omega) (Nat.le_refl _))).trans ?_
            have e2 : (μ ++ [U.dk (q'.map kI) (q'.map (fU d' pp')), U.lst (q'.map I)]).set μ.length (U.dk (ptk (q'.map kI) (kI o)) (pt (q'.map kI) (q'.map (fU d' pp')) (kI o) (.tup [.int ((d' c : Int) + 1), I c]))) = μ ++ [U.dk ((q' ++ [o]).map kI) ((q' ++ [o]).map (fU (up1 d' o (d' c + 1)) (fun h => if h = o then I c else pp' h))), U.lst (q'.map I)] := by
              rw [← ce, hmv]
              unfold ptk pt
              rw [if_neg hnk, if_neg hnk, List.map_append]
              rfl
            have mL : (μ ++ [U.dk ((q' ++ [o]).map kI) ((q' ++ [o]).map (fU (up1 d' o (d' c + 1)) (fun h => if h = o then I c else pp' h))), U.lst (q'.map I)])[μ.length + 1]? = some (U.lst (q'.map I)) := by
              rw [List.getElem?_append_right (by omega)]
              simp
            rw [show (Sum.inl (o : Int) : Key) = kI o from rfl, e2]
            refine (ex_seq (ex_append (ev_var rfl) (ev_var rfl) mL (by rw [List.length_map]; unfold SZ; omega) (by omega))).trans ?_
            rw [show (μ ++ [U.dk ((q' ++ [o]).map kI) ((q' ++ [o]).map (fU (up1 d' o (d' c + 1)) (fun h => if h = o then I c else pp' h))), U.lst (q'.map I)]).set (μ.length + 1) (U.lst (q'.map I ++ [I o])) = μ ++ [U.dk ((q' ++ [o]).map kI) ((q' ++ [o]).map (fU (up1 d' o (d' c + 1)) (fun h => if h = o then I c else pp' h))), U.lst ((q' ++ [o]).map I)] by
              rw [List.set_append_right _ _ (by omega)]
              simp]
            exact ex_nil
          · rw [up1_ne (ne_mem hc'm hoq)]
            rcases List.mem_append.mp hh with z | z
            · rw [up1_ne (ne_mem z hoq)]; exact hb' h z
            · simp at z; subst z; rw [up1_same]; exact Nat.le_refl _
          · rw [List.getElem?_append_left hat]; exact hc'
          · rw [List.take_add_one, ho] at hh
            rcases List.mem_append.mp hh with z | z
            · exact List.mem_append_left _ (hall h z)
            · simp at z; subst z; simp
          · by_cases e : h = o
            · simp only [e, if_true]; exact .inr ⟨c, rfl⟩
            · simp only [e, if_false]; exact hpp' h)
  refine ⟨q', d', pp', x5', e, { Q' with done := fun j x hj hx h hh => ?_ }, hb', hc', hpp'⟩
  by_cases hja : j < at_
  · exact Q'.done j x hja hx h hh
  · have : j = at_ := by omega
    subst this
    rw [hc'] at hx
    cases hx
    have hq := hall h (by simpa using hh)
    exact ⟨hq, hb' h hq⟩

theorem frz_fU (n : Nat) (μ : Mu) (k : Nat) (d : Nat → Nat) {pp : Nat → U} (h : ∀ h, plain (pp h)) (q : List Nat) : frz n μ (k + 2) (.dk (q.map kI) (q.map (fU d pp))) = some (.dk (q.map kI) (q.map (fU d pp))) := by
  simp only [frz]
  rw [mapO_map (h := fU d pp) fun x _ => ?_]
  have e : frz n μ k (pp x) = some (pp x) := by
    rcases h x with e | ⟨g, e⟩ <;> rw [e] <;> cases k <;> rfl
  have e2 : frz n μ k (I (d x)) = some (I (d x)) := by cases k <;> rfl
  simp only [frz, mapO, e, e2]
theorem spread_ok (k : Nat) (μ : Mu) {n : Nat} {rs : List (List Nat)} (hn : n ≤ 40) (h1 : 1 ≤ n) (hl : rs.length = n) (hrs : ∀ g h, h ∈ nb rs g → h < n) :
    ∃ q d pp, runF defs (k + 1) 9 [.lst (rs.map rho), I 0] μ = some (.dk (q.map kI) (q.map (fU d pp)), μ) ∧ Dst n rs q d := by
  obtain ⟨σ', μ', e, q, d, pp, at_, x5, x6, rfl, rfl, Q, hat, hpp⟩ := whL_inv (cond := wcond (runF defs k) μ.length (.cmp .lt (.var 4) (.bi .len [(.var 3)]))) (body := fun σ μ' => exL (runF defs k) μ.length lb_spread_2 σ μ')
    (fun m σ μ' => ∃ q d pp at_ x5 x6, σ = [some (.lst (rs.map rho)), some (I 0), some (.ob μ.length), some (.ob (μ.length + 1)), some (I at_), x5, x6] ∧ μ' = μ ++ [U.dk (q.map kI) (q.map (fU d pp)), U.lst (q.map I)] ∧
      Qs n rs q d at_ ∧ m = n - at_ ∧ at_ ≤ q.length ∧ (∀ c, q[at_]? = some c → ∀ h ∈ q, d h ≤ d c + 1) ∧ ∀ h, plain (pp h))
    (fun σ μ' => ∃ q d pp at_ x5 x6, σ = [some (.lst (rs.map rho)), some (I 0), some (.ob μ.length), some (.ob (μ.length + 1)), some (I at_), x5, x6] ∧ μ' = μ ++ [U.dk (q.map kI) (q.map (fU d pp)), U.lst (q.map I)] ∧
      Qs n rs q d at_ ∧ at_ = q.length ∧ ∀ h, plain (pp h))
    (fun m σ μ' hP => by
      obtain ⟨q, d, pp, at_, x5, x6, rfl, rfl, Q, rfl, hat, hb, hpp⟩ := hP
      have mL : (μ ++ [U.dk (q.map kI) (q.map (fU d pp)), U.lst (q.map I)])[μ.length + 1]? = some (.lst (q.map I)) := by
        rw [List.getElem?_append_right (by omega)]
        simp
      have len : evBi (μ ++ [U.dk (q.map kI) (q.map (fU d pp)), U.lst (q.map I)]) .len [.ob (μ.length + 1)] = some (.int q.length) := by
        simp only [evBi, cont, mL, List.length_map]
      have cd : wcond (runF defs k) μ.length (.cmp .lt (.var 4) (.bi .len [(.var 3)])) [some (.lst (rs.map rho)), some (I 0), some (.ob μ.length), some (.ob (μ.length + 1)), some (I at_), x5, x6] (μ ++ [U.dk (q.map kI) (q.map (fU d pp)), U.lst (q.map I)]) = some (decide ((at_ : Int) < q.length), μ ++ [U.dk (q.map kI) (q.map (fU d pp)), U.lst (q.map I)]) := by
        unfold wcond
        rw [ev_cmp (d := decide ((at_ : Int) < q.length)) (ev_var rfl) (ev_bi (ev_l1 (ev_var rfl)) len) rfl]
        rfl
      by_cases hlt : at_ < q.length
      · obtain ⟨c, hc⟩ : ∃ c, q[at_]? = some c := ⟨_, List.getElem?_eq_getElem hlt⟩
        have hql := nodup_lt Q.nd Q.lt
        obtain ⟨q', d', pp', x5', e, Q', hb', hc', hpp'⟩ := spread_row (cal := runF defs k) μ hn hl hrs (x5 := x5) Q hc (hb c hc) hpp
        have hq' : at_ < q'.length := (List.getElem?_eq_some_iff.mp hc').1
        refine .inr ⟨_, _, _, by rw [cd, decide_eq_true (by omega)], .inl ?_, n - (at_ + 1), by omega, q', d', pp', at_ + 1, x5', some (I c), rfl, rfl, Q', rfl, hq', fun c2 hc2 h hh => ?_, hpp'⟩
        · show exL (runF defs k) μ.length lb_spread_2 _ _ = _
          unfold lb_spread_2
          refine (ex_seq (ex_par (us := [I c, I (at_ + 1)]) (ev_l2 (ev_idxL (u := .ob (μ.length + 1)) (j := at_) (ev_var rfl) (ev_var rfl) mL (atI_of (by rw [List.getElem?_map, hc]; rfl))) (ev_bin (ev_var rfl) rfl rfl)) rfl)).trans ?_
          refine (ex_seq e).trans ex_nil
        · have m1 : d' c ≤ d' c2 := by
            have := List.pairwise_iff_getElem.mp Q'.mono at_ (at_ + 1) hq' (List.getElem?_eq_some_iff.mp hc2).1 (by omega)
            rw [(List.getElem?_eq_some_iff.mp hc').2, (List.getElem?_eq_some_iff.mp hc2).2] at this
            exact this
          have := hb' h hh
          omega
      · refine .inl ⟨_, by rw [cd, decide_eq_false (by omega)], q, d, pp, at_, x5, x6, rfl, rfl, Q, by omega, hpp⟩)
    (f := FU) (m := n) (σ := [some (.lst (rs.map rho)), some (I 0), some (.ob μ.length), some (.ob (μ.length + 1)), some (I 0), none, none]) (μ := μ ++ [U.dk ([0].map kI) ([0].map (fU (fun _ => 0) (fun _ => .non))), U.lst ([0].map I)])
    ⟨[0], fun _ => 0, fun _ => .non, 0, none, none, rfl, rfl, ⟨by simp, by simp, rfl, by simp; omega, by simp, by simp, by simp⟩, by simp, by simp, by simp, fun _ => .inl rfl⟩ (by unfold FU; omega)
  refine ⟨q, d, pp, ?_, ⟨Q.nd, Q.zero, Q.d0, Q.lt, Q.prev, fun g hg h hh => ?_⟩⟩
  · rw [run_spread]
    have b : exL (runF defs k) μ.length b_spread [some (.lst (rs.map rho)), some (I 0), none, none, none, none, none] μ = some (.rt (.ob μ.length) (μ ++ [U.dk (q.map kI) (q.map (fU d pp)), U.lst (q.map I)])) := by
      unfold b_spread
      refine (ex_seq (ex_par (us := [.ob μ.length, .ob (μ.length + 1), I 0]) (μ' := μ ++ [U.dk ([0].map kI) ([0].map (fU (fun _ => 0) (fun _ => .non))), U.lst ([0].map I)]) ?_ rfl)).trans ?_
      · simp [exL, exS, evalE, evalL, evalB, evBin, evCmp, evEq, evIn, evLt, neg?, evIdx, evBi, evIsi, truth, asL, asS, cont, asInt, R.fresh, bindP, bindPs, bindI, R.finish, frz, wipeE, R.isNon, okw, okm, evMe, sky, tky, evSlc, evRev, bnd, walk, items, evCol, dget, dput, storeSub, intL, intT, bls, pairKV, keyU, keysU, mulOk, dat, mapO, nomut, nomuts, lk, biF, D0, pairUp, mergeU, SZ, ptk, pt]
      · refine (ex_seq (((show exS _ _ l_spread_2 _ _ = _ from ex_wh)).trans e)).trans ?_
        exact ex_ret (ev_var rfl)
    have fz : frz μ.length (μ ++ [U.dk (q.map kI) (q.map (fU d pp)), U.lst (q.map I)]) D0 (.ob μ.length) = some (.dk (q.map kI) (q.map (fU d pp))) := by
      have m1 : (μ ++ [U.dk (q.map kI) (q.map (fU d pp)), U.lst (q.map I)])[μ.length]? = some (.dk (q.map kI) (q.map (fU d pp))) := by
        rw [List.getElem?_append_right (by omega)]
        simp
      have := frz_fU μ.length (μ ++ [U.dk (q.map kI) (q.map (fU d pp)), U.lst (q.map I)]) 10 d hpp q
      rw [show D0 = 11 + 1 from rfl]
      simp only [frz]
      rw [if_neg (by omega), m1]
      exact this
    exact (if_pos rfl).trans (run_rt b (fin_cut fz (by simp)))
  · obtain ⟨j, hj⟩ := List.mem_iff_getElem?.mp hg
    exact Q.done j g (by rw [hat]; exact (List.getElem?_eq_some_iff.mp hj).1) hj h hh
end K50

set_option Elab.async false
set_option linter.all false
set_option maxRecDepth 100000
set_option maxHeartbeats 4000000
namespace K50
open PySem L2 R
/-! ### the law's own BFS, level by level -/
structure Lf (n : Nat) (rs : List (List Nat)) (q : List Nat) (d : Nat → Nat) (t : Nat) (lat : List Nat) : Prop where
  nd : q.Nodup
  zero : 0 ∈ q
  d0 : d 0 = 0
  lt : ∀ h ∈ q, h < n
  prev : ∀ h ∈ q, h ≠ 0 → ∃ g ∈ q, h ∈ nb rs g ∧ d h = d g + 1
  le : ∀ h ∈ q, d h ≤ t + 1
  lts : ∀ h, h ∈ lat ↔ h ∈ q ∧ d h = t + 1
  ll : lat.length ≤ q.length
  done : ∀ g ∈ q, d g < t → ∀ h ∈ nb rs g, h ∈ q ∧ d h ≤ d g + 1
theorem Lf.push {n : Nat} {rs : List (List Nat)} {q : List Nat} {d : Nat → Nat} {t c o : Nat} {lat : List Nat} (L : Lf n rs q d t lat) (hc : c ∈ q) (hd : d c = t) (ho : o ∉ q) (hn : o < n) (hr : o ∈ nb rs c) :
    Lf n rs (q ++ [o]) (up1 d o (t + 1)) t (lat ++ [o]) where
  nd := by
    rw [List.nodup_append]
    exact ⟨L.nd, by simp, fun a ha b hb z => by simp at hb; subst hb; exact ho (z ▸ ha)⟩
  zero := List.mem_append_left _ L.zero
  d0 := by
    rw [up1_ne (ne_mem L.zero ho)]
    exact L.d0
  lt := fun h hh => by
    rcases List.mem_append.mp hh with z | z
    · exact L.lt h z
    · simp at z; omega
  prev := fun h hh h0 => by
    rcases List.mem_append.mp hh with z | z
    · obtain ⟨g, g1, g2, g3⟩ := L.prev h z h0
      refine ⟨g, List.mem_append_left _ g1, g2, ?_⟩
      rw [up1_ne (ne_mem z ho), up1_ne (ne_mem g1 ho)]
      exact g3
    · simp at z
      subst z
      refine ⟨c, List.mem_append_left _ hc, hr, ?_⟩
      rw [up1_same, up1_ne (ne_mem hc ho), hd]
  le := fun h hh => by
    rcases List.mem_append.mp hh with z | z
    · rw [up1_ne (ne_mem z ho)]; exact L.le h z
    · simp at z; subst z; rw [up1_same]; exact Nat.le_refl _
  lts := fun h => by
    simp only [List.mem_append, List.mem_singleton]
    constructor
    · rintro (z | z)
      · obtain ⟨a, b⟩ := (L.lts h).mp z
        exact ⟨.inl a, by rw [up1_ne (ne_mem a ho)]; exact b⟩
      · subst z; exact ⟨.inr rfl, up1_same⟩
    · rintro ⟨z | z, e⟩
      · rw [up1_ne (ne_mem z ho)] at e
        exact .inl ((L.lts h).mpr ⟨z, e⟩)
      · exact .inr z
  ll := by have := L.ll; simp; exact this
  done := fun g hg hlt h hh => by
    rcases List.mem_append.mp hg with z | z
    · rw [up1_ne (ne_mem z ho)] at hlt ⊢
      obtain ⟨a, b⟩ := L.done g z hlt h hh
      exact ⟨List.mem_append_left _ a, by rw [up1_ne (ne_mem a ho)]; exact b⟩
    · simp at z
      subst z
      rw [up1_same] at hlt
      omega
abbrev dI (d : Nat → Nat) (h : Nat) : U := I (d h)
abbrev stF (μ : Mu) (q : List Nat) (d : Nat → Nat) (Ls : List U) (lat : List Nat) : Mu := μ ++ (U.dk (q.map kI) (q.map (dI d)) :: (Ls ++ [U.lst (lat.map I)]))
abbrev sgF (μ : Mu) (rs : List (List Nat)) (t : Nat) (now : U) (x : Nat) (x6 x7 : Option U) : R.Env := [some (.lst (rs.map rho)), some (I 0), some (I t), some (.ob μ.length), some now, some (.ob (μ.length + 1 + x)), x6, x7]
theorem stF_d {μ : Mu} {q : List Nat} {d : Nat → Nat} {Ls : List U} {lat : List Nat} : (stF μ q d Ls lat)[μ.length]? = some (.dk (q.map kI) (q.map (dI d))) := by
  rw [List.getElem?_append_right (by omega)]
  simp
theorem stF_l {μ : Mu} {q : List Nat} {d : Nat → Nat} {Ls : List U} {lat : List Nat} : (stF μ q d Ls lat)[μ.length + 1 + Ls.length]? = some (.lst (lat.map I)) := by
  rw [List.getElem?_append_right (by omega)]
  rw [show μ.length + 1 + Ls.length - μ.length = Ls.length + 1 by omega, List.getElem?_cons_succ, List.getElem?_append_right (by omega)]
  simp
theorem far_row {cal : Nat → List U → Mu → Option (U × Mu)} (μ : Mu) {n : Nat} {rs : List (List Nat)} (hn : n ≤ 40) (hl : rs.length = n) (hrs : ∀ g h, h ∈ nb rs g → h < n) {q : List Nat} {d : Nat → Nat} {t c : Nat} {now : U} {Ls : List U} {lat : List Nat} {x7 : Option U}
    (L : Lf n rs q d t lat) (hc : c ∈ q) (hd : d c = t) :
    ∃ q' d' lat' x7', exS cal μ.length l__law_far_0 (sgF μ rs t now Ls.length (some (I c)) x7) (stF μ q d Ls lat) = some (.nx (sgF μ rs t now Ls.length (some (I c)) x7') (stF μ q' d' Ls lat')) ∧
      Lf n rs q' d' t lat' ∧ (∀ h ∈ nb rs c, h ∈ q') ∧ (∀ h ∈ q, h ∈ q' ∧ d' h = d h) ∧ ∀ h ∈ q', h ∈ q ∨ d' h = t + 1 := by
  have hcn := L.lt c hc
  have hrow : (rs.map rho)[c]? = some (rho (nb rs c)) := by
    have h0 : rs[c]? = some (nb rs c) := by simp [nb, hl, hcn]
    rw [List.getElem?_map, h0]
    rfl
  have e1 : exS cal μ.length l__law_far_0 (sgF μ rs t now Ls.length (some (I c)) x7) (stF μ q d Ls lat) = forL (fstep cal μ.length (.slot 7) lb__law_far_0) ((nb rs c).map I) (sgF μ rs t now Ls.length (some (I c)) x7) (stF μ q d Ls lat) :=
    ex_for (ev_l1 (ev_idxL (ev_var rfl) (ev_var rfl) rfl (atI_of hrow))) rfl
  rw [e1]
  obtain ⟨σ', μ', e, q', d', lat', x7', rfl, rfl, L', hall, hold, hnew⟩ := forL_inv0 (step := fstep cal μ.length (.slot 7) lb__law_far_0) (xs := (nb rs c).map I)
    (σ := sgF μ rs t now Ls.length (some (I c)) x7) (μ := stF μ q d Ls lat)
    (fun i σ μ' => ∃ q' d' lat' x7', σ = sgF μ rs t now Ls.length (some (I c)) x7' ∧ μ' = stF μ q' d' Ls lat' ∧ Lf n rs q' d' t lat' ∧ (∀ h ∈ (nb rs c).take i, h ∈ q') ∧ (∀ h ∈ q, h ∈ q' ∧ d' h = d h) ∧ ∀ h ∈ q', h ∈ q ∨ d' h = t + 1)
    ⟨q, d, lat, x7, rfl, rfl, L, by simp, fun h hh => ⟨hh, rfl⟩, fun h hh => .inl hh⟩ (fun i x σ μ' hx hp => by
      obtain ⟨q', d', lat', x7', rfl, rfl, L', hall, hold, hnew⟩ := hp
      rw [List.getElem?_map] at hx
      cases ho : (nb rs c)[i]? with
      | none => rw [ho] at hx; cases hx
      | some o =>
        rw [ho] at hx
        cases hx
        have hor := List.mem_of_getElem? ho
        have hon := hrs c o hor
        have hc' := (hold c hc).1
        have hd' : d' c = t := by rw [(hold c hc).2]; exact hd
        have hql := nodup_lt L'.nd L'.lt
        have hll := L'.ll
        by_cases hoq : o ∈ q'
        · refine ⟨sgF μ rs t now Ls.length (some (I c)) (some (I o)), stF μ q' d' Ls lat', .inl ?_, q', d', lat', some (I o), rfl, rfl, L', fun h hh => ?_, hold, hnew⟩
          · show exL cal μ.length lb__law_far_0 (sgF μ rs t now Ls.length (some (I c)) (some (I o))) _ = _
            have cnd : evCmp (stF μ q' d' Ls lat') .notin (I o) (.ob μ.length) = some false := by
              simp only [evCmp, evIn, cont, stF_d, dget, sky, neg?]
              rw [show lk (q'.map kI) (q'.map (dI d')) (Sum.inl (o : Int)) = some (dI d' o) from lk_map hoq]
              rfl
            unfold lb__law_far_0
            exact (ex_seq ((ex_ifF (ev_cmp (ev_var rfl) (ev_var rfl) cnd) rfl).trans ex_nil)).trans ex_nil
          · rw [List.take_add_one, ho] at hh
            rcases List.mem_append.mp hh with z | z
            · exact hall h z
            · simp at z; subst z; exact hoq
        · have hnk : kI o ∉ q'.map kI := fun z => hoq (kI_mem.mp z)
          have hmv : (q' ++ [o]).map (dI (up1 d' o (t + 1))) = q'.map (dI d') ++ [.int ((t : Int) + 1)] := by
            rw [map_push (g := dI d') hoq fun x hx => ?_]
            · simp only [dI, up1_same]
              rfl
            · simp only [dI, up1_ne (ne_mem hx hoq)]
          refine ⟨sgF μ rs t now Ls.length (some (I c)) (some (I o)), stF μ (q' ++ [o]) (up1 d' o (t + 1)) Ls (lat' ++ [o]), .inl ?_, q' ++ [o], up1 d' o (t + 1), lat' ++ [o], some (I o), rfl, rfl, L'.push hc' hd' hoq hon hor, fun h hh => ?_, fun h hh => ?_, fun h hh => ?_⟩
          · show exL cal μ.length lb__law_far_0 (sgF μ rs t now Ls.length (some (I c)) (some (I o))) _ = _
            have cnd : evCmp (stF μ q' d' Ls lat') .notin (I o) (.ob μ.length) = some true := by
              simp only [evCmp, evIn, cont, stF_d, dget, sky, neg?]
              rw [show lk (q'.map kI) (q'.map (dI d')) (Sum.inl (o : Int)) = none from lk_none hoq]
              rfl
            have e2 : (stF μ q' d' Ls lat').set μ.length (.dk (ptk (q'.map kI) (kI o)) (pt (q'.map kI) (q'.map (dI d')) (kI o) (.int ((t : Int) + 1)))) = stF μ (q' ++ [o]) (up1 d' o (t + 1)) Ls lat' := by
              unfold stF
              rw [List.set_append_right _ _ (by omega), hmv]
              unfold ptk pt
              rw [if_neg hnk, if_neg hnk, List.map_append]
              simp
            have e3 : (stF μ (q' ++ [o]) (up1 d' o (t + 1)) Ls lat').set (μ.length + 1 + Ls.length) (.lst (lat'.map I ++ [I o])) = stF μ (q' ++ [o]) (up1 d' o (t + 1)) Ls (lat' ++ [o]) := by
              unfold stF
              rw [List.set_append_right _ _ (by omega), show μ.length + 1 + Ls.length - μ.length = Ls.length + 1 by omega, List.set_cons_succ, List.set_append_right _ _ (by omega)]
              simp
            unfold lb__law_far_0
            refine (ex_seq ((ex_ifT (ev_cmp (ev_var rfl) (ev_var rfl) cnd) rfl).trans ?_)).trans ex_nil
            refine (ex_seq (ex_subK (u := .int ((t : Int) + 1)) (ev_bin (ev_var rfl) rfl rfl) (ev_var rfl) (ev_var rfl) rfl stF_d (by rw [List.length_map]; unfold SZ; omega) (Nat.le_refl _))).trans ?_
            rw [show (Sum.inl (o : Int) : Key) = kI o from rfl, e2]
            refine (ex_seq (ex_append (ev_var rfl) (ev_var rfl) stF_l (by rw [List.length_map]; unfold SZ; omega) (by omega))).trans ?_
            rw [e3]
            exact ex_nil
          · rw [List.take_add_one, ho] at hh
            rcases List.mem_append.mp hh with z | z
            · exact List.mem_append_left _ (hall h z)
            · simp at z; subst z; simp
          · obtain ⟨a, b⟩ := hold h hh
            exact ⟨List.mem_append_left _ a, by rw [up1_ne (ne_mem a hoq)]; exact b⟩
          · rcases List.mem_append.mp hh with z | z
            · rcases hnew h z with w | w
              · exact .inl w
              · exact .inr (by rw [up1_ne (ne_mem z hoq)]; exact w)
            · simp at z; subst z; exact .inr up1_same)
  exact ⟨q', d', lat', x7', e, L', fun h hh => hall h (by simpa using hh), hold, hnew⟩

/-- one house of the level more -/
theorem far_step {cal : Nat → List U → Mu → Option (U × Mu)} (μ : Mu) {n : Nat} {rs : List (List Nat)} (hn : n ≤ 40) (hl : rs.length = n) (hrs : ∀ g h, h ∈ nb rs g → h < n) {q0 : List Nat} {d0 : Nat → Nat} {t : Nat} {now : U} {Ls : List U} {lv : List Nat} (hlv : ∀ h ∈ lv, h ∈ q0 ∧ d0 h = t)
    (i : Nat) (x : U) (σ : R.Env) (μ' : Mu) (hx : (lv.map I)[i]? = some x)
    (hP : ∃ q d lat x6 x7, σ = sgF μ rs t now Ls.length x6 x7 ∧ μ' = stF μ q d Ls lat ∧ Lf n rs q d t lat ∧ (∀ g ∈ lv.take i, ∀ h ∈ nb rs g, h ∈ q) ∧ (∀ h ∈ q0, h ∈ q ∧ d h = d0 h) ∧ ∀ h ∈ q, h ∈ q0 ∨ d h = t + 1) :
    ∃ σ' μ'', (fstep cal μ.length (.slot 6) lb__law_far_2 x σ μ' = some (.nx σ' μ'') ∨ fstep cal μ.length (.slot 6) lb__law_far_2 x σ μ' = some (.ct σ' μ'')) ∧
      ∃ q d lat x6 x7, σ' = sgF μ rs t now Ls.length x6 x7 ∧ μ'' = stF μ q d Ls lat ∧ Lf n rs q d t lat ∧ (∀ g ∈ lv.take (i + 1), ∀ h ∈ nb rs g, h ∈ q) ∧ (∀ h ∈ q0, h ∈ q ∧ d h = d0 h) ∧ ∀ h ∈ q, h ∈ q0 ∨ d h = t + 1 := by
  obtain ⟨q, d, lat, x6, x7, rfl, rfl, L, hall, hold, hnew⟩ := hP
  rw [List.getElem?_map] at hx
  cases hc : lv[i]? with
  | none => rw [hc] at hx; cases hx
  | some c =>
    rw [hc] at hx
    cases hx
    have hcl := List.mem_of_getElem? hc
    obtain ⟨c1, c2⟩ := hlv c hcl
    obtain ⟨c3, c4⟩ := hold c c1
    obtain ⟨q', d', lat', x7', e, L', hr, ho, hw⟩ := far_row (cal := cal) μ hn hl hrs (now := now) (Ls := Ls) (x7 := x7) L c3 (by rw [c4]; exact c2)
    refine ⟨sgF μ rs t now Ls.length (some (I c)) x7', stF μ q' d' Ls lat', .inl ?_, q', d', lat', some (I c), x7', rfl, rfl, L', fun g hg h hh => ?_, fun h hh => ?_, fun h hh => ?_⟩
    · show exL cal μ.length lb__law_far_2 (sgF μ rs t now Ls.length (some (I c)) x7) _ = _
      unfold lb__law_far_2
      exact (ex_seq e).trans ex_nil
    · rw [List.take_add_one, hc] at hg
      rcases List.mem_append.mp hg with z | z
      · exact (ho h (hall g z h hh)).1
      · simp at z; subst z; exact hr h hh
    · obtain ⟨a, b⟩ := hold h hh
      obtain ⟨a2, b2⟩ := ho h a
      exact ⟨a2, by rw [b2]; exact b⟩
    · rcases hw h hh with z | z
      · rcases hnew h z with w | w
        · exact .inl w
        · exact .inr (by rw [(ho h z).2]; exact w)
      · exact .inr z
/-- a level's houses, walked -/
theorem far_level {cal : Nat → List U → Mu → Option (U × Mu)} (μ : Mu) {n : Nat} {rs : List (List Nat)} (hn : n ≤ 40) (hl : rs.length = n) (hrs : ∀ g h, h ∈ nb rs g → h < n) {q : List Nat} {d : Nat → Nat} {t : Nat} {now : U} {Ls : List U} {lv : List Nat} (hlv : ∀ h ∈ lv, h ∈ q ∧ d h = t) (hll : lv.length ≤ 40) {x6 x7 : Option U}
    (L : Lf n rs q d t []) (hnow : now = .lst (lv.map I) ∨ ∃ j, now = .ob (μ.length + 1 + j) ∧ Ls[j]? = some (.lst (lv.map I))) :
    ∃ q' d' lat' x6' x7', exS cal μ.length l__law_far_2 (sgF μ rs t now Ls.length x6 x7) (stF μ q d Ls []) = some (.nx (sgF μ rs t now Ls.length x6' x7') (stF μ q' d' Ls lat')) ∧
      Lf n rs q' d' t lat' ∧ (∀ g ∈ lv, ∀ h ∈ nb rs g, h ∈ q') ∧ (∀ h ∈ q, h ∈ q' ∧ d' h = d h) ∧ ∀ h ∈ q', h ∈ q ∨ d' h = t + 1 := by
  have start : ∃ q1 d1 lat x6' x7', sgF μ rs t now Ls.length x6 x7 = sgF μ rs t now Ls.length x6' x7' ∧ stF μ q d Ls [] = stF μ q1 d1 Ls lat ∧ Lf n rs q1 d1 t lat ∧ (∀ g ∈ lv.take 0, ∀ h ∈ nb rs g, h ∈ q1) ∧ (∀ h ∈ q, h ∈ q1 ∧ d1 h = d h) ∧ ∀ h ∈ q1, h ∈ q ∨ d1 h = t + 1 :=
    ⟨q, d, [], x6, x7, rfl, rfl, L, by simp, fun h hh => ⟨hh, rfl⟩, fun h hh => .inl hh⟩
  rcases hnow with rfl | ⟨j, rfl, hj⟩
  · have e1 : exS cal μ.length l__law_far_2 (sgF μ rs t (.lst (lv.map I)) Ls.length x6 x7) (stF μ q d Ls []) = forL (fstep cal μ.length (.slot 6) lb__law_far_2) (lv.map I) (sgF μ rs t (.lst (lv.map I)) Ls.length x6 x7) (stF μ q d Ls []) := ex_for (ev_l1 (ev_var rfl)) rfl
    rw [e1]
    obtain ⟨σ', μ', e, q', d', lat', x6', x7', rfl, rfl, L', hall, hold, hnew⟩ := forL_inv0 (step := fstep cal μ.length (.slot 6) lb__law_far_2) (xs := lv.map I)
      (fun i σ μ' => ∃ q1 d1 lat x6 x7, σ = sgF μ rs t (.lst (lv.map I)) Ls.length x6 x7 ∧ μ' = stF μ q1 d1 Ls lat ∧ Lf n rs q1 d1 t lat ∧ (∀ g ∈ lv.take i, ∀ h ∈ nb rs g, h ∈ q1) ∧ (∀ h ∈ q, h ∈ q1 ∧ d1 h = d h) ∧ ∀ h ∈ q1, h ∈ q ∨ d1 h = t + 1)
      start (fun i x σ μ' hx hP => far_step μ hn hl hrs hlv i x σ μ' hx hP)
    exact ⟨q', d', lat', x6', x7', e, L', fun g hg => hall g (by simpa using hg), hold, hnew⟩
  · have hjl : j < Ls.length := (List.getElem?_eq_some_iff.mp hj).1
    have live : ∀ q1 d1 lat, (stF μ q1 d1 Ls lat)[μ.length + 1 + j]? = some (.lst (lv.map I)) := fun q1 d1 lat => by
      rw [List.getElem?_append_right (by omega), show μ.length + 1 + j - μ.length = j + 1 by omega, List.getElem?_cons_succ, List.getElem?_append_left hjl]
      exact hj
    have e1 : exS cal μ.length l__law_far_2 (sgF μ rs t (.ob (μ.length + 1 + j)) Ls.length x6 x7) (stF μ q d Ls []) = forV (fstep cal μ.length (.slot 6) lb__law_far_2) (μ.length + 1 + j) FU 0 (sgF μ rs t (.ob (μ.length + 1 + j)) Ls.length x6 x7) (stF μ q d Ls []) :=
      ex_forV (ev_l1 (ev_var rfl)) (by simp only [walk, live])
    rw [e1]
    obtain ⟨σ', μ', e, q', d', lat', x6', x7', rfl, rfl, L', hall, hold, hnew⟩ := forV_inv (step := fstep cal μ.length (.slot 6) lb__law_far_2) (i := μ.length + 1 + j) (xs := lv.map I)
      (fun i σ μ' => ∃ q1 d1 lat x6 x7, σ = sgF μ rs t (.ob (μ.length + 1 + j)) Ls.length x6 x7 ∧ μ' = stF μ q1 d1 Ls lat ∧ Lf n rs q1 d1 t lat ∧ (∀ g ∈ lv.take i, ∀ h ∈ nb rs g, h ∈ q1) ∧ (∀ h ∈ q, h ∈ q1 ∧ d1 h = d h) ∧ ∀ h ∈ q1, h ∈ q ∨ d1 h = t + 1)
      (fun i σ μ' hP => by obtain ⟨q1, d1, lat, _, _, _, rfl, _⟩ := hP; exact live q1 d1 lat) (f := FU) (k := 0) start (by simp) (by simp; unfold FU; omega) (fun i x σ μ' hx hP => far_step μ hn hl hrs hlv i x σ μ' hx hP)
    exact ⟨q', d', lat', x6', x7', e, L', fun g hg => hall g (by simpa using hg), hold, hnew⟩
end K50

set_option Elab.async false
set_option linter.all false
set_option maxRecDepth 100000
set_option maxHeartbeats 4000000
namespace K50
open PySem L2 R
/-- levels up to t are told, those below t are done -/
structure Lv (n : Nat) (rs : List (List Nat)) (q : List Nat) (d : Nat → Nat) (t : Nat) (lv : List Nat) : Prop where
  nd : q.Nodup
  zero : 0 ∈ q
  d0 : d 0 = 0
  lt : ∀ h ∈ q, h < n
  prev : ∀ h ∈ q, h ≠ 0 → ∃ g ∈ q, h ∈ nb rs g ∧ d h = d g + 1
  le : ∀ h ∈ q, d h ≤ t
  lvs : ∀ h, h ∈ lv ↔ h ∈ q ∧ d h = t
  ll : lv.length ≤ n
  done : ∀ g ∈ q, d g < t → ∀ h ∈ nb rs g, h ∈ q ∧ d h ≤ d g + 1
theorem Lv.lf {n : Nat} {rs : List (List Nat)} {q : List Nat} {d : Nat → Nat} {t : Nat} {lv : List Nat} (L : Lv n rs q d t lv) : Lf n rs q d t [] :=
  ⟨L.nd, L.zero, L.d0, L.lt, L.prev, fun h hh => Nat.le_succ_of_le (L.le h hh), fun h => ⟨fun z => by simp at z, fun z => by have := L.le h z.1; omega⟩, Nat.zero_le _, L.done⟩
theorem chain {n : Nat} {rs : List (List Nat)} {q : List Nat} {d : Nat → Nat} (prev : ∀ h ∈ q, h ≠ 0 → ∃ g ∈ q, h ∈ nb rs g ∧ d h = d g + 1) (d0 : d 0 = 0) : ∀ (m h : Nat), h ∈ q → d h = m → ∃ l : List Nat, l.length = m + 1 ∧ l.Nodup ∧ ∀ x ∈ l, x ∈ q ∧ d x ≤ m := by
  intro m
  induction m with
  | zero => intro h hh e; exact ⟨[h], rfl, by simp, fun x hx => by simp at hx; subst hx; exact ⟨hh, by omega⟩⟩
  | succ m ih =>
    intro h hh e
    have h0 : h ≠ 0 := fun z => by subst z; omega
    obtain ⟨g, hg, _, e2⟩ := prev h hh h0
    obtain ⟨l, l1, l2, l3⟩ := ih g hg (by omega)
    refine ⟨h :: l, by simp [l1], List.nodup_cons.mpr ⟨fun z => by have := (l3 h z).2; omega, l2⟩, fun x hx => ?_⟩
    rcases List.mem_cons.mp hx with z | z
    · subst z; exact ⟨hh, by omega⟩
    · exact ⟨(l3 x z).1, by have := (l3 x z).2; omega⟩
theorem far_lt {n : Nat} {rs : List (List Nat)} {q : List Nat} {d : Nat → Nat} (lt : ∀ h ∈ q, h < n) (prev : ∀ h ∈ q, h ≠ 0 → ∃ g ∈ q, h ∈ nb rs g ∧ d h = d g + 1) (d0 : d 0 = 0) {h : Nat} (hh : h ∈ q) : d h < n := by
  obtain ⟨l, l1, l2, l3⟩ := chain (n := n) prev d0 _ h hh rfl
  have := nodup_lt l2 fun x hx => lt x (l3 x hx).1
  omega
theorem law_far_ok (k : Nat) (μ : Mu) {n : Nat} {rs : List (List Nat)} (hn : n ≤ 40) (h1 : 1 ≤ n) (hl : rs.length = n) (hrs : ∀ g h, h ∈ nb rs g → h < n) :
    ∃ q d, runF defs (k + 1) 29 [.lst (rs.map rho), I 0] μ = some (.dk (q.map kI) (q.map (dI d)), μ) ∧ Dst n rs q d := by
  obtain ⟨σ', μ', e, q, d, lv, Ls, now, x2, x5, x6, x7, rfl, rfl, hLs, hnow, L⟩ := forL_inv0 (step := fstep (runF defs k) μ.length (.slot 2) lb__law_far_4) (xs := (List.range n).map I)
    (σ := [some (.lst (rs.map rho)), some (I 0), none, some (.ob μ.length), some (.lst ([0].map I)), none, none, none]) (μ := μ ++ (U.dk ([0].map kI) ([0].map (dI fun _ => 0)) :: []))
    (fun t σ μ' => ∃ q d lv Ls now x2 x5 x6 x7, σ = [some (.lst (rs.map rho)), some (I 0), x2, some (.ob μ.length), some now, x5, x6, x7] ∧ μ' = μ ++ (U.dk (q.map kI) (q.map (dI d)) :: Ls) ∧ Ls.length = t ∧ (now = .lst (lv.map I) ∨ ∃ j, now = .ob (μ.length + 1 + j) ∧ Ls[j]? = some (.lst (lv.map I))) ∧ Lv n rs q d t lv)
    ⟨[0], fun _ => 0, [0], [], .lst ([0].map I), none, none, none, none, rfl, rfl, rfl, .inl rfl, ⟨by simp, by simp, rfl, by simp; omega, by simp, by simp, by simp, by simpa using h1, by simp⟩⟩
    (fun t x σ μ' hx hP => by
      obtain ⟨q, d, lv, Ls, now, x2, x5, x6, x7, rfl, rfl, rfl, hnow, L⟩ := hP
      have hxe : x = I Ls.length := by
        rw [List.getElem?_map] at hx
        cases hr : (List.range n)[Ls.length]? with
        | none => rw [hr] at hx; cases hx
        | some y =>
          rw [hr] at hx
          have := (List.getElem?_eq_some_iff.mp hr).2
          simp at this
          subst this
          exact (Option.some.inj hx).symm
      subst hxe
      obtain ⟨q', d', lat, x6', x7', e, L', hall, hold, hnew⟩ := far_level (cal := runF defs k) μ hn hl hrs (now := now) (Ls := Ls) (x6 := x6) (x7 := x7) (fun h hh => (L.lvs h).mp hh) (Nat.le_trans L.ll hn) L.lf hnow
      have hql := nodup_lt L'.nd L'.lt
      refine ⟨[some (.lst (rs.map rho)), some (I 0), some (I Ls.length), some (.ob μ.length), some (.ob (μ.length + 1 + Ls.length)), some (.ob (μ.length + 1 + Ls.length)), x6', x7'], stF μ q' d' Ls lat, .inl ?_, q', d', lat, Ls ++ [U.lst (lat.map I)], .ob (μ.length + 1 + Ls.length), some (I Ls.length), some (.ob (μ.length + 1 + Ls.length)), x6', x7', rfl, rfl, by simp, .inr ⟨Ls.length, rfl, by simp⟩, ⟨L'.nd, L'.zero, L'.d0, L'.lt, L'.prev, L'.le, L'.lts, Nat.le_trans L'.ll hql, fun g hg hlt h hh => ?_⟩⟩
      · show exL (runF defs k) μ.length lb__law_far_4 [some (.lst (rs.map rho)), some (I 0), some (I Ls.length), some (.ob μ.length), some now, x5, x6, x7] _ = _
        unfold lb__law_far_4
        refine (ex_seq (ex_set (u := .ob (μ.length + 1 + Ls.length)) (μ' := stF μ q d Ls []) ?_)).trans ?_
        · simp only [evalE, evalL, List.length_nil]
          rw [if_pos (by unfold SZ; omega)]
          simp only [R.fresh, if_true]
          simp
          omega
        · refine (ex_seq e).trans ?_
          exact (ex_seq (ex_set (ev_var rfl))).trans ex_nil
      · by_cases hlt2 : d' g < Ls.length
        · exact L'.done g hg hlt2 h hh
        · have hgq : g ∈ q ∧ d g = Ls.length := by
            rcases hnew g hg with z | z
            · have := (hold g z).2; exact ⟨z, by omega⟩
            · omega
          have := hall g ((L.lvs g).mpr hgq) h hh
          exact ⟨this, by have := L'.le h this; omega⟩)
  refine ⟨q, d, ?_, ⟨L.nd, L.zero, L.d0, L.lt, L.prev, fun g hg => L.done g hg ?_⟩⟩
  · rw [run__law_far]
    have b : exL (runF defs k) μ.length b__law_far [some (.lst (rs.map rho)), some (I 0), none, none, none, none, none, none] μ = some (.rt (.ob μ.length) (μ ++ (U.dk (q.map kI) (q.map (dI d)) :: Ls))) := by
      unfold b__law_far
      refine (ex_seq (ex_par (us := [.ob μ.length, .lst ([0].map I)]) (μ' := μ ++ (U.dk ([0].map kI) ([0].map (dI fun _ => 0)) :: [])) ?_ rfl)).trans ?_
      · simp [exL, exS, evalE, evalL, evalB, evBin, evCmp, evEq, evIn, evLt, neg?, evIdx, evBi, evIsi, truth, asL, asS, cont, asInt, R.fresh, bindP, bindPs, bindI, R.finish, frz, wipeE, R.isNon, okw, okm, evMe, sky, tky, evSlc, evRev, bnd, walk, items, evCol, dget, dput, storeSub, intL, intT, bls, pairKV, keyU, keysU, mulOk, dat, mapO, nomut, nomuts, lk, biF, D0, pairUp, mergeU, SZ, ptk, pt]
      · refine (ex_seq (((show exS _ _ l__law_far_4 _ _ = _ from ex_for (us := [I n]) (ev_l1 (ev_bi (ev_l1 (ev_var rfl)) ?_)) (walk_rng (by omega)))).trans e)).trans ?_
        · simp only [evBi, cont, List.length_map, hl]
        · exact ex_ret (ev_var rfl)
    have fz : frz μ.length (μ ++ (U.dk (q.map kI) (q.map (dI d)) :: Ls)) D0 (.ob μ.length) = some (.dk (q.map kI) (q.map (dI d))) := by
      have m1 : (μ ++ (U.dk (q.map kI) (q.map (dI d)) :: Ls))[μ.length]? = some (.dk (q.map kI) (q.map (dI d))) := by
        rw [List.getElem?_append_right (by omega)]
        simp
      rw [show D0 = 11 + 1 from rfl]
      simp only [frz]
      rw [if_neg (by omega), m1]
      simp only
      rw [mapO_map (f := frz μ.length (μ ++ (U.dk (q.map kI) (q.map (dI d)) :: Ls)) 11) (g := dI d) (h := dI d) (xs := q) fun x _ => rfl]
    exact (if_pos rfl).trans (run_rt b (fin_cut fz (by simp)))
  · have := far_lt L.lt L.prev L.d0 hg
    simpa using this
end K50

set_option Elab.async false
set_option linter.all false
set_option maxRecDepth 100000
set_option maxHeartbeats 4000000
namespace K50
open PySem L2 R
/-! ### the distances of a town -/
theorem sub_len : ∀ {l q : List Nat}, l.Nodup → (∀ x ∈ l, x ∈ q) → l.length ≤ q.length := by
  intro l
  induction l with
  | nil => intros; simp
  | cons x l ih =>
    intro q nd h
    have hx := h x (by simp)
    have nd' := List.nodup_cons.mp nd
    have h2 := ih (q := q.erase x) nd'.2 fun y hy => by
      have : y ≠ x := fun e => nd'.1 (e ▸ hy)
      exact (List.mem_erase_of_ne this).mpr (h y (by simp [hy]))
    rw [List.length_erase_of_mem hx] at h2
    have := List.length_pos_of_mem hx
    simp; omega
abbrev ssOf (n : Nat) (es : List (Nat × Nat)) : List (List Nat) := (rowsOf n es).map srt
theorem nb_srt (n : Nat) (es : List (Nat × Nat)) (g h : Nat) : h ∈ nb (ssOf n es) g ↔ h ∈ nb (rowsOf n es) g := by
  unfold nb ssOf
  rw [List.getElem?_map]
  cases (rowsOf n es)[g]? with
  | none => simp
  | some r => simpa using srt_mem r h
theorem ssOf_len (n : Nat) (es : List (Nat × Nat)) : (ssOf n es).length = n := by simp [ssOf, rowsOf_len]
variable {n : Nat} {es : List (Nat × Nat)} {rk : Nat → Nat}
theorem nb_lt (T : Town n es rk) (g h : Nat) (hh : h ∈ nb (rowsOf n es) g) : h < n ∧ g < n := by
  rcases (rowsOf_mem T.lt g h).mp hh with z | z
  · have := T.lt _ z; simp only at this; omega
  · have := T.lt _ z; simp only at this; omega
theorem nb_sym (T : Town n es rk) (g h : Nat) : h ∈ nb (rowsOf n es) g ↔ g ∈ nb (rowsOf n es) h := by
  rw [show h ∈ nb (rowsOf n es) g ↔ _ from rowsOf_mem T.lt g h, show g ∈ nb (rowsOf n es) h ↔ _ from rowsOf_mem T.lt h g]
  exact Or.comm
def Dist (n : Nat) (es : List (Nat × Nat)) (d : Nat → Nat) : Prop := ∃ q, Dst n (rowsOf n es) q d ∧ ∀ h, h < n → h ∈ q
theorem Dst.hop {n : Nat} {rs ss : List (List Nat)} {q : List Nat} {d : Nat → Nat} (D : Dst n rs q d) (h : ∀ g x, x ∈ nb ss g ↔ x ∈ nb rs g) : Dst n ss q d :=
  ⟨D.nd, D.zero, D.d0, D.lt, fun x hx h0 => by obtain ⟨g, a, b, c⟩ := D.prev x hx h0; exact ⟨g, a, (h g x).mpr b, c⟩, fun g hg x hx => D.next g hg x ((h g x).mp hx)⟩
theorem Dst.full {q : List Nat} {d : Nat → Nat} (T : Town n es rk) (D : Dst n (rowsOf n es) q d) : ∀ h, h < n → h ∈ q := fun h hn =>
  D.all (rk := rk) (fun h h1 hn => by
    obtain ⟨g, a, b⟩ := T.rk h h1 hn
    have hm : h ∈ nb (rowsOf n es) g := (rowsOf_mem T.lt g h).mpr a
    exact ⟨g, hm, (nb_lt T g h hm).2, b⟩) (rk h + 1) h (Nat.lt_succ_self _) hn
theorem dist_ex (T : Town n es rk) : ∃ d, Dist n es d := by
  obtain ⟨q, d, _, D⟩ := law_far_ok 0 [] T.n40 T.n1 (rowsOf_len n es) fun g h hh => (nb_lt T g h hh).1
  exact ⟨d, q, D, D.full T⟩
theorem law_far_val (k : Nat) (μ : Mu) (T : Town n es rk) {d0 : Nat → Nat} (E0 : Dist n es d0) : ∃ (q : List Nat) (d : Nat → Nat), runF defs (k + 1) 29 [.lst ((rowsOf n es).map rho), I 0] μ = some (.dk (q.map kI) (q.map (dI d)), μ) ∧ ∀ h, h < n → h ∈ q ∧ d h = d0 h := by
  obtain ⟨q, d, e, D⟩ := law_far_ok k μ T.n40 T.n1 (rowsOf_len n es) fun g h hh => (nb_lt T g h hh).1
  obtain ⟨q0, D1, _⟩ := E0
  exact ⟨q, d, e, fun h hn => ⟨D.full T h hn, (D1.uniq (fun _ _ => Iff.rfl) D (D1.full T h hn)).2⟩⟩
theorem spread_val (k : Nat) (μ : Mu) (T : Town n es rk) {d0 : Nat → Nat} (E0 : Dist n es d0) : ∃ (q : List Nat) (d : Nat → Nat) (pp : Nat → U), runF defs (k + 1) 9 [.lst ((ssOf n es).map rho), I 0] μ = some (.dk (q.map kI) (q.map (fU d pp)), μ) ∧ q.length = n ∧ ∀ h, h < n → h ∈ q ∧ d h = d0 h := by
  obtain ⟨q, d, pp, e, D⟩ := spread_ok k μ T.n40 T.n1 (ssOf_len n es) fun g h hh => (nb_lt T g h ((nb_srt n es g h).mp hh)).1
  have D := D.hop (ss := rowsOf n es) fun g x => (nb_srt n es g x).symm
  obtain ⟨q0, D1, _⟩ := E0
  refine ⟨q, d, pp, e, Nat.le_antisymm (nodup_lt D.nd D.lt) ?_, fun h hn => ⟨D.full T h hn, (D1.uniq (fun _ _ => Iff.rfl) D (D1.full T h hn)).2⟩⟩
  have := sub_len (l := List.range n) (q := q) List.nodup_range fun x hx => D.full T x (by simpa using hx)
  simpa using this
/-! ### the guards -/
theorem need_few_ok (k : Nat) (μ : Mu) (T : Town n es rk) : runF defs (k + 5) 10 [tU n es] μ = some (.non, μ) := by
  rw [run_need_few]
  have f := need_friends_ok k μ T
  have h : ¬ (40 : Int) < n := by have := T.n40; omega
  have a0 : atI [I n, .tup (es.map pU)] (0 : Int) = some (I n) := rfl
  simp [b_need_few, f, a0, h, exL, exS, evalE, evalL, evalB, evBin, evCmp, evEq, evIn, evLt, neg?, evIdx, evBi, evIsi, truth, asL, asS, cont, asInt, R.fresh, bindP, bindPs, bindI, R.finish, frz, wipeE, R.isNon, okw, okm, evMe, sky, tky, evSlc, evRev, bnd, walk, items, evCol, dget, dput, storeSub, intL, intT, bls, pairKV, keyU, keysU, mulOk, dat, mapO, nomut, nomuts, lk, biF, D0, endO]
theorem need_town_ok (k : Nat) (μ : Mu) (T : Town n es rk) : runF defs (k + 6) 11 [tU n es] μ = some (.non, μ) := by
  rw [run_need_whole_town]
  have f := need_few_ok k μ T
  have b := beside_ok (k + 4) μ T
  obtain ⟨d0, D⟩ := dist_ex T
  obtain ⟨q, d, pp, e, hq, _⟩ := spread_val (k + 4) μ T D
  have bb : exL (runF defs (k + 5)) μ.length b_need_whole_town [some (tU n es)] μ = some (.nx [some (tU n es)] μ) := by
    unfold b_need_whole_town
    refine (ex_seq (ex_ex (ev_call (ev_l1 (ev_var rfl)) f))).trans ?_
    refine (ex_seq ((ex_ifF (ev_cmp (d := false) (ev_bi (ev_l1 (ev_call (ev_l2 (ev_call (ev_l1 (ev_var rfl)) b) rfl) e)) rfl) (ev_idxT (ev_var rfl) rfl tU0) ?_) rfl).trans ex_nil)).trans ex_nil
    simp [evCmp, evLt, hq]
  exact (if_pos rfl).trans (run_nx bb (fin_cut rfl (by simp)))
abbrev tX (n : Nat) (x : Nat → Nat) : U := .tup ((List.range n).map fun h => I (x h))
theorem need_numbers_ok (k : Nat) (μ : Mu) (T : Town n es rk) {x : Nat → Nat} (hx : ∀ h, h < n → x h ≤ 1000000) : runF defs (k + 7) 12 [tU n es, tX n x] μ = some (.non, μ) := by
  rw [run_need_numbers]
  have f := need_town_ok k μ T
  have w := wholes_ok (k + 4) ((List.range n).map fun h => ((x h : Nat) : Int)) 0 1000000 μ (fun v hv => by
    obtain ⟨h, hh, rfl⟩ := List.mem_map.mp hv
    have := hx h (by simpa using hh)
    omega) (by simp; have := T.n40; unfold SZ; omega)
  rw [List.map_map, List.length_map, List.length_range] at w
  have w : runF defs (k + 6) 4 [tX n x, I n, .int 0, .int 1000000] μ = some (.bl true, μ) := w
  have a0 : atI [I n, .tup (es.map pU)] (0 : Int) = some (I n) := rfl
  simp [b_need_numbers, f, w, a0, exL, exS, evalE, evalL, evalB, evBin, evCmp, evEq, evIn, evLt, neg?, evIdx, evBi, evIsi, truth, asL, asS, cont, asInt, R.fresh, bindP, bindPs, bindI, R.finish, frz, wipeE, R.isNon, okw, okm, evMe, sky, tky, evSlc, evRev, bnd, walk, items, evCol, dget, dput, storeSub, intL, intT, bls, pairKV, keyU, keysU, mulOk, dat, mapO, nomut, nomuts, lk, biF, D0, endO]
theorem frz_tX (m : Nat) (μ : Mu) (k n : Nat) (x : Nat → Nat) : frz m μ (k + 1) (tX n x) = some (tX n x) := by
  simp only [frz]
  rw [mapO_map (f := frz m μ k) (h := fun h => I (x h)) fun h _ => by cases k <;> rfl]
theorem tX_ext {x y : Nat → Nat} (h : ∀ i, i < n → x i = y i) : tX n x = tX n y := by
  unfold tX
  congr 1
  exact List.map_congr_left fun i hi => by rw [h i (by simpa using hi)]
theorem tX_at {x : Nat → Nat} {h : Nat} (hn : h < n) : atI ((List.range n).map fun h => I (x h)) (h : Int) = some (I (x h)) := atI_of (by simp [hn])
/-- a row of the numbers at the houses -/
theorem far_ok (k : Nat) (μ : Mu) (T : Town n es rk) {d : Nat → Nat} (D : Dist n es d) : runF defs (k + 2) 13 [tU n es] μ = some (tX n d, μ) := by
  rw [run_far]
  obtain ⟨q, d', pp, e, hq, hd⟩ := spread_val k μ T D
  have b := beside_ok k μ T
  have c : evalE (runF defs (k + 1)) μ.length c_far_0 [some (tU n es), some (.dk (q.map kI) (q.map (fU d' pp))), none] μ = some (.lst ((List.range n).map fun h => I (d h)), μ) := by
    refine (ev_comp (us := [I n]) (μ1 := μ) (xs := (List.range n).map I) (ev_l1 (ev_idxT (ev_var rfl) rfl tU0)) (walk_rng (by have := T.n40; omega)) (compL_all (enc := I) (g := fun h => I (d h)) (fun h hh => ?_) (by simp; have := T.n40; unfold SZ; omega))).trans rfl
    have hn : h < n := by simpa using hh
    obtain ⟨h1, h2⟩ := hd h hn
    exact cs_yes rfl (ev_idxT (xs := [I (d' h), pp h]) (ev_idxK (u := .dk (q.map kI) (q.map (fU d' pp))) (v := I h) (q := kI h) (ev_var rfl) (ev_var rfl) rfl rfl (lk_map h1)) rfl (by rw [h2]; rfl))
  have bb : exL (runF defs (k + 1)) μ.length b_far [some (tU n es), none, none] μ = some (.rt (tX n d) μ) := by
    unfold b_far
    refine (ex_seq (ex_set (ev_call (ev_l2 (ev_call (ev_l1 (ev_var rfl)) b) rfl) e))).trans ?_
    exact ex_ret (ev_col (ev_l1 c) rfl rfl)
  exact (if_pos rfl).trans (run_rt bb (fin_cut (frz_tX _ _ 11 _ _) (by simp)))
end K50

set_option Elab.async false
set_option linter.all false
set_option maxRecDepth 100000
set_option maxHeartbeats 4000000
namespace K50
open PySem L2 R
/-! ### the least and the greatest -/
def mnL (l : List Nat) : Nat := l.min?.getD 0
theorem mn_eq {l : List Nat} {m : Nat} (h : m ∈ l) (hl : ∀ a ∈ l, m ≤ a) : mnL l = m := by
  unfold mnL
  rw [List.min?_eq_some_iff.mpr ⟨h, hl⟩]
  rfl
theorem mn_ex : ∀ {l : List Nat}, l ≠ [] → ∃ m ∈ l, ∀ a ∈ l, m ≤ a
  | [], h => absurd rfl h
  | [a], _ => ⟨a, by simp, by simp⟩
  | a :: b :: l, _ => by
    obtain ⟨m, h1, h2⟩ := mn_ex (l := b :: l) (by simp)
    by_cases h : a ≤ m
    · exact ⟨a, by simp, fun x hx => by
        rcases List.mem_cons.mp hx with z | z
        · omega
        · exact Nat.le_trans h (h2 x z)⟩
    · exact ⟨m, List.mem_cons_of_mem _ h1, fun x hx => by
        rcases List.mem_cons.mp hx with z | z
        · omega
        · exact h2 x z⟩
theorem mx_ex : ∀ {l : List Nat}, l ≠ [] → ∃ m ∈ l, ∀ a ∈ l, a ≤ m
  | [], h => absurd rfl h
  | [a], _ => ⟨a, by simp, by simp⟩
  | a :: b :: l, _ => by
    obtain ⟨m, h1, h2⟩ := mx_ex (l := b :: l) (by simp)
    by_cases h : m ≤ a
    · exact ⟨a, by simp, fun x hx => by
        rcases List.mem_cons.mp hx with z | z
        · omega
        · exact Nat.le_trans (h2 x z) h⟩
    · exact ⟨m, List.mem_cons_of_mem _ h1, fun x hx => by
        rcases List.mem_cons.mp hx with z | z
        · omega
        · exact h2 x z⟩
theorem mn_mem {l : List Nat} (h : l ≠ []) : mnL l ∈ l := by
  obtain ⟨m, h1, h2⟩ := mn_ex h
  rw [mn_eq h1 h2]; exact h1
theorem mn_le {l : List Nat} {a : Nat} (h : a ∈ l) : mnL l ≤ a := by
  obtain ⟨m, h1, h2⟩ := mn_ex (List.ne_nil_of_mem h)
  rw [mn_eq h1 h2]; exact h2 a h
theorem foldMin : ∀ (l : List Nat) (x : Nat), ∃ m : Nat, (l.map fun a : Nat => (a : Int)).foldl (fun a b => if b < a then b else a) (x : Int) = (m : Int) ∧ (m = x ∨ m ∈ l) ∧ m ≤ x ∧ ∀ a ∈ l, m ≤ a
  | [], x => ⟨x, rfl, .inl rfl, Nat.le_refl _, by simp⟩
  | b :: l, x => by
    rw [List.map_cons, List.foldl_cons]
    by_cases h : b < x
    · rw [if_pos (by omega)]
      obtain ⟨m, e, h1, h2, h3⟩ := foldMin l b
      exact ⟨m, e, .inr (by rcases h1 with z | z <;> simp [z]), by omega, fun a ha => by
        rcases List.mem_cons.mp ha with z | z
        · omega
        · exact h3 a z⟩
    · rw [if_neg (by omega)]
      obtain ⟨m, e, h1, h2, h3⟩ := foldMin l x
      exact ⟨m, e, by rcases h1 with z | z <;> simp [z], h2, fun a ha => by
        rcases List.mem_cons.mp ha with z | z
        · omega
        · exact h3 a z⟩
theorem foldMax : ∀ (l : List Nat) (x : Nat), ∃ m : Nat, (l.map fun a : Nat => (a : Int)).foldl (fun a b => if a < b then b else a) (x : Int) = (m : Int) ∧ (m = x ∨ m ∈ l) ∧ x ≤ m ∧ ∀ a ∈ l, a ≤ m
  | [], x => ⟨x, rfl, .inl rfl, Nat.le_refl _, by simp⟩
  | b :: l, x => by
    rw [List.map_cons, List.foldl_cons]
    by_cases h : x < b
    · rw [if_pos (by omega)]
      obtain ⟨m, e, h1, h2, h3⟩ := foldMax l b
      exact ⟨m, e, .inr (by rcases h1 with z | z <;> simp [z]), by omega, fun a ha => by
        rcases List.mem_cons.mp ha with z | z
        · omega
        · exact h3 a z⟩
    · rw [if_neg (by omega)]
      obtain ⟨m, e, h1, h2, h3⟩ := foldMax l x
      exact ⟨m, e, by rcases h1 with z | z <;> simp [z], h2, fun a ha => by
        rcases List.mem_cons.mp ha with z | z
        · omega
        · exact h3 a z⟩
theorem mapO_I {α : Type} (f : α → Nat) (l : List α) : mapO asInt (l.map fun a => I (f a)) = some ((l.map f).map fun a : Nat => (a : Int)) := by
  rw [List.map_map]
  exact mapO_map fun x _ => rfl
theorem min_bi {α : Type} (μ : Mu) (f : α → Nat) {l : List α} (h : l ≠ []) : evBi μ .min1 [.lst (l.map fun a => I (f a))] = some (I (mnL (l.map f))) := by
  simp only [evBi, intT, asS, asL]
  rw [mapO_I f l]
  cases hl : l.map f with
  | nil => exact absurd (List.map_eq_nil_iff.mp hl) h
  | cons x xs =>
    obtain ⟨m, e, h1, h2, h3⟩ := foldMin xs x
    have : mnL (x :: xs) = m := mn_eq (by rcases h1 with z | z <;> simp [z]) fun a ha => by
      rcases List.mem_cons.mp ha with z | z
      · omega
      · exact h3 a z
    rw [this]
    simp only [List.map_cons, Option.bind, minL, e, Option.map]
def mxL (l : List Nat) : Nat := l.max?.getD 0
theorem mx_eq {l : List Nat} {m : Nat} (h : m ∈ l) (hl : ∀ a ∈ l, a ≤ m) : mxL l = m := by
  unfold mxL
  rw [List.max?_eq_some_iff.mpr ⟨h, hl⟩]
  rfl
theorem max_bi {α : Type} (μ : Mu) (f : α → Nat) {l : List α} (h : l ≠ []) : evBi μ .max1 [.tup (l.map fun a => I (f a))] = some (I (mxL (l.map f))) := by
  simp only [evBi, intT, asS]
  rw [mapO_I f l]
  cases hl : l.map f with
  | nil => exact absurd (List.map_eq_nil_iff.mp hl) h
  | cons x xs =>
    obtain ⟨m, e, h1, h2, h3⟩ := foldMax xs x
    have : mxL (x :: xs) = m := mx_eq (by rcases h1 with z | z <;> simp [z]) fun a ha => by
      rcases List.mem_cons.mp ha with z | z
      · omega
      · exact h3 a z
    rw [this]
    simp only [List.map_cons, Option.bind, maxL, e, Option.map]
/-- the greatest over the houses -/
abbrev mx (n : Nat) (d : Nat → Nat) : Nat := mxL ((List.range n).map d)
theorem mx_spec {n : Nat} (h1 : 1 ≤ n) (d : Nat → Nat) : (∃ h, h < n ∧ d h = mx n d) ∧ ∀ h, h < n → d h ≤ mx n d := by
  obtain ⟨m, a, b⟩ := mx_ex (l := (List.range n).map d) (by simp; omega)
  rw [show mx n d = m from mx_eq a b]
  obtain ⟨h, hh, e⟩ := List.mem_map.mp a
  exact ⟨⟨h, by simpa using hh, e⟩, fun h hn => b _ (List.mem_map.mpr ⟨h, by simpa using hn, rfl⟩)⟩
/-! ### hops -/
def hop (rs : List (List Nat)) (x : Nat → Nat) : Nat → Nat := fun h => if h = 0 then 0 else 1 + mnL ((nb rs h).map x)
def it (rs : List (List Nat)) (x : Nat → Nat) : Nat → Nat → Nat
  | 0 => x
  | t + 1 => hop rs (it rs x t)
theorem hop_rows {rs ss : List (List Nat)} (h : ∀ g x, x ∈ nb ss g ↔ x ∈ nb rs g) (x : Nat → Nat) : hop ss x = hop rs x := by
  funext g
  unfold hop
  by_cases g0 : g = 0
  · rw [if_pos g0, if_pos g0]
  · rw [if_neg g0, if_neg g0]
    congr 1
    by_cases e : nb rs g = []
    · have e2 : nb ss g = [] := List.eq_nil_iff_forall_not_mem.mpr fun x hx => by
        have := (h g x).mp hx
        rw [e] at this
        simp at this
      rw [e, e2]
    · have hm := mn_mem (l := (nb rs g).map x) (by simpa using e)
      obtain ⟨y, hy, ey⟩ := List.mem_map.mp hm
      refine mn_eq (List.mem_map.mpr ⟨y, (h g y).mpr hy, ey⟩) fun a ha => ?_
      obtain ⟨z, hz, ez⟩ := List.mem_map.mp ha
      exact mn_le (List.mem_map.mpr ⟨z, (h g z).mp hz, ez⟩)
theorem it_succ (rs : List (List Nat)) (x : Nat → Nat) (t : Nat) : it rs x (t + 1) = hop rs (it rs x t) := rfl
structure Net (n : Nat) (rs : List (List Nat)) (d : Nat → Nat) : Prop where
  n1 : 1 ≤ n
  d0 : d 0 = 0
  up : ∀ h, h < n → h ≠ 0 → ∃ g ∈ nb rs h, d h = d g + 1
  lip : ∀ h, h < n → ∀ g ∈ nb rs h, g < n ∧ d h ≤ d g + 1
theorem Dist.net {n : Nat} {es : List (Nat × Nat)} {rk d : Nat → Nat} (T : Town n es rk) (D : Dist n es d) : Net n (rowsOf n es) d := by
  obtain ⟨q, D, f⟩ := D
  refine ⟨T.n1, D.d0, fun h hn h0 => ?_, fun h hn g hg => ?_⟩
  · obtain ⟨g, _, a, b⟩ := D.prev h (f h hn) h0
    exact ⟨g, (nb_sym T g h).mp a, b⟩
  · have hg' := (nb_lt T h g hg).1
    exact ⟨hg', (D.next g (f g hg') h ((nb_sym T h g).mp hg)).2⟩
section
variable {n : Nat} {rs : List (List Nat)} {d x y : Nat → Nat}
theorem hop_le {h g : Nat} (h0 : h ≠ 0) (hg : g ∈ nb rs h) : hop rs x h ≤ 1 + x g := by
  unfold hop
  rw [if_neg h0]
  have := mn_le (List.mem_map.mpr ⟨g, hg, rfl⟩ : x g ∈ (nb rs h).map x)
  omega
theorem hop_at {h : Nat} (h0 : h ≠ 0) (hg : nb rs h ≠ []) : ∃ g ∈ nb rs h, hop rs x h = 1 + x g := by
  unfold hop
  rw [if_neg h0]
  obtain ⟨g, a, b⟩ := List.mem_map.mp (mn_mem (l := (nb rs h).map x) (by simpa using hg))
  exact ⟨g, a, by rw [b]⟩
theorem hop_zero : hop rs x 0 = 0 := if_pos rfl
theorem Net.ne (N : Net n rs d) {h : Nat} (hn : h < n) (h0 : h ≠ 0) : nb rs h ≠ [] := by
  obtain ⟨g, a, _⟩ := N.up h hn h0
  exact List.ne_nil_of_mem a
theorem Net.low (N : Net n rs d) : ∀ t h, h < n → min t (d h) ≤ it rs x t h := by
  intro t
  induction t with
  | zero => intro h _; omega
  | succ t ih =>
    intro h hn
    rw [it_succ]
    by_cases h0 : h = 0
    · subst h0; rw [N.d0]; omega
    · obtain ⟨g, hg, e⟩ := hop_at (x := it rs x t) h0 (N.ne hn h0)
      obtain ⟨gn, gl⟩ := N.lip h hn g hg
      have := ih g gn
      omega
theorem Net.exact (N : Net n rs d) : ∀ t h, h < n → d h < t → it rs x t h = d h := by
  intro t
  induction t with
  | zero => intro h _ z; omega
  | succ t ih =>
    intro h hn hl
    have lo := N.low (x := x) (t + 1) h hn
    rw [it_succ] at lo ⊢
    by_cases h0 : h = 0
    · subst h0; rw [N.d0]; exact hop_zero
    · obtain ⟨g, hg, e⟩ := N.up h hn h0
      obtain ⟨gn, gl⟩ := N.lip h hn g hg
      have h1 := hop_le (x := it rs x t) h0 hg
      rw [ih g gn (by omega)] at h1
      omega
theorem Net.fix (N : Net n rs d) (e : ∀ h, h < n → x h = d h) : ∀ h, h < n → hop rs x h = d h := by
  intro h hn
  by_cases h0 : h = 0
  · subst h0; rw [N.d0]; exact hop_zero
  · obtain ⟨g, hg, e1⟩ := hop_at (x := x) h0 (N.ne hn h0)
    obtain ⟨gn, gl⟩ := N.lip h hn g hg
    obtain ⟨g', hg', e'⟩ := N.up h hn h0
    obtain ⟨gn', gl'⟩ := N.lip h hn g' hg'
    have h1 := hop_le (x := x) h0 hg'
    rw [e g gn] at e1
    rw [e g' gn'] at h1
    omega
theorem Net.stay (N : Net n rs d) {t : Nat} (e : ∀ h, h < n → it rs x t h = d h) : ∀ s h, h < n → it rs x (t + s) h = d h := by
  intro s
  induction s with
  | zero => exact e
  | succ s ih => exact N.fix ih
theorem Net.zeros (N : Net n rs d) (e : ∀ h, h < n → x h = 0) : ∀ t h, h < n → it rs x t h = min t (d h) := by
  intro t
  induction t with
  | zero => intro h hn; rw [show it rs x 0 = x from rfl, e h hn]; omega
  | succ t ih =>
    intro h hn
    have lo := N.low (x := x) (t + 1) h hn
    rw [it_succ] at lo ⊢
    by_cases h0 : h = 0
    · subst h0; rw [N.d0, hop_zero]; omega
    · obtain ⟨g, hg, e1⟩ := N.up h hn h0
      obtain ⟨gn, gl⟩ := N.lip h hn g hg
      have h1 := hop_le (x := it rs x t) h0 hg
      rw [ih g gn] at h1
      omega
theorem Net.lates (N : Net n rs d) {L : Nat} (e : ∀ h, h < n → x h = L) : ∀ t h, h < n → t ≤ d h → it rs x t h = L + t := by
  intro t
  induction t with
  | zero => intro h hn _; exact e h hn
  | succ t ih =>
    intro h hn hl
    rw [it_succ]
    have h0 : h ≠ 0 := fun z => by subst z; have := N.d0; omega
    obtain ⟨g, hg, e1⟩ := hop_at (x := it rs x t) h0 (N.ne hn h0)
    obtain ⟨gn, gl⟩ := N.lip h hn g hg
    rw [e1, ih g gn (by omega)]
    omega
/-- the first turn at which all are exact -/
structure Rest (n : Nat) (rs : List (List Nat)) (x d : Nat → Nat) (T : Nat) : Prop where
  at_ : ∀ h, h < n → it rs x T h = d h
  before : ∀ t, t < T → ¬ ∀ h, h < n → it rs x t h = d h
theorem first {P : Nat → Prop} : ∀ b, P b → ∃ T, T ≤ b ∧ P T ∧ ∀ t, t < T → ¬ P t := by
  intro b
  induction b using Nat.strongRecOn with
  | _ b ih =>
    intro hb
    by_cases h : ∃ t, t < b ∧ P t
    · obtain ⟨t, h1, h2⟩ := h
      obtain ⟨T, a, c⟩ := ih t h1 h2
      exact ⟨T, by omega, c⟩
    · exact ⟨b, Nat.le_refl _, hb, fun t ht hp => h ⟨t, ht, hp⟩⟩
theorem Net.rest (N : Net n rs d) (x : Nat → Nat) : ∃ T, T ≤ mx n d + 1 ∧ Rest n rs x d T := by
  obtain ⟨T, a, b, c⟩ := first (P := fun t => ∀ h, h < n → it rs x t h = d h) (mx n d + 1) fun h hn => N.exact _ h hn (by have := (mx_spec N.n1 d).2 h hn; omega)
  exact ⟨T, a, b, c⟩
theorem Rest.uniq {T S : Nat} (R : Rest n rs x d T) (Q : Rest n rs x d S) : T = S := by
  rcases Nat.lt_trichotomy T S with h | h | h
  · exact absurd R.at_ (Q.before T h)
  · exact h
  · exact absurd Q.at_ (R.before S h)
theorem Net.rest0 (N : Net n rs d) (e : ∀ h, h < n → x h = 0) : Rest n rs x d (mx n d) :=
  ⟨fun h hn => by rw [N.zeros e _ h hn]; have := (mx_spec N.n1 d).2 h hn; omega, fun t ht hp => by
    obtain ⟨h, hn, e2⟩ := (mx_spec N.n1 d).1
    have := hp h hn
    rw [N.zeros e _ h hn] at this
    omega⟩
theorem Net.restL (N : Net n rs d) {L : Nat} (hL : ∀ h, h < n → d h < L) (e : ∀ h, h < n → x h = L) : Rest n rs x d (mx n d + 1) :=
  ⟨fun h hn => N.exact _ h hn (by have := (mx_spec N.n1 d).2 h hn; omega), fun t ht hp => by
    obtain ⟨h, hn, e2⟩ := (mx_spec N.n1 d).1
    have h1 := hp h hn
    rw [N.lates e _ h hn (by omega)] at h1
    have := hL h hn
    omega⟩
end
end K50

set_option Elab.async false
set_option linter.all false
set_option maxRecDepth 100000
set_option maxHeartbeats 4000000
namespace K50
open PySem L2 R
theorem eqvAll_I : ∀ ns ms : List Int, PyData.eqvAll (ns.map PyData.int) (ms.map PyData.int) = decide (ns = ms)
  | [], [] => by simp [PyData.eqvAll]
  | [], m :: ms => by simp [PyData.eqvAll]
  | n :: ns, [] => by simp [PyData.eqvAll]
  | n :: ns, m :: ms => by
    simp only [List.map_cons, PyData.eqvAll, eqvAll_I ns ms, PyData.eqv, List.cons.injEq, Bool.decide_and]
    rfl
theorem dat_tX (μ : Mu) (n : Nat) (x : Nat → Nat) : dat μ D0 (tX n x) = some (.tuple (((List.range n).map fun h => ((x h : Nat) : Int)).map PyData.int)) := by
  rw [show D0 = 11 + 1 from rfl]
  simp only [dat]
  rw [mapO_map (f := dat μ 11) (h := fun h => PyData.int ((x h : Nat) : Int)) fun h _ => rfl, List.map_map]
  rfl
theorem eq_tX (μ : Mu) (n : Nat) (x y : Nat → Nat) : evEq μ (tX n x) (tX n y) = some (decide (∀ h, h < n → x h = y h)) := by
  unfold evEq
  rw [dat_tX, dat_tX]
  simp only [PyData.eqv]
  rw [eqvAll_I]
  congr 1
  rw [decide_eq_decide, List.map_inj_left]
  constructor
  · intro h i hi
    have := h i (by simpa using hi)
    omega
  · intro h i hi
    rw [h i (by simpa using hi)]
section
variable {cal : Nat → List U → Mu → Option (U × Mu)} {n0 : Nat} {σ : R.Env} {μ μ1 : Mu} {a b c lo hi : E} {xs : List U} {l h : U} {l' h' : Option Int}
theorem ev_slcL (ha : evalE cal n0 a σ μ = some (.lst xs, μ1)) (hl : evalE cal n0 lo σ μ1 = some (l, μ1)) (hh : evalE cal n0 hi σ μ1 = some (h, μ1)) (bl : bnd l = some l') (bh : bnd h = some h') : evalE cal n0 (.slc false a lo hi) σ μ = some (.lst (cutU xs l' h'), μ1) := by
  simp only [evalE, ha, hl, hh, evSlc, bl, bh, asL]
  rfl
theorem ev_int {i : Int} : evalE cal n0 (.int i) σ μ = some (.int i, μ) := by simp only [evalE]
theorem ev_gint {i : Int} : evalE cal n0 (.gint i) σ μ = some (.int i, μ) := by simp only [evalE]
theorem ev_andF (ha : evalE cal n0 a σ μ = some (.bl false, μ1)) : evalE cal n0 (.bool true [a, b]) σ μ = some (.bl false, μ1) := by
  simp only [evalE, evalB, ha, truth]
  rfl
theorem ev_andT {r : Option (U × Mu)} (ha : evalE cal n0 a σ μ = some (.bl true, μ1)) (hb : evalE cal n0 b σ μ1 = r) : evalE cal n0 (.bool true [a, b]) σ μ = r := by
  simp only [evalE, evalB, ha, truth, hb]
  rfl
theorem ev_orT (ha : evalE cal n0 a σ μ = some (.bl true, μ1)) : evalE cal n0 (.bool false [a, b]) σ μ = some (.bl true, μ1) := by
  simp only [evalE, evalB, ha, truth]
  rfl
theorem ev_orF {r : Option (U × Mu)} (ha : evalE cal n0 a σ μ = some (.bl false, μ1)) (hb : evalE cal n0 b σ μ1 = r) : evalE cal n0 (.bool false [a, b]) σ μ = r := by
  simp only [evalE, evalB, ha, truth, hb]
  rfl
theorem ev_orF3 {r : Option (U × Mu)} (ha : evalE cal n0 a σ μ = some (.bl false, μ1)) (hb : evalE cal n0 (.bool false [b, c]) σ μ1 = r) : evalE cal n0 (.bool false [a, b, c]) σ μ = r := by
  simp only [evalE] at hb
  simp only [evalE, evalB, ha, truth]
  exact hb
end
theorem rows_ix {n : Nat} {rs : List (List Nat)} (hl : rs.length = n + 1) : (rs.map rho).drop 1 = (List.range n).map fun i => rho (nb rs (i + 1)) := by
  apply List.ext_getElem?
  intro i
  simp only [List.getElem?_drop, List.getElem?_map]
  by_cases h : i < n
  · have h' : 1 + i < rs.length := by omega
    have h2 : i + 1 < rs.length := by omega
    simp [h, h', nb, h2, Nat.add_comm 1 i]
  · have h' : ¬ 1 + i < rs.length := by omega
    simp [h, h']
theorem step_ok (k : Nat) (μ : Mu) {n : Nat} {rs : List (List Nat)} (hl : rs.length = n + 1) (hn : n + 1 ≤ 40) (hne : ∀ h, h < n + 1 → h ≠ 0 → nb rs h ≠ []) (hlt : ∀ g h, h ∈ nb rs g → h < n + 1) (hsz : ∀ g, (nb rs g).length ≤ SZ) (x : Nat → Nat) :
    runF defs (k + 1) 14 [.lst (rs.map rho), tX (n + 1) x] μ = some (tX (n + 1) (hop rs x), μ) := by
  rw [run_step]
  have c0 : ∀ r : List Nat, (∀ h ∈ r, h < n + 1) → r.length ≤ SZ → evalE (runF defs k) μ.length c_step_0 [some (.lst (rs.map rho)), some (tX (n + 1) x), some (rho r), none] μ = some (.lst (r.map fun h => I (x h)), μ) := by
    intro r hr hz
    refine (ev_comp (us := [rho r]) (μ1 := μ) (xs := r.map I) (ev_l1 (ev_var rfl)) rfl (compL_all (enc := I) (g := fun h => I (x h)) (fun h hh => ?_) (by simpa using hz))).trans rfl
    exact cs_yes rfl (ev_idxT (ev_var rfl) (ev_var rfl) (tX_at (hr h hh)))
  have c1 : evalE (runF defs k) μ.length c_step_1 [some (.lst (rs.map rho)), some (tX (n + 1) x), none, none] μ = some (.lst ((List.range n).map fun i => I (hop rs x (i + 1))), μ) := by
    refine (ev_comp (us := [.lst ((List.range n).map fun i => rho (nb rs (i + 1)))]) (μ1 := μ) (xs := (List.range n).map fun i => rho (nb rs (i + 1))) (ev_l1 ?_) rfl (compL_all (enc := fun i => rho (nb rs (i + 1))) (g := fun i => I (hop rs x (i + 1))) (fun i hi => ?_) (by simp; unfold SZ; omega))).trans rfl
    · rw [← rows_ix hl, ← cutU_from]
      exact ev_slcL (ev_var rfl) ev_int rfl rfl rfl
    · have hi : i < n := by simpa using hi
      have e := min_bi μ x (hne (i + 1) (by omega) (by omega))
      refine cs_yes rfl (ev_bin (ev_int) (ev_bi (ev_l1 (c0 _ (hlt (i + 1)) (hsz _))) e) ?_)
      rfl
  have b : exL (runF defs k) μ.length b_step [some (.lst (rs.map rho)), some (tX (n + 1) x), none, none] μ = some (.rt (tX (n + 1) (hop rs x)) μ) := by
    unfold b_step
    refine ex_ret (ev_bin (ev_tup (ev_l1 ev_int) (by simp [SZ])) (ev_col (ev_l1 c1) rfl rfl) ?_)
    simp only [evBin]
    rw [if_pos (by simp; unfold SZ; omega)]
    congr 2
    unfold tX
    congr 1
    rw [List.range_succ_eq_map, List.map_cons, List.map_map]
    rfl
  exact (if_pos rfl).trans (run_rt b (fin_cut (frz_tX _ _ 11 _ _) (by simp)))
theorem hopped_eq (k : Nat) (us : List U) (μ : Mu) : runF defs (k + 1) 34 us μ = runF defs (k + 1) 14 us μ := rfl
variable {n : Nat} {es : List (Nat × Nat)} {rk d x : Nat → Nat}
theorem srt_len (r : List Nat) : (srt r).length = r.length := List.length_mergeSort r
theorem step_s (k : Nat) (μ : Mu) (T : Town n es rk) (N : Net n (rowsOf n es) d) (x : Nat → Nat) : runF defs (k + 1) 14 [.lst ((ssOf n es).map rho), tX n x] μ = some (tX n (hop (rowsOf n es) x), μ) := by
  rw [← hop_rows (fun g h => nb_srt n es g h) x]
  have h1 := T.n1
  obtain ⟨m, rfl⟩ : ∃ m, n = m + 1 := ⟨n - 1, by omega⟩
  refine step_ok k μ (ssOf_len _ es) T.n40 (fun h hn h0 => ?_) (fun g h hh => (nb_lt T g h ((nb_srt _ es g h).mp hh)).1) (fun g => ?_) x
  · obtain ⟨g, hg, _⟩ := N.up h hn h0
    exact List.ne_nil_of_mem ((nb_srt _ es h g).mpr hg)
  · have := row_sz T g
    unfold nb ssOf
    rw [List.getElem?_map]
    cases hr : (rowsOf (m + 1) es)[g]? with
    | none => simp
    | some r => rw [hr] at this; simpa [srt_len] using this
theorem step_r (k : Nat) (μ : Mu) (T : Town n es rk) (N : Net n (rowsOf n es) d) (x : Nat → Nat) : runF defs (k + 1) 34 [.lst ((rowsOf n es).map rho), tX n x] μ = some (tX n (hop (rowsOf n es) x), μ) := by
  rw [hopped_eq]
  have h1 := T.n1
  obtain ⟨m, rfl⟩ : ∃ m, n = m + 1 := ⟨n - 1, by omega⟩
  refine step_ok k μ (rowsOf_len _ es) T.n40 (fun h hn h0 => N.ne hn h0) (fun g h hh => (nb_lt T g h hh).1) (fun g => row_sz T g) x
theorem Dist.lt (D : Dist n es d) : ∀ h, h < n → d h < n := fun h hn => by
  obtain ⟨q, D, f⟩ := D
  exact far_lt D.lt D.prev D.d0 (f h hn)
theorem mx_lt (T : Town n es rk) (D : Dist n es d) : mx n d < n := by
  obtain ⟨⟨h, a, b⟩, _⟩ := mx_spec T.n1 d
  rw [← b]
  exact D.lt h a
theorem rest_le (T : Town n es rk) (D : Dist n es d) {S : Nat} (R : Rest n (rowsOf n es) x d S) : S ≤ mx n d + 1 := by
  obtain ⟨S', a, b⟩ := (Dist.net T D).rest x
  rw [R.uniq b]; exact a
theorem rest_in_ok (k : Nat) (μ : Mu) (T : Town n es rk) (D : Dist n es d) {S : Nat} (R : Rest n (rowsOf n es) x d S) : runF defs (k + 3) 15 [tU n es, tX n x] μ = some (I S, μ) := by
  have N := Dist.net T D
  have hS : S ≤ 40 := by have := rest_le T D R; have := mx_lt T D; have := T.n40; omega
  rw [run_rest_in]
  obtain ⟨σ', μ', e, t, rfl, rfl, h4⟩ := whL_inv (cond := wcond (runF defs (k + 2)) μ.length (.cmp .ne (.var 1) (.var 3))) (body := fun σ μ' => exL (runF defs (k + 2)) μ.length lb_rest_in_0 σ μ')
    (fun m σ μ' => ∃ t, σ = [some (tU n es), some (tX n (it (rowsOf n es) x t)), some (.lst ((ssOf n es).map rho)), some (tX n d), some (I t)] ∧ μ' = μ ∧ t ≤ S ∧ m = S - t)
    (fun σ μ' => ∃ t, σ = [some (tU n es), some (tX n (it (rowsOf n es) x t)), some (.lst ((ssOf n es).map rho)), some (tX n d), some (I t)] ∧ μ' = μ ∧ t = S)
    (fun m σ μ' hP => by
      obtain ⟨t, rfl, rfl, ht, rfl⟩ := hP
      have cd : wcond (runF defs (k + 2)) μ'.length (.cmp .ne (.var 1) (.var 3)) [some (tU n es), some (tX n (it (rowsOf n es) x t)), some (.lst ((ssOf n es).map rho)), some (tX n d), some (I t)] μ' = some (!decide (∀ h, h < n → it (rowsOf n es) x t h = d h), μ') := by
        unfold wcond
        rw [ev_cmp (d := !decide (∀ h, h < n → it (rowsOf n es) x t h = d h)) (ev_var rfl) (ev_var rfl) (by simp only [evCmp, eq_tX, neg?])]
        rfl
      by_cases hE : ∀ h, h < n → it (rowsOf n es) x t h = d h
      · refine .inl ⟨μ', by rw [cd, decide_eq_true hE]; rfl, t, rfl, rfl, ?_⟩
        exact Nat.le_antisymm ht (Nat.le_of_not_lt fun z => R.before t z hE)
      · have hts : t < S := Nat.lt_of_le_of_ne ht fun z => hE (z ▸ R.at_)
        refine .inr ⟨μ', _, _, by rw [cd, decide_eq_false hE]; rfl, .inl ?_, S - (t + 1), by omega, t + 1, rfl, rfl, hts, rfl⟩
        show exL (runF defs (k + 2)) μ'.length lb_rest_in_0 _ _ = _
        unfold lb_rest_in_0
        refine (ex_seq (ex_par (us := [tX n (it (rowsOf n es) x (t + 1)), I (t + 1)]) (ev_l2 (ev_call (ev_l2 (ev_var rfl) (ev_var rfl)) (step_s (k + 1) _ T N _)) (ev_bin (ev_var rfl) ev_int rfl)) rfl)).trans ex_nil)
    (f := FU) (m := S) (σ := [some (tU n es), some (tX n x), some (.lst ((ssOf n es).map rho)), some (tX n d), some (I 0)]) (μ := μ) ⟨0, rfl, rfl, Nat.zero_le _, rfl⟩ (by unfold FU; omega)
  subst h4
  have b : exL (runF defs (k + 2)) μ'.length b_rest_in [some (tU n es), some (tX n x), none, none, none] μ' = some (.rt (I t) μ') := by
    unfold b_rest_in
    refine (ex_seq (ex_par (us := [.lst ((ssOf n es).map rho), tX n d, I 0]) (ev_lcons (ev_call (ev_l1 (ev_var rfl)) (beside_ok (k + 1) _ T)) (ev_l2 (ev_call (ev_l1 (ev_var rfl)) (far_ok k _ T D)) ev_int)) rfl)).trans ?_
    refine (ex_seq ((show exS _ _ l_rest_in_0 _ _ = _ from ex_wh).trans e)).trans ?_
    exact ex_ret (ev_var rfl)
  exact (if_pos rfl).trans (run_rt b (fin_cut rfl (by simp)))
theorem distances_ok (k : Nat) (μ : Mu) (T : Town n es rk) (D : Dist n es d) : runF defs (k + 7) 16 [tU n es] μ = some (tX n d, μ) := by
  rw [run_distances]
  have b : exL (runF defs (k + 6)) μ.length b_distances [some (tU n es)] μ = some (.rt (tX n d) μ) := by
    unfold b_distances
    refine (ex_seq (ex_ex (ev_call (ev_l1 (ev_var rfl)) (need_town_ok k _ T)))).trans ?_
    exact ex_ret (ev_call (ev_l1 (ev_var rfl)) (far_ok (k + 4) _ T D))
  exact (if_pos rfl).trans (run_rt b (fin_cut (frz_tX _ _ 11 _ _) (by simp)))
theorem most_ok (k : Nat) (μ : Mu) (T : Town n es rk) (D : Dist n es d) : runF defs (k + 7) 20 [tU n es] μ = some (I (mx n d + 1), μ) := by
  rw [run_most_steps]
  have b : exL (runF defs (k + 6)) μ.length b_most_steps [some (tU n es)] μ = some (.rt (I (mx n d + 1)) μ) := by
    unfold b_most_steps
    refine (ex_seq (ex_ex (ev_call (ev_l1 (ev_var rfl)) (need_town_ok k _ T)))).trans ?_
    refine ex_ret (ev_bin (ev_bi (ev_l1 (ev_call (ev_l1 (ev_var rfl)) (far_ok (k + 4) _ T D))) (max_bi μ d (by have := T.n1; simp; omega))) ev_int rfl)
  exact (if_pos rfl).trans (run_rt b (fin_cut rfl (by simp)))
theorem rep_tX (n : Nat) (v : Nat) : (List.replicate n [I v]).flatten = (List.range n).map fun _ => I v := by
  induction n with
  | zero => rfl
  | succ n ih => rw [List.replicate_succ, List.flatten_cons, ih, List.range_succ_eq_map]; simp [Function.comp_def]
theorem mul_tX (μ : Mu) (al : Bool) (n v : Nat) (hn : n ≤ 40) : evBin al μ .mul (.tup [I v]) (I n) = some (tX n fun _ => v, μ) := by
  simp only [evBin]
  rw [if_pos (by simp; unfold SZ; omega)]
  rw [show ((n : Int)).toNat = n from rfl, rep_tX]
theorem late_ok (k : Nat) (μ : Mu) (T : Town n es rk) : runF defs (k + 7) 21 [tU n es] μ = some (tX n fun _ => 1000000, μ) := by
  rw [run_late_numbers]
  have b : exL (runF defs (k + 6)) μ.length b_late_numbers [some (tU n es)] μ = some (.rt (tX n fun _ => 1000000) μ) := by
    unfold b_late_numbers
    refine (ex_seq (ex_ex (ev_call (ev_l1 (ev_var rfl)) (need_town_ok k _ T)))).trans ?_
    exact ex_ret (ev_bin (u := .tup [I 1000000]) (ev_tup (ev_l1 (by simp only [evalE]; rfl)) (by simp [SZ])) (ev_idxT (ev_var rfl) rfl tU0) (mul_tX _ _ _ _ T.n40))
  exact (if_pos rfl).trans (run_rt b (fin_cut (frz_tX _ _ 11 _ _) (by simp)))
theorem stepped_ok (k : Nat) (μ : Mu) (T : Town n es rk) (D : Dist n es d) (hx : ∀ h, h < n → x h ≤ 1000000) : runF defs (k + 8) 17 [tU n es, tX n x] μ = some (tX n (hop (rowsOf n es) x), μ) := by
  rw [run_stepped]
  have b : exL (runF defs (k + 7)) μ.length b_stepped [some (tU n es), some (tX n x)] μ = some (.rt (tX n (hop (rowsOf n es) x)) μ) := by
    unfold b_stepped
    refine (ex_seq (ex_ex (ev_call (ev_l2 (ev_var rfl) (ev_var rfl)) (need_numbers_ok k _ T hx)))).trans ?_
    exact ex_ret (ev_call (ev_l2 (ev_call (ev_l1 (ev_var rfl)) (beside_ok (k + 6) _ T)) (ev_var rfl)) (step_s (k + 6) _ T (Dist.net T D) _))
  exact (if_pos rfl).trans (run_rt b (fin_cut (frz_tX _ _ 11 _ _) (by simp)))
theorem rest_ok (k : Nat) (μ : Mu) (T : Town n es rk) (D : Dist n es d) (hx : ∀ h, h < n → x h ≤ 1000000) {S : Nat} (R : Rest n (rowsOf n es) x d S) : runF defs (k + 8) 19 [tU n es, tX n x] μ = some (I S, μ) := by
  rw [run_steps_to_rest]
  have b : exL (runF defs (k + 7)) μ.length b_steps_to_rest [some (tU n es), some (tX n x)] μ = some (.rt (I S) μ) := by
    unfold b_steps_to_rest
    refine (ex_seq (ex_ex (ev_call (ev_l2 (ev_var rfl) (ev_var rfl)) (need_numbers_ok k _ T hx)))).trans ?_
    exact ex_ret (ev_call (ev_l2 (ev_var rfl) (ev_var rfl)) (rest_in_ok (k + 4) _ T D R))
  exact (if_pos rfl).trans (run_rt b (fin_cut rfl (by simp)))
theorem behind_ok (k : Nat) (μ : Mu) (T : Town n es rk) (D : Dist n es d) (hx : ∀ h, h < n → x h ≤ 1000000) {L : Nat} (hL : L ≤ 1000000000000000000) : runF defs (k + 8) 18 [tU n es, tX n x, I L] μ = some (tX n (it (rowsOf n es) x L), μ) := by
  have N := Dist.net T D
  obtain ⟨S, hS, R⟩ := N.rest x
  have hS : S ≤ 40 := by have := mx_lt T D; have := T.n40; omega
  rw [run_behind_steps]
  obtain ⟨σ', μ', e, t, rfl, rfl, h4⟩ := whL_inv (cond := wcond (runF defs (k + 7)) μ.length (.bool true [(.cmp .gt (.var 2) (.int 0)), (.cmp .ne (.var 1) (.var 4))])) (body := fun σ μ' => exL (runF defs (k + 7)) μ.length lb_behind_steps_0 σ μ')
    (fun m σ μ' => ∃ t, σ = [some (tU n es), some (tX n (it (rowsOf n es) x t)), some (I (L - t)), some (.lst ((ssOf n es).map rho)), some (tX n d)] ∧ μ' = μ ∧ t ≤ S ∧ t ≤ L ∧ m = S - t)
    (fun σ μ' => ∃ t, σ = [some (tU n es), some (tX n (it (rowsOf n es) x t)), some (I (L - t)), some (.lst ((ssOf n es).map rho)), some (tX n d)] ∧ μ' = μ ∧ (t = L ∨ t = S ∧ t ≤ L))
    (fun m σ μ' hP => by
      obtain ⟨t, rfl, rfl, ht, hl, rfl⟩ := hP
      have cd : wcond (runF defs (k + 7)) μ'.length (.bool true [(.cmp .gt (.var 2) (.int 0)), (.cmp .ne (.var 1) (.var 4))]) [some (tU n es), some (tX n (it (rowsOf n es) x t)), some (I (L - t)), some (.lst ((ssOf n es).map rho)), some (tX n d)] μ' = some (decide ((0 : Int) < ((L - t : Nat) : Int)) && !decide (∀ h, h < n → it (rowsOf n es) x t h = d h), μ') := by
        unfold wcond
        by_cases h0 : (0 : Int) < ((L - t : Nat) : Int)
        · rw [ev_andT (r := some (.bl (!decide (∀ h, h < n → it (rowsOf n es) x t h = d h)), μ')) (ev_cmp (d := true) (ev_var rfl) ev_int (by simp only [evCmp, evLt]; rw [decide_eq_true h0])) (ev_cmp (ev_var rfl) (ev_var rfl) (by simp only [evCmp, eq_tX, neg?])), decide_eq_true h0]
          rfl
        · rw [ev_andF (ev_cmp (d := false) (ev_var rfl) ev_int (by simp only [evCmp, evLt]; rw [decide_eq_false h0])), decide_eq_false h0]
          rfl
      by_cases h0 : (0 : Int) < ((L - t : Nat) : Int)
      · by_cases hE : ∀ h, h < n → it (rowsOf n es) x t h = d h
        · refine .inl ⟨μ', by rw [cd, decide_eq_true hE, decide_eq_true h0]; rfl, t, rfl, rfl, .inr ⟨?_, hl⟩⟩
          exact Nat.le_antisymm ht (Nat.le_of_not_lt fun z => R.before t z hE)
        · have hts : t < S := Nat.lt_of_le_of_ne ht fun z => hE (z ▸ R.at_)
          refine .inr ⟨μ', _, _, by rw [cd, decide_eq_false hE, decide_eq_true h0]; rfl, .inl ?_, S - (t + 1), by omega, t + 1, rfl, rfl, hts, by omega, rfl⟩
          show exL (runF defs (k + 7)) μ'.length lb_behind_steps_0 _ _ = _
          unfold lb_behind_steps_0
          refine (ex_seq (ex_par (us := [tX n (it (rowsOf n es) x (t + 1)), I (L - (t + 1))]) (ev_l2 (ev_call (ev_l2 (ev_var rfl) (ev_var rfl)) (step_s (k + 6) _ T N _)) (ev_bin (ev_var rfl) ev_int ?_)) rfl)).trans ex_nil
          simp only [evBin]
          congr 3
          omega
      · refine .inl ⟨μ', by rw [cd, decide_eq_false h0]; rfl, t, rfl, rfl, .inl (by omega)⟩)
    (f := FU) (m := S) (σ := [some (tU n es), some (tX n x), some (I L), some (.lst ((ssOf n es).map rho)), some (tX n d)]) (μ := μ) ⟨0, rfl, rfl, Nat.zero_le _, Nat.zero_le _, rfl⟩ (by unfold FU; omega)
  have hv : tX n (it (rowsOf n es) x t) = tX n (it (rowsOf n es) x L) := by
    rcases h4 with h4 | ⟨h4, h5⟩
    · rw [h4]
    · subst h4
      refine tX_ext fun i hi => ?_
      have := N.stay R.at_ (L - t) i hi
      rw [show t + (L - t) = L by omega] at this
      rw [this, R.at_ i hi]
  have b : exL (runF defs (k + 7)) μ'.length b_behind_steps [some (tU n es), some (tX n x), some (I L), none, none] μ' = some (.rt (tX n (it (rowsOf n es) x L)) μ') := by
    unfold b_behind_steps
    refine (ex_seq (ex_ex (ev_call (ev_l2 (ev_var rfl) (ev_var rfl)) (need_numbers_ok k _ T hx)))).trans ?_
    refine (ex_seq (ex_ex (ev_call (us := [I L, .int 0, .int 1000000000000000000]) (ev_lcons (ev_var rfl) (ev_l2 ev_int ev_gint)) (need_whole_ok (k + 5) L 0 1000000000000000000 _ (by omega))))).trans ?_
    refine (ex_seq (ex_par (us := [.lst ((ssOf n es).map rho), tX n d]) (ev_l2 (ev_call (ev_l1 (ev_var rfl)) (beside_ok (k + 6) _ T)) (ev_call (ev_l1 (ev_var rfl)) (far_ok (k + 5) _ T D))) rfl)).trans ?_
    refine (ex_seq ((show exS _ _ l_behind_steps_0 _ _ = _ from ex_wh).trans e)).trans ?_
    rw [← hv]
    exact ex_ret (ev_var rfl)
  exact (if_pos rfl).trans (run_rt b (fin_cut (frz_tX _ _ 11 _ _) (by simp)))
end K50

set_option Elab.async false
set_option linter.all false
set_option maxRecDepth 100000
set_option maxHeartbeats 4000000
namespace K50
open PySem L2 R
/-! ### the cup -/
theorem ex_subL {cal : Nat → List U → Mu → Option (U × Mu)} {n0 : Nat} {σ : R.Env} {μ : Mu} {a e j : E} {i : Nat} {u : U} {xs : List U} {jj : Int} {q : Nat} (he : evalE cal n0 e σ μ = some (u, μ)) (ha : evalE cal n0 a σ μ = some (.ob i, μ)) (hj : evalE cal n0 j σ μ = some (.int jj, μ)) (h : μ[i]? = some (.lst xs)) (hq : ixN xs.length jj = some q) (ho : okw n0 i u = true) :
    exS cal n0 (.sub a j e) σ μ = some (.nx σ (μ.set i (.lst (xs.set q u)))) := by
  simp only [exS, ha, he, hj, storeSub, h, hq, ho]
  rfl
def Cup (c : U) : Prop := ∃ c0 c1 : Int, c = .lst [.int c0, .int c1] ∧ 0 ≤ c0 ∧ 0 ≤ c1 ∧ c1 < 2147483648
theorem at0 {u v : U} : atI [u, v] (0 : Int) = some u := rfl
theorem at1 {u v : U} : atI [u, v] (1 : Int) = some v := rfl
theorem ix0 : ixN 2 (0 : Int) = some 0 := rfl
theorem ix1 : ixN 2 (1 : Int) = some 1 := rfl
theorem roll_ok (k : Nat) {c : U} (ρ : Mu) (C : Cup c) {many : Nat} (h1 : 1 ≤ many) (h2 : many < 1073741824) :
    ∃ (r : Nat) (c' : U), runF defs (k + 1) 23 [.ob 0, I many] (c :: ρ) = some (I r, c' :: ρ) ∧ r < many ∧ Cup c' := by
  obtain ⟨c0, c1, rfl, p0, p1, p2⟩ := C
  have hm : (0 : Int) < many := by omega
  have hm2 : (many : Int) < 1073741824 := by omega
  have i0 : ∀ {u v : U} {l : Mu} {cal} {n0} {σ : R.Env}, σ[0]? = some (some (.ob 0)) → evalE cal n0 (.idx (.var 0) (.int 0)) σ (.lst [u, v] :: l) = some (u, .lst [u, v] :: l) := fun h => ev_idxL (ev_var h) ev_int rfl rfl
  have i1 : ∀ {u v : U} {l : Mu} {cal} {n0} {σ : R.Env}, σ[0]? = some (some (.ob 0)) → evalE cal n0 (.idx (.var 0) (.int 1)) σ (.lst [u, v] :: l) = some (v, .lst [u, v] :: l) := fun h => ev_idxL (ev_var h) ev_int rfl rfl
  rw [run__law_roll]
  by_cases hc : 0 < c0
  · refine ⟨(c0 % many).toNat, .lst [.int (c0 / many), .int c1], ?_, ?_, c0 / many, c1, rfl, Int.ediv_nonneg p0 (by omega), p1, p2⟩
    · have e : ((c0 % many).toNat : Int) = c0 % many := Int.toNat_of_nonneg (Int.emod_nonneg _ (by omega))
      have b : exL (runF defs k) (ρ.length + 1) b__law_roll [some (.ob 0), some (I many), none, none] (.lst [.int c0, .int c1] :: ρ) = some (.rt (.int (c0 % many)) (.lst [.int (c0 / many), .int c1] :: ρ)) := by
        unfold b__law_roll
        have x : exS (runF defs k) (ρ.length + 1) (.iff (.cmp .gt (.idx (.var 0) (.int 0)) (.int 0)) [.set 3 (.bin false .mod (.bi .int [(.idx (.var 0) (.int 0))]) (.var 1)), .sub (.var 0) (.int 0) (.bin false .fdiv (.idx (.var 0) (.int 0)) (.var 1)), .ret (.var 3)] []) [some (.ob 0), some (I many), none, none] (.lst [.int c0, .int c1] :: ρ) = some (.rt (.int (c0 % many)) (.lst [.int (c0 / many), .int c1] :: ρ)) := by
          refine (ex_ifT (ev_cmp (d := true) (i0 rfl) ev_int (by simp only [evCmp, evLt]; rw [decide_eq_true hc])) rfl).trans ?_
          refine (ex_seq (ex_set (u := .int (c0 % many)) (ev_bin (ev_bi (ev_l1 (i0 rfl)) rfl) (ev_var rfl) (by simp only [evBin]; rw [if_pos hm])))).trans ?_
          refine (ex_seq (show exS _ _ _ _ _ = some (.nx [some (.ob 0), some (I many), none, some (.int (c0 % many))] (.lst [.int (c0 / many), .int c1] :: ρ)) from ?_)).trans ?_
          · have f : evalE (runF defs k) (ρ.length + 1) (.bin false .fdiv (.idx (.var 0) (.int 0)) (.var 1)) [some (.ob 0), some (I many), none, some (.int (c0 % many))] (.lst [.int c0, .int c1] :: ρ) = some (.int (c0 / many), .lst [.int c0, .int c1] :: ρ) := ev_bin (i0 rfl) (ev_var rfl) (by simp only [evBin]; rw [if_pos ⟨hm, hm2⟩])
            exact ex_subL (i := 0) (xs := [.int c0, .int c1]) (jj := 0) (q := 0) f (ev_var rfl) ev_int rfl ix0 (by simp [okw, nomut])
          · exact ex_ret (ev_var rfl)
        simp only [exL, x]
      show _ = some (U.int ((c0 % many).toNat : Int), _)
      rw [e]
      exact (if_pos rfl).trans (run_rt b (fin_cut rfl (by simp)))
    · have := Int.emod_lt_of_pos c0 hm
      have := Int.emod_nonneg c0 (show (many : Int) ≠ 0 by omega)
      omega
  · have q0 := Int.emod_nonneg (c1 * 29819 + 9203) (show (2147483543 : Int) ≠ 0 by omega)
    have q1 := Int.emod_lt_of_pos (c1 * 29819 + 9203) (show (0 : Int) < 2147483543 by omega)
    generalize hv : (c1 * 29819 + 9203) % 2147483543 = v at q0 q1
    have r0 := Int.emod_nonneg ((v * (v + 311)) % 2147483587 / 907) (show (many : Int) ≠ 0 by omega)
    have r1 := Int.emod_lt_of_pos ((v * (v + 311)) % 2147483587 / 907) hm
    refine ⟨(((v * (v + 311)) % 2147483587 / 907) % many).toNat, .lst [.int c0, .int v], ?_, by omega, c0, v, rfl, p0, q0, by omega⟩
    have e : ((((v * (v + 311)) % 2147483587 / 907) % many).toNat : Int) = ((v * (v + 311)) % 2147483587 / 907) % many := Int.toNat_of_nonneg r0
    have b : exL (runF defs k) (ρ.length + 1) b__law_roll [some (.ob 0), some (I many), none, none] (.lst [.int c0, .int c1] :: ρ) = some (.rt (.int (((v * (v + 311)) % 2147483587 / 907) % many)) (.lst [.int c0, .int v] :: ρ)) := by
      unfold b__law_roll
      refine (ex_seq ((ex_ifF (ev_cmp (d := false) (i0 rfl) ev_int (by simp only [evCmp, evLt]; rw [decide_eq_false hc])) rfl).trans ex_nil)).trans ?_
      refine (ex_seq (show exS _ _ _ _ _ = some (.nx [some (.ob 0), some (I many), none, none] (.lst [.int c0, .int v] :: ρ)) from ?_)).trans ?_
      · have f : evalE (runF defs k) (ρ.length + 1) (.bin false .mod (.bi .int [(.bin false .add (.bin false .mul (.idx (.var 0) (.int 1)) (.int 29819)) (.int 9203))]) (.int 2147483543)) [some (.ob 0), some (I many), none, none] (.lst [.int c0, .int c1] :: ρ) = some (.int v, .lst [.int c0, .int c1] :: ρ) := by
          refine ev_bin (ev_bi (ev_l1 (ev_bin (ev_bin (i1 rfl) ev_int (by simp only [evBin]; rw [if_pos (by simp [mulOk])])) ev_int rfl)) rfl) ev_int ?_
          simp only [evBin]
          rw [if_pos (by omega), hv]
        exact ex_subL (i := 0) (xs := [.int c0, .int c1]) (jj := 1) (q := 1) f (ev_var rfl) ev_int rfl ix1 (by simp [okw, nomut])
      · have mk : mulOk v (v + 311) = true := by
          simp only [mulOk, Bool.or_eq_true, Bool.and_eq_true, decide_eq_true_eq]
          left; omega
        refine (ex_seq (ex_set (u := .int ((v * (v + 311)) % 2147483587)) (ev_bin (ev_bi (ev_l1 (ev_bin (i1 rfl) (ev_bin (i1 rfl) ev_int rfl) (by simp only [evBin]; rw [if_pos mk]))) rfl) ev_int (by simp only [evBin]; rw [if_pos (by omega)])))).trans ?_
        refine ex_ret (ev_bin (ev_bi (ev_l1 (ev_bin (ev_var rfl) ev_int (by simp only [evBin]; rw [if_pos (by omega)]))) rfl) (ev_var rfl) ?_)
        simp only [evBin]
        rw [if_pos hm]
    show _ = some (U.int ((((v * (v + 311)) % 2147483587 / 907) % many).toNat : Int), _)
    rw [e]
    exact (if_pos rfl).trans (run_rt b (fin_cut rfl (by simp)))
theorem cup_ok (k : Nat) (ns : List Int) (h : ns.length ≤ 63) : ∃ c, Cup c ∧ runF defs (k + 1) 22 [.scr ns] [] = some (.ob 0, [c]) := by
  rw [run__law_cup]
  obtain ⟨v, hv, h0⟩ : ∃ v : Int, atI (ns.map U.int ++ [U.int 0]) (0 : Int) = some (.int v) ∧ True := by
    cases ns with
    | nil => exact ⟨0, rfl, trivial⟩
    | cons a l => exact ⟨a, atI_of (j := 0) rfl, trivial⟩
  generalize ha : (if v < 0 then -v else v) = a
  have a0 : 0 ≤ a := by subst ha; split <;> omega
  have q0 := Int.emod_nonneg (a * 379 + 5503) (show (1964129453 : Int) ≠ 0 by omega)
  have q1 := Int.emod_lt_of_pos (a * 379 + 5503) (show (0 : Int) < 1964129453 by omega)
  refine ⟨.lst [.int (if a < 10 ^ 18 then 0 else a / 131), .int ((a * 379 + 5503) % 1964129453 + 233)], ⟨_, _, rfl, ?_, by omega, by omega⟩, ?_⟩
  · split
    · omega
    · exact Int.ediv_nonneg a0 (by omega)
  · have s : evalE (runF defs k) 0 (.bi .abs [(.idx (.bin false .add (.col false .list .ex [(.var 0)]) (.lst false [(.int 0)])) (.int 0))]) [some (.scr ns), none] [] = some (.int a, []) := by
      refine ev_bi (ev_l1 (ev_idxL (u := .lst (ns.map U.int ++ [U.int 0])) (ev_bin (ev_col (ev_l1 (ev_var rfl)) rfl rfl) (show evalE _ _ (.lst false [(.int 0)]) _ _ = some (.lst [.int 0], []) from ?_) ?_) ev_int rfl hv)) ?_
      · simp [evalE, evalL, SZ, R.fresh]
      · simp only [evBin, asL, R.fresh]
        rw [if_pos (by simp; unfold SZ; omega)]
        rfl
      · simp only [evBi, ha]
    have b : exL (runF defs k) 0 b__law_cup [some (.scr ns), none] [] = some (.rt (.ob 0) [.lst [.int (if a < 10 ^ 18 then 0 else a / 131), .int ((a * 379 + 5503) % 1964129453 + 233)]]) := by
      unfold b__law_cup
      refine (ex_seq (ex_set s)).trans ?_
      refine ex_ret ?_
      by_cases hlt : a < 10 ^ 18
      · have hlt' : a < 1000000000000000000 := by omega
        simp [exL, exS, evalE, evalL, evalB, evBin, evCmp, evEq, evIn, evLt, neg?, evIdx, evBi, evIsi, truth, asL, asS, cont, asInt, R.fresh, bindP, bindPs, bindI, R.finish, frz, wipeE, R.isNon, okw, okm, evMe, sky, tky, evSlc, evRev, bnd, walk, items, evCol, dget, dput, storeSub, intL, intT, bls, pairKV, keyU, keysU, mulOk, dat, mapO, nomut, nomuts, lk, biF, D0, hlt', SZ, mulOk]
      · have hlt' : ¬ a < 1000000000000000000 := by omega
        simp [exL, exS, evalE, evalL, evalB, evBin, evCmp, evEq, evIn, evLt, neg?, evIdx, evBi, evIsi, truth, asL, asS, cont, asInt, R.fresh, bindP, bindPs, bindI, R.finish, frz, wipeE, R.isNon, okw, okm, evMe, sky, tky, evSlc, evRev, bnd, walk, items, evCol, dget, dput, storeSub, intL, intT, bls, pairKV, keyU, keysU, mulOk, dat, mapO, nomut, nomuts, lk, biF, D0, hlt', SZ, mulOk]
    exact (if_pos rfl).trans (run_rt b rfl)
end K50

set_option Elab.async false
set_option linter.all false
set_option maxRecDepth 100000
set_option maxHeartbeats 4000000
namespace K50
open PySem L2 R
theorem sz2 : 2 ≤ SZ := by decide
theorem eq_int (μ : Mu) (i j : Int) : evEq μ (.int i) (.int j) = some (decide (i = j)) := by
  simp only [evEq, dat_int, PyData.eqv]
  congr 1
theorem sort_int (k : Nat) (i : Int) (μ : Mu) : runF defs (k + 1) 25 [.int i] μ = some (.int 2, μ) := by
  rw [run__law_sort]
  simp [b__law_sort, exL, exS, evalE, evalL, evalB, evBin, evCmp, evEq, evIn, evLt, neg?, evIdx, evBi, evIsi, truth, asL, asS, cont, asInt, R.fresh, bindP, bindPs, bindI, R.finish, frz, wipeE, R.isNon, okw, okm, evMe, sky, tky, evSlc, evRev, bnd, walk, items, evCol, dget, dput, storeSub, intL, intT, bls, pairKV, keyU, keysU, mulOk, dat, mapO, nomut, nomuts, lk, biF, D0, endO]
theorem sort_tup (k : Nat) (xs : List U) (μ : Mu) : runF defs (k + 1) 25 [.tup xs] μ = some (.int 4, μ) := by
  rw [run__law_sort]
  simp [b__law_sort, exL, exS, evalE, evalL, evalB, evBin, evCmp, evEq, evIn, evLt, neg?, evIdx, evBi, evIsi, truth, asL, asS, cont, asInt, R.fresh, bindP, bindPs, bindI, R.finish, frz, wipeE, R.isNon, okw, okm, evMe, sky, tky, evSlc, evRev, bnd, walk, items, evCol, dget, dput, storeSub, intL, intT, bls, pairKV, keyU, keysU, mulOk, dat, mapO, nomut, nomuts, lk, biF, D0, endO]
theorem sort_lst (k : Nat) (xs : List U) (μ : Mu) : runF defs (k + 1) 25 [.lst xs] μ = some (.int 5, μ) := by
  rw [run__law_sort]
  simp [b__law_sort, exL, exS, evalE, evalL, evalB, evBin, evCmp, evEq, evIn, evLt, neg?, evIdx, evBi, evIsi, truth, asL, asS, cont, asInt, R.fresh, bindP, bindPs, bindI, R.finish, frz, wipeE, R.isNon, okw, okm, evMe, sky, tky, evSlc, evRev, bnd, walk, items, evCol, dget, dput, storeSub, intL, intT, bls, pairKV, keyU, keysU, mulOk, dat, mapO, nomut, nomuts, lk, biF, D0, endO]
theorem law_whole_ok (k : Nat) (v lo hi : Int) (μ : Mu) (h : lo ≤ v ∧ v ≤ hi) : runF defs (k + 2) 27 [.int v, .int lo, .int hi] μ = some (.bl true, μ) := by
  rw [run__law_whole]
  have h1 : ¬ v < lo := by omega
  have h2 : ¬ hi < v := by omega
  have s := sort_int k v μ
  simp [b__law_whole, s, h1, h2, exL, exS, evalE, evalL, evalB, evBin, evCmp, evEq, evIn, evLt, neg?, evIdx, evBi, evIsi, truth, asL, asS, cont, asInt, R.fresh, bindP, bindPs, bindI, R.finish, frz, wipeE, R.isNon, okw, okm, evMe, sky, tky, evSlc, evRev, bnd, walk, items, evCol, dget, dput, storeSub, intL, intT, bls, pairKV, keyU, keysU, mulOk, dat, mapO, nomut, nomuts, lk, biF, D0, endO, PyData.eqv]
theorem like_int (k : Nat) (i : Int) (μ : Mu) : runF defs (k + 2) 26 [.int i, .int i] μ = some (.bl true, μ) := by
  rw [run__law_like]
  have s := sort_int k i μ
  simp [b__law_like, sz2, s, exL, exS, evalE, evalL, evalB, evBin, evCmp, evEq, evIn, evLt, neg?, evIdx, evBi, evIsi, truth, asL, asS, cont, asInt, R.fresh, bindP, bindPs, bindI, R.finish, frz, wipeE, R.isNon, okw, okm, evMe, sky, tky, evSlc, evRev, bnd, walk, items, evCol, dget, dput, storeSub, intL, intT, bls, pairKV, keyU, keysU, mulOk, dat, mapO, nomut, nomuts, lk, biF, D0, endO, PyData.eqv]
theorem like_tup (k : Nat) (xs : List U) (μ : Mu) (hz : xs.length ≤ SZ) (h : ∀ u ∈ xs, runF defs (k + 1) 26 [u, u] μ = some (.bl true, μ)) : runF defs (k + 2) 26 [.tup xs, .tup xs] μ = some (.bl true, μ) := by
  rw [run__law_like]
  have s := sort_tup k xs μ
  have c : evalE (runF defs (k + 1)) μ.length c__law_like_0 [some (.tup xs), some (.tup xs), some (.int 4), none, none] μ = some (.lst [], μ) := by
    have e : zips xs xs = xs.map fun u => .tup [u, u] := by
      have := zip_enc id id xs xs
      rw [List.map_id] at this
      rw [this]
      clear this s h hz
      induction xs with
      | nil => rfl
      | cons x xs ih => simpa using ih
    refine (ev_comp (us := [.tup xs, .tup xs]) (μ1 := μ) (xs := xs.map fun u => .tup [u, u]) (ev_l2 (ev_var rfl) (ev_var rfl)) (by simp only [walk, e]) (compL_filter (enc := fun u => U.tup [u, u]) (g := id) (p := fun _ => false) (fun u hu => ?_) (by simpa using hz))).trans (by simp [R.fresh])
    exact cs_no (v := .bl false) rfl (ev_not (d := true) (ev_call (ev_l2 (ev_var rfl) (ev_var rfl)) (h u hu)) rfl) rfl
  simp [b__law_like, sz2, s, c, exL, exS, evalE, evalL, evalB, evBin, evCmp, evEq, evIn, evLt, neg?, evIdx, evBi, evIsi, truth, asL, asS, cont, asInt, R.fresh, bindP, bindPs, bindI, R.finish, frz, wipeE, R.isNon, okw, okm, evMe, sky, tky, evSlc, evRev, bnd, walk, items, evCol, dget, dput, storeSub, intL, intT, bls, pairKV, keyU, keysU, mulOk, dat, mapO, nomut, nomuts, lk, biF, D0, endO, PyData.eqv, PyData.eqvAll]
theorem like_lst (k : Nat) (xs : List U) (μ : Mu) (hz : xs.length ≤ SZ) (h : ∀ u ∈ xs, runF defs (k + 1) 26 [u, u] μ = some (.bl true, μ)) : runF defs (k + 2) 26 [.lst xs, .lst xs] μ = some (.bl true, μ) := by
  rw [run__law_like]
  have s := sort_lst k xs μ
  have c : evalE (runF defs (k + 1)) μ.length c__law_like_0 [some (.lst xs), some (.lst xs), some (.int 5), none, none] μ = some (.lst [], μ) := by
    have e : zips xs xs = xs.map fun u => .tup [u, u] := by
      have := zip_enc id id xs xs
      rw [List.map_id] at this
      rw [this]
      clear this s h hz
      induction xs with
      | nil => rfl
      | cons x xs ih => simpa using ih
    refine (ev_comp (us := [.lst xs, .lst xs]) (μ1 := μ) (xs := xs.map fun u => .tup [u, u]) (ev_l2 (ev_var rfl) (ev_var rfl)) (by simp only [walk, e]) (compL_filter (enc := fun u => U.tup [u, u]) (g := id) (p := fun _ => false) (fun u hu => ?_) (by simpa using hz))).trans (by simp [R.fresh])
    exact cs_no (v := .bl false) rfl (ev_not (d := true) (ev_call (ev_l2 (ev_var rfl) (ev_var rfl)) (h u hu)) rfl) rfl
  simp [b__law_like, sz2, s, c, exL, exS, evalE, evalL, evalB, evBin, evCmp, evEq, evIn, evLt, neg?, evIdx, evBi, evIsi, truth, asL, asS, cont, asInt, R.fresh, bindP, bindPs, bindI, R.finish, frz, wipeE, R.isNon, okw, okm, evMe, sky, tky, evSlc, evRev, bnd, walk, items, evCol, dget, dput, storeSub, intL, intT, bls, pairKV, keyU, keysU, mulOk, dat, mapO, nomut, nomuts, lk, biF, D0, endO, PyData.eqv, PyData.eqvAll]
/-- what like takes: ints, tuples of ints -/
inductive Flt : U → Prop
  | int (i : Int) : Flt (.int i)
  | tup (xs : List U) (hz : xs.length ≤ SZ) (h : ∀ u ∈ xs, ∃ i, u = .int i) : Flt (.tup xs)
theorem Flt.like {u : U} (F : Flt u) (k : Nat) (μ : Mu) : runF defs (k + 3) 26 [u, u] μ = some (.bl true, μ) := by
  cases F with
  | int i => exact like_int (k + 1) i μ
  | tup xs hz h => exact like_tup (k + 1) xs μ hz fun u hu => by obtain ⟨i, rfl⟩ := h u hu; exact like_int k i μ
theorem flt_tX (n : Nat) (hn : n ≤ 40) (x : Nat → Nat) : Flt (tX n x) := .tup _ (by simp; unfold SZ; omega) fun u hu => by
  obtain ⟨h, _, rfl⟩ := List.mem_map.mp hu
  exact ⟨_, rfl⟩
theorem like_all (k : Nat) (xs : List U) (μ : Mu) (hz : xs.length ≤ SZ) (h : ∀ u ∈ xs, Flt u) : runF defs (k + 4) 26 [.lst xs, .lst xs] μ = some (.bl true, μ) :=
  like_lst (k + 2) xs μ hz fun u hu => (h u hu).like k μ
theorem ev_idxL1 {cal : Nat → List U → Mu → Option (U × Mu)} {n0 : Nat} {σ : R.Env} {μ μ1 μ2 : Mu} {a i : E} {u w : U} {j : Int} {xs : List U} (ha : evalE cal n0 a σ μ = some (u, μ1)) (hi : evalE cal n0 i σ μ1 = some (.int j, μ2)) (hc : cont μ2 u = some (.lst xs)) (h : atI xs j = some w) : evalE cal n0 (.idx a i) σ μ = some (w, μ2) := by
  simp only [evalE, ha, hi, evIdx, hc, h]
theorem some_ok (k : Nat) {c : U} (ρ : Mu) (C : Cup c) {xs : List Nat} (h1 : 1 ≤ xs.length) (h2 : xs.length < 1073741824) :
    ∃ (v : Nat) (c' : U), runF defs (k + 2) 24 [.ob 0, .lst (xs.map I)] (c :: ρ) = some (I v, c' :: ρ) ∧ v ∈ xs ∧ Cup c' := by
  obtain ⟨r, c', e, hr, C'⟩ := roll_ok k ρ C h1 h2
  refine ⟨xs[r], c', ?_, List.getElem_mem hr, C'⟩
  rw [run__law_some]
  have b : exL (runF defs (k + 1)) (ρ.length + 1) b__law_some [some (.ob 0), some (.lst (xs.map I))] (c :: ρ) = some (.rt (I xs[r]) (c' :: ρ)) := by
    unfold b__law_some
    refine ex_ret (ev_idxL1 (ev_var rfl) (ev_call (us := [.ob 0, I xs.length]) (ev_l2 (ev_var rfl) (ev_bi (ev_l1 (ev_var rfl)) (show evBi (c :: ρ) .len [.lst (xs.map I)] = some (I xs.length) by simp only [evBi, cont, List.length_map]))) e) rfl (atI_of ?_))
    simp [hr]
  exact (if_pos rfl).trans (run_rt b (fin_cut rfl (by simp)))
/-! ### pairs, in order -/
def lexLe (p q : Nat × Nat) : Bool := !decide (q.1 < p.1 ∨ q.1 = p.1 ∧ q.2 < p.2)
def srtP (K : List (Nat × Nat)) : List (Nat × Nat) := K.mergeSort lexLe
theorem srtP_mem (K : List (Nat × Nat)) (p : Nat × Nat) : p ∈ srtP K ↔ p ∈ K := (List.mergeSort_perm _ _).mem_iff
theorem srtP_len (K : List (Nat × Nat)) : (srtP K).length = K.length := List.length_mergeSort K
theorem srtP_asc {K : List (Nat × Nat)} (nd : K.Nodup) : (srtP K).Pairwise lex := by
  have h1 : (srtP K).Pairwise fun a b => lexLe a b = true := List.pairwise_mergeSort (fun a b c h1 h2 => by
    simp only [lexLe, Bool.not_eq_true', decide_eq_false_iff_not] at *
    omega) (fun a b => by
    simp only [lexLe, Bool.or_eq_true, Bool.not_eq_true', decide_eq_false_iff_not]
    omega) K
  have h2 : (srtP K).Nodup := (List.mergeSort_perm K lexLe).nodup_iff.mpr nd
  refine (List.Pairwise.and h1 h2).imp fun {a b} h => ?_
  obtain ⟨h, ne⟩ := h
  simp only [lexLe, Bool.not_eq_true', decide_eq_false_iff_not] at h
  unfold lex
  by_cases e : a.1 = b.1
  · by_cases e2 : a.2 = b.2
    · exact absurd (Prod.ext e e2) ne
    · omega
  · omega
theorem srtd_pU (μ : Mu) (K : List (Nat × Nat)) (hl : K.length ≤ SZ) : srtd μ (K.map pU) = some ((srtP K).map pU) := by
  unfold srtd
  rw [mapO_map (f := dat μ D0) (h := fun p : Nat × Nat => PyData.tuple [.int p.1, .int p.2]) fun x _ => by simp [D0, dat, mapO]]
  simp only
  rw [if_pos]
  · congr 1
    have e : (K.map pU).zip (K.map fun p : Nat × Nat => PyData.tuple [.int p.1, .int p.2]) = K.map fun p => (pU p, PyData.tuple [.int p.1, .int p.2]) := List.zip_map'
    rw [e, ← List.map_mergeSort (r := lexLe) (s := PySem.W.dataLe false Prod.snd) (f := fun p : Nat × Nat => (pU p, PyData.tuple [.int p.1, .int p.2]))]
    · rw [List.map_map]; rfl
    · intro a _ b _
      show _ = !PySem.W.dataLt (.tuple [.int b.1, .int b.2]) (.tuple [.int a.1, .int a.2])
      rw [PySem.W.dataLt_ii]
      unfold lexLe
      congr 1
      rw [Bool.eq_iff_iff]
      simp
      omega
  · simp only [Bool.and_eq_true, decide_eq_true_eq, Bool.or_eq_true, List.all_eq_true]
    refine ⟨⟨fun d hd e he => ?_, .inl fun d hd => ?_⟩, by simpa using hl⟩
    · obtain ⟨i, _, rfl⟩ := List.mem_map.mp hd
      obtain ⟨j, _, rfl⟩ := List.mem_map.mp he
      simp [PySem.W.alike, PySem.W.alikeAll]
    · obtain ⟨i, _, rfl⟩ := List.mem_map.mp hd
      rfl
end K50

set_option Elab.async false
set_option linter.all false
set_option maxRecDepth 100000
set_option maxHeartbeats 4000000
namespace K50
open PySem L2 R
/-! ### friends by lot -/
abbrev kP (p : Nat × Nat) : List Key := [kI p.1, kI p.2]
abbrev dtK (K : List (Nat × Nat)) : U := .dt (K.map kP) (K.map fun _ => .bl true)
def ins (K : List (Nat × Nat)) (q : Nat × Nat) : List (Nat × Nat) := if q ∈ K then K else K ++ [q]
theorem kP_inj {p q : Nat × Nat} (h : kP p = kP q) : p = q := by
  simp only [kP, kI, List.cons.injEq, Sum.inl.injEq, and_true] at h
  exact Prod.ext (by omega) (by omega)
theorem kP_mem {K : List (Nat × Nat)} {q : Nat × Nat} : kP q ∈ K.map kP ↔ q ∈ K := by
  constructor
  · intro h
    obtain ⟨p, hp, e⟩ := List.mem_map.mp h
    exact kP_inj e ▸ hp
  · exact fun h => List.mem_map.mpr ⟨q, h, rfl⟩
theorem rpl_true (q : List Key) : ∀ K : List (Nat × Nat), rpl (K.map kP) (K.map fun _ => U.bl true) q (.bl true) = K.map fun _ => U.bl true
  | [] => rfl
  | p :: K => by
    simp only [List.map_cons, rpl, rpl_true q K, ite_self]
theorem dtK_put (K : List (Nat × Nat)) (q : Nat × Nat) : U.dt (ptk (K.map kP) (kP q)) (pt (K.map kP) (K.map fun _ => U.bl true) (kP q) (.bl true)) = dtK (ins K q) := by
  unfold ptk pt ins
  by_cases h : q ∈ K
  · rw [if_pos (kP_mem.mpr h), if_pos (kP_mem.mpr h), if_pos h, rpl_true]
  · rw [if_neg (fun z => h (kP_mem.mp z)), if_neg (fun z => h (kP_mem.mp z)), if_neg h]
    simp
theorem ins_mem {K : List (Nat × Nat)} {p q : Nat × Nat} : p ∈ ins K q ↔ p ∈ K ∨ p = q := by
  unfold ins
  by_cases h : q ∈ K
  · rw [if_pos h]
    constructor
    · exact .inl
    · rintro (z | z)
      · exact z
      · exact z ▸ h
  · rw [if_neg h]; simp
structure KInv (n b m : Nat) (K : List (Nat × Nat)) : Prop where
  nd : K.Nodup
  lt : ∀ p ∈ K, p.1 < p.2 ∧ p.2 < n
  len : K.length ≤ 300 + m
  conn : ∀ h, 1 ≤ h → h ≤ b → ∃ a, (a, h) ∈ K
theorem ins_nd {K : List (Nat × Nat)} {q : Nat × Nat} (nd : K.Nodup) : (ins K q).Nodup := by
  unfold ins
  by_cases h : q ∈ K
  · rw [if_pos h]; exact nd
  · rw [if_neg h, List.nodup_append]
    exact ⟨nd, by simp, fun a ha b hb z => by simp at hb; subst hb; exact h (z ▸ ha)⟩
theorem ins_len {K : List (Nat × Nat)} {q : Nat × Nat} : (ins K q).length ≤ K.length + 1 := by
  unfold ins
  by_cases h : q ∈ K
  · rw [if_pos h]; omega
  · rw [if_neg h]; simp
theorem KInv.hop {n b m : Nat} {K : List (Nat × Nat)} (I : KInv n b m K) {a : Nat} (ha : a ≤ b) (hb : b + 1 < n) : KInv n (b + 1) (m + 1) (ins K (a, b + 1)) :=
  ⟨ins_nd I.nd, fun p hp => by
    rcases ins_mem.mp hp with z | z
    · exact I.lt p z
    · subst z; exact ⟨by simp only; omega, hb⟩, by have := @ins_len K (a, b + 1); have := I.len; omega, fun h h1 h2 => by
    by_cases e : h = b + 1
    · subst e; exact ⟨a, ins_mem.mpr (.inr rfl)⟩
    · obtain ⟨x, hx⟩ := I.conn h h1 (by omega)
      exact ⟨x, ins_mem.mpr (.inl hx)⟩⟩
theorem KInv.more {n b m : Nat} {K : List (Nat × Nat)} (I : KInv n b m K) {a c : Nat} (ha : a < c) (hb : c < n) (hl : K.length < 300) : KInv n b m (ins K (a, c)) :=
  ⟨ins_nd I.nd, fun p hp => by
    rcases ins_mem.mp hp with z | z
    · exact I.lt p z
    · subst z; exact ⟨by simp only; omega, hb⟩, by have := @ins_len K (a, c); omega, fun h h1 h2 => by
      obtain ⟨x, hx⟩ := I.conn h h1 h2
      exact ⟨x, ins_mem.mpr (.inl hx)⟩⟩
theorem KInv.town {n b m : Nat} {K : List (Nat × Nat)} (I : KInv n b m K) (h1 : 1 ≤ n) (h40 : n ≤ 40) (hm : m ≤ 100) (hb : n ≤ b + 1) : Town n (srtP K) id where
  n1 := h1
  n40 := h40
  len := by rw [srtP_len]; have := I.len; omega
  lt := fun p hp => I.lt p ((srtP_mem K p).mp hp)
  asc := srtP_asc I.nd
  rk := fun h h1 hn => by
    obtain ⟨a, ha⟩ := I.conn h h1 (by omega)
    exact ⟨a, .inl ((srtP_mem K _).mpr ha), (I.lt _ ha).1⟩
theorem ex_subT1 {cal : Nat → List U → Mu → Option (U × Mu)} {n0 : Nat} {σ : R.Env} {μ μ1 : Mu} {a e j : E} {i : Nat} {u : U} {ks : List (List Key)} {vs : List U} {v : U} {q : List Key} (he : evalE cal n0 e σ μ = some (u, μ)) (ha : evalE cal n0 a σ μ = some (.ob i, μ)) (hj : evalE cal n0 j σ μ = some (v, μ1)) (hq : tky v = some q) (h : μ1[i]? = some (.dt ks vs)) (hl : ks.length < SZ) (ho : n0 ≤ i) :
    exS cal n0 (.sub a j e) σ μ = some (.nx σ (μ1.set i (.dt (ptk ks q) (pt ks vs q u)))) := by
  have o : okw n0 i u = true := by simp [okw, ho]
  simp only [exS, ha, he, hj, storeSub, h, dput, hq]
  rw [if_pos hl]
  simp only
  rw [if_pos o]
abbrev sF (most n dense : Nat) (x4 x7 : Option U) : R.Env := [some (.ob 0), some (I most), some (.bl true), some (I dense), x4, some (I n), some (.ob 1), x7]
theorem ev_bl {cal : Nat → List U → Mu → Option (U × Mu)} {n0 : Nat} {σ : R.Env} {μ : Mu} {b : Bool} : evalE cal n0 (.bl b) σ μ = some (.bl b, μ) := by simp only [evalE]
theorem law_friends_row (k : Nat) {most n dense : Nat} (hd : 1 ≤ dense ∧ dense < 1073741824) (hn : n ≤ 40) {c : U} (C : Cup c) {b m : Nat} {K : List (Nat × Nat)} (V : KInv n b m K) (hm : m ≤ 100) {x7 : Option U} {o : Nat} (ho : o < n) :
    ∃ c' K' x7', exS (runF defs (k + 2)) 1 l__law_friends_0 (sF most n dense (some (I o)) x7) [c, dtK K] = some (.nx (sF most n dense (some (I o)) x7') [c', dtK K']) ∧ Cup c' ∧ KInv n b m K' := by
  have e1 : exS (runF defs (k + 2)) 1 l__law_friends_0 (sF most n dense (some (I o)) x7) [c, dtK K] = forL (fstep (runF defs (k + 2)) 1 (.slot 7) lb__law_friends_0) ((List.range o).map I) (sF most n dense (some (I o)) x7) [c, dtK K] :=
    ex_for (us := [I o]) (ev_l1 (ev_var rfl)) (walk_rng (by omega))
  rw [e1]
  obtain ⟨σ', μ', e, c', K', x7', rfl, rfl, C', V'⟩ := forL_inv0 (step := fstep (runF defs (k + 2)) 1 (.slot 7) lb__law_friends_0) (xs := (List.range o).map I) (σ := sF most n dense (some (I o)) x7) (μ := [c, dtK K])
    (fun i σ μ => ∃ c K x7, σ = sF most n dense (some (I o)) x7 ∧ μ = [c, dtK K] ∧ Cup c ∧ KInv n b m K) ⟨c, K, x7, rfl, rfl, C, V⟩ (fun i x σ μ hx hP => by
      obtain ⟨c, K, x7, rfl, rfl, C, V⟩ := hP
      obtain ⟨a, ha, rfl⟩ : ∃ a, a < o ∧ x = I a := by
        rw [List.getElem?_map] at hx
        cases hr : (List.range o)[i]? with
        | none => rw [hr] at hx; cases hx
        | some y =>
          rw [hr] at hx
          exact ⟨y, by simpa using List.mem_of_getElem? hr, (Option.some.inj hx).symm⟩
      obtain ⟨r, c', er, hr, C'⟩ := roll_ok (k + 1) [dtK K] C hd.1 hd.2
      have ec : evalE (runF defs (k + 2)) 1 (.cmp .eq (.call 23 [(.var 0), (.var 3)]) (.int 0)) (sF most n dense (some (I o)) (some (I a))) [c, dtK K] = some (.bl (decide ((r : Int) = 0)), [c', dtK K]) := ev_cmp (ev_call (ev_l2 (ev_var rfl) (ev_var rfl)) er) ev_int (show evCmp [c', dtK K] .eq (I r) (.int 0) = _ from eq_int [c', dtK K] r 0)
      have el : evalE (runF defs (k + 2)) 1 (.cmp .lt (.bi .len [(.var 6)]) (.int 300)) (sF most n dense (some (I o)) (some (I a))) [c', dtK K] = some (.bl (decide ((K.length : Int) < 300)), [c', dtK K]) := ev_cmp (u := .int K.length) (ev_bi (ev_l1 (ev_var rfl)) (by simp [evBi, cont])) ev_int rfl
      by_cases h0 : (r : Int) = 0
      · by_cases hl : (K.length : Int) < 300
        · refine ⟨sF most n dense (some (I o)) (some (I a)), [c', dtK (ins K (a, o))], .inl ?_, c', ins K (a, o), some (I a), rfl, rfl, C', V.more ha ho (by omega)⟩
          show exL (runF defs (k + 2)) 1 lb__law_friends_0 (sF most n dense (some (I o)) (some (I a))) [c, dtK K] = _
          unfold lb__law_friends_0
          refine (ex_seq ((ex_ifT (μ1 := [c', dtK K]) (u := .bl true) (ev_andT (by rw [ec, decide_eq_true h0]) (by rw [el, decide_eq_true hl])) rfl).trans ?_)).trans ex_nil
          refine (ex_seq (ex_subT1 (i := 1) (q := kP (a, o)) ev_bl (ev_var rfl) (ev_tup (ev_l2 (ev_var rfl) (ev_var rfl)) (show 2 ≤ SZ by decide)) rfl rfl (by rw [List.length_map]; unfold SZ; omega) (Nat.le_refl _))).trans ?_
          rw [dtK_put]
          exact ex_nil
        · refine ⟨sF most n dense (some (I o)) (some (I a)), [c', dtK K], .inl ?_, c', K, some (I a), rfl, rfl, C', V⟩
          show exL (runF defs (k + 2)) 1 lb__law_friends_0 (sF most n dense (some (I o)) (some (I a))) [c, dtK K] = _
          unfold lb__law_friends_0
          exact (ex_seq ((ex_ifF (μ1 := [c', dtK K]) (u := .bl false) (ev_andT (by rw [ec, decide_eq_true h0]) (by rw [el, decide_eq_false hl])) rfl).trans ex_nil)).trans ex_nil
      · refine ⟨sF most n dense (some (I o)) (some (I a)), [c', dtK K], .inl ?_, c', K, some (I a), rfl, rfl, C', V⟩
        show exL (runF defs (k + 2)) 1 lb__law_friends_0 (sF most n dense (some (I o)) (some (I a))) [c, dtK K] = _
        unfold lb__law_friends_0
        exact (ex_seq ((ex_ifF (μ1 := [c', dtK K]) (u := .bl false) (ev_andF (by rw [ec, decide_eq_false h0])) rfl).trans ex_nil)).trans ex_nil)
  exact ⟨c', K', x7', e, C', V'⟩
theorem law_friends_ok (k : Nat) {most : Nat} (h1 : 1 ≤ most) (h2 : most ≤ 40) {c : U} (C : Cup c) :
    ∃ n es c', runF defs (k + 3) 30 [.ob 0, I most, .bl true] [c] = some (tU n es, [c']) ∧ Cup c' ∧ Town n es id := by
  obtain ⟨r, c1, er, hr, C1⟩ := roll_ok (k + 1) [] C h1 (by omega)
  obtain ⟨dense, c2, ed, hd, C2⟩ := some_ok k [dtK []] C1 (xs := [2, 4, 12]) (by decide) (by decide)
  have hd : 1 ≤ dense ∧ dense < 1073741824 := by
    simp at hd
    omega
  obtain ⟨σ', μ', e, c3, K, x4, x7, rfl, rfl, C3, V⟩ := forL_inv0 (step := fstep (runF defs (k + 2)) 1 (.slot 4) lb__law_friends_2) (xs := (List.range (1 + r - 1)).map fun i => I (1 + i)) (σ := sF most (1 + r) dense none none) (μ := [c2, dtK []])
    (fun i σ μ => ∃ c K x4 x7, σ = sF most (1 + r) dense x4 x7 ∧ μ = [c, dtK K] ∧ Cup c ∧ KInv (1 + r) i i K) ⟨c2, [], none, none, rfl, rfl, C2, ⟨List.nodup_nil, by simp, by simp, by omega⟩⟩ (fun i x σ μ hx hP => by
      obtain ⟨c, K, x4, x7, rfl, rfl, C, V⟩ := hP
      obtain ⟨hi, rfl⟩ : i < r ∧ x = I (i + 1) := by
        rw [List.getElem?_map] at hx
        cases hr : (List.range (1 + r - 1))[i]? with
        | none => rw [hr] at hx; cases hx
        | some y =>
          rw [hr] at hx
          have h3 := List.getElem?_eq_some_iff.mp hr
          obtain ⟨h4, h5⟩ := h3
          simp at h4 h5
          subst h5
          exact ⟨by omega, by rw [← Option.some.inj hx, Nat.add_comm]⟩
      obtain ⟨a, c', ea, ha, C'⟩ := roll_ok (k + 1) [dtK K] C (many := i + 1) (by omega) (by omega)
      have V' : KInv (1 + r) (i + 1) (i + 1) (ins K (a, i + 1)) := V.hop (by omega) (by omega)
      obtain ⟨c'', K'', x7', e2, C'', V''⟩ := law_friends_row k (most := most) hd (n := 1 + r) (by omega) C' V' (by omega) (x7 := x7) (o := i + 1) (by omega)
      refine ⟨sF most (1 + r) dense (some (I (i + 1))) x7', [c'', dtK K''], .inl ?_, c'', K'', some (I (i + 1)), x7', rfl, rfl, C'', V''⟩
      show exL (runF defs (k + 2)) 1 lb__law_friends_2 (sF most (1 + r) dense (some (I (i + 1))) x7) [c, dtK K] = _
      unfold lb__law_friends_2
      have x : exS (runF defs (k + 2)) 1 (.iff (.var 2) [.sub (.var 6) (.tup [(.call 23 [(.var 0), (.var 4)]), (.var 4)]) (.bl true)] []) (sF most (1 + r) dense (some (I (i + 1))) x7) [c, dtK K] = some (.nx (sF most (1 + r) dense (some (I (i + 1))) x7) [c', dtK (ins K (a, i + 1))]) := by
        refine (ex_ifT (ev_var rfl) rfl).trans ?_
        refine (ex_seq (ex_subT1 (i := 1) (q := kP (a, i + 1)) ev_bl (ev_var rfl) (ev_tup (ev_l2 (ev_call (ev_l2 (ev_var rfl) (ev_var rfl)) ea) (ev_var rfl)) (show 2 ≤ SZ by decide)) rfl rfl (by rw [List.length_map]; have := V.len; unfold SZ; omega) (Nat.le_refl _))).trans ?_
        rw [dtK_put]
        exact ex_nil
      exact (ex_seq x).trans ((ex_seq e2).trans ex_nil))
  simp only [List.length_map, List.length_range] at V
  have T := V.town (by omega) (by omega) (by omega) (by omega)
  refine ⟨1 + r, srtP K, c3, ?_, C3, T⟩
  rw [run__law_friends]
  have b : exL (runF defs (k + 2)) 1 b__law_friends [some (.ob 0), some (I most), some (.bl true), none, none, none, none, none] [c] = some (.rt (tU (1 + r) (srtP K)) [c3, dtK K]) := by
    unfold b__law_friends
    refine (ex_seq (ex_par (us := [I (1 + r), .ob 1]) (μ' := [c1, dtK []]) (ev_l2 (ev_bin ev_int (ev_call (ev_l2 (ev_var rfl) (ev_var rfl)) er) rfl) (by simp [evalE, evalL, pairUp, mergeU, R.fresh])) rfl)).trans ?_
    refine (ex_seq (ex_set (u := I dense) (ev_call (us := [.ob 0, .lst ([2, 4, 12].map I)]) (ev_l2 (ev_var rfl) (by simp [evalE, evalL, R.fresh, SZ])) ed))).trans ?_
    have w : walk [c2, dtK []] .rng [.int 1, I (1 + r)] = some (.inl ((List.range (1 + r - 1)).map fun i => I (1 + i))) := by
      simp only [walk]
      rw [if_pos (by omega), show (1 : Int) = ((1 : Nat) : Int) from rfl, rgn_nats]
    refine (ex_seq (((show exS _ _ l__law_friends_2 _ _ = _ from ex_for (us := [.int 1, I (1 + r)]) (ev_l2 ev_int (ev_var rfl)) w)).trans e)).trans ?_
    refine ex_ret (ev_tup (ev_l2 (ev_var rfl) (ev_col (us := [.lst ((srtP K).map pU)]) (xs := (srtP K).map pU) (ev_l1 (ev_col (xs := K.map pU) (ev_l1 (ev_var rfl)) ?_ ?_)) rfl rfl)) (show 2 ≤ SZ by decide))
    · simp [items, asS, asL, cont, keysU, keyU, kP, kI, Function.comp_def]
    · simp only [evCol, srtd_pU _ K (by have := V.len; unfold SZ; omega)]
      rfl
  have f : frz 1 [c3, dtK K] D0 (tU (1 + r) (srtP K)) = some (tU (1 + r) (srtP K)) := by
    have e : mapO (frz 1 [c3, dtK K] 10) ((srtP K).map pU) = some ((srtP K).map pU) := mapO_map fun p _ => rfl
    rw [show D0 = 10 + 1 + 1 from rfl]
    simp only [frz, mapO, e]
  exact (if_pos rfl).trans (run_rt b (fin_cut f rfl))
end K50

set_option Elab.async false
set_option linter.all false
set_option maxRecDepth 100000
set_option maxHeartbeats 4000000
namespace K50
open PySem L2 R
section
variable {cal : Nat → List U → Mu → Option (U × Mu)} {n0 : Nat} {σ : R.Env} {μ : Mu}
theorem ev_pow18 : evalE cal n0 (.bin false .pow (.int 10) (.int 18)) σ μ = some (I 1000000000000000000, μ) := by simp [evalE, evBin]
theorem ev_pow6 : evalE cal n0 (.bin false .pow (.int 10) (.int 6)) σ μ = some (I 1000000, μ) := by simp [evalE, evBin]
theorem ev_lst {es : List E} {us : List U} {μ1 : Mu} (h : evalL cal n0 es σ μ = some (us, μ1)) (hl : us.length ≤ SZ) : evalE cal n0 (.lst false es) σ μ = some (.lst us, μ1) := by
  simp only [evalE, h]
  rw [if_pos hl]
  rfl
end
theorem eq_yes {μ : Mu} {a b : Nat} (h : a = b) : evCmp μ .eq (I a) (I b) = some true := by
  subst h
  simp only [evCmp, eq_int, decide_true]
theorem eq_no {μ : Mu} {a b : Nat} (h : a ≠ b) : evCmp μ .eq (I a) (I b) = some false := by
  simp only [evCmp, eq_int]
  rw [decide_eq_false (by omega)]
theorem ne_no {μ : Mu} {a b : Nat} (h : a = b) : evCmp μ .ne (I a) (I b) = some false := by
  subst h
  simp only [evCmp, eq_int, decide_true]
  rfl
theorem gt_no {μ : Mu} {a b : Nat} (h : a ≤ b) : evCmp μ .gt (I a) (I b) = some false := by
  simp only [evCmp, evLt]
  rw [decide_eq_false (by omega)]
theorem ne_tX {μ : Mu} {n : Nat} {x : Nat → Nat} : evCmp μ .ne (tX n x) (tX n x) = some false := by
  simp only [evCmp, eq_tX]
  simp [neg?]
variable {n : Nat} {es : List (Nat × Nat)} {rk d x : Nat → Nat}
abbrev sR (n : Nat) (es : List (Nat × Nat)) (d : Nat → Nat) (far : U) (most start x8 x9 x10 x11 x12 x13 x14 : Option U) : R.Env :=
  [some (.ob 0), some (tU n es), some (.lst ((rowsOf n es).map rho)), some far, some (tX n d), some (tX n fun _ => 1000000), most, start, x8, x9, x10, x11, x12, x13, x14, none, none]
theorem rng_at {n i : Nat} {x : U} (hx : ((List.range n).map I)[i]? = some x) : i < n ∧ x = I i := by
  rw [List.getElem?_map] at hx
  cases hr : (List.range n)[i]? with
  | none => rw [hr] at hx; cases hx
  | some y =>
    rw [hr] at hx
    obtain ⟨h4, h5⟩ := List.getElem?_eq_some_iff.mp hr
    simp at h4 h5
    subst h5
    exact ⟨h4, (Option.some.inj hx).symm⟩
/-- to rest, at most n + 2 turns -/
theorem loop3 (k : Nat) (c : U) (T : Town n es rk) (D : Dist n es d) {S : Nat} (R : Rest n (rowsOf n es) x d S) {far : U} {most start x9 x10 x11 x12 : Option U} :
    ∃ x9', exS (runF defs (k + 8)) 1 l__law_right_3 (sR n es d far most start (some (tX n x)) x9 x10 x11 x12 (some (tX n x)) (some (I 0))) [c] = some (.nx (sR n es d far most start (some (tX n x)) x9' x10 x11 x12 (some (tX n d)) (some (I S))) [c]) := by
  have N := Dist.net T D
  have hS := rest_le T D R
  have hm := mx_lt T D
  have n40 := T.n40
  have e1 : exS (runF defs (k + 8)) 1 l__law_right_3 (sR n es d far most start (some (tX n x)) x9 x10 x11 x12 (some (tX n x)) (some (I 0))) [c] = forL (fstep (runF defs (k + 8)) 1 (.slot 9) lb__law_right_3) ((List.range (n + 2)).map I) (sR n es d far most start (some (tX n x)) x9 x10 x11 x12 (some (tX n x)) (some (I 0))) [c] :=
    ex_for (us := [I (n + 2)]) (ev_l1 (ev_bin (ev_idxT (ev_var rfl) rfl tU0) ev_int rfl)) (walk_rng (by omega))
  rw [e1]
  obtain ⟨σ', μ', e, x9', rfl, rfl⟩ := forL_inv0 (step := fstep (runF defs (k + 8)) 1 (.slot 9) lb__law_right_3) (xs := (List.range (n + 2)).map I) (σ := sR n es d far most start (some (tX n x)) x9 x10 x11 x12 (some (tX n x)) (some (I 0))) (μ := [c])
    (fun i σ μ => ∃ x9, σ = sR n es d far most start (some (tX n x)) x9 x10 x11 x12 (some (tX n (it (rowsOf n es) x (min i S)))) (some (I (min i S))) ∧ μ = [c]) ⟨x9, by rw [Nat.zero_min]; rfl, rfl⟩ (fun i y σ μ hy hP => by
      obtain ⟨x9, rfl, rfl⟩ := hP
      obtain ⟨hi, rfl⟩ := rng_at hy
      by_cases h : i < S
      · refine ⟨sR n es d far most start (some (tX n x)) (some (I i)) x10 x11 x12 (some (tX n (it (rowsOf n es) x (i + 1)))) (some (I (i + 1))), [c], .inl ?_, some (I i), by rw [Nat.min_eq_left (by omega)], rfl⟩
        rw [Nat.min_eq_left (by omega)]
        show exL (runF defs (k + 8)) 1 lb__law_right_3 (sR n es d far most start (some (tX n x)) (some (I i)) x10 x11 x12 (some (tX n (it (rowsOf n es) x i))) (some (I i))) [c] = _
        unfold lb__law_right_3
        refine (ex_seq ((ex_ifT (u := .bl true) (μ1 := [c]) (ev_cmp (ev_var rfl) (ev_var rfl) (by simp only [evCmp, eq_tX]; rw [decide_eq_false (R.before i h)]; rfl)) rfl).trans ?_)).trans ex_nil
        exact (ex_seq (ex_par (us := [tX n (it (rowsOf n es) x (i + 1)), I (i + 1)]) (ev_l2 (ev_call (ev_l2 (ev_var rfl) (ev_var rfl)) (step_r (k + 7) _ T N _)) (ev_bin (ev_var rfl) ev_int rfl)) rfl)).trans ex_nil
      · refine ⟨sR n es d far most start (some (tX n x)) (some (I i)) x10 x11 x12 (some (tX n (it (rowsOf n es) x S))) (some (I S)), [c], .inl ?_, some (I i), by rw [Nat.min_eq_right (by omega)], rfl⟩
        rw [Nat.min_eq_right (by omega)]
        show exL (runF defs (k + 8)) 1 lb__law_right_3 (sR n es d far most start (some (tX n x)) (some (I i)) x10 x11 x12 (some (tX n (it (rowsOf n es) x S))) (some (I S))) [c] = _
        unfold lb__law_right_3
        exact (ex_seq ((ex_ifF (u := .bl false) (μ1 := [c]) (ev_cmp (ev_var rfl) (ev_var rfl) (by simp only [evCmp, eq_tX]; rw [decide_eq_true R.at_]; rfl)) rfl).trans ex_nil)).trans ex_nil)
  refine ⟨x9', ?_⟩
  rw [e]
  simp only [List.length_map, List.length_range]
  rw [Nat.min_eq_right (by omega), tX_ext R.at_]
theorem loop5 (k : Nat) (c : U) (T : Town n es rk) (D : Dist n es d) {L : Nat} (hL : L < 2 ^ 60) {far : U} {most start x9 x12 x13 x14 : Option U} :
    ∃ x9', exS (runF defs (k + 8)) 1 l__law_right_5 (sR n es d far most start (some (tX n x)) x9 (some (I L)) (some (tX n x)) x12 x13 x14) [c] = some (.nx (sR n es d far most start (some (tX n x)) x9' (some (I L)) (some (tX n (it (rowsOf n es) x L))) x12 x13 x14) [c]) := by
  have N := Dist.net T D
  have e1 : exS (runF defs (k + 8)) 1 l__law_right_5 (sR n es d far most start (some (tX n x)) x9 (some (I L)) (some (tX n x)) x12 x13 x14) [c] = forL (fstep (runF defs (k + 8)) 1 (.slot 9) lb__law_right_5) ((List.range L).map I) (sR n es d far most start (some (tX n x)) x9 (some (I L)) (some (tX n x)) x12 x13 x14) [c] :=
    ex_for (us := [I L]) (ev_l1 (ev_var rfl)) (walk_rng hL)
  rw [e1]
  obtain ⟨σ', μ', e, x9', rfl, rfl⟩ := forL_inv0 (step := fstep (runF defs (k + 8)) 1 (.slot 9) lb__law_right_5) (xs := (List.range L).map I) (σ := sR n es d far most start (some (tX n x)) x9 (some (I L)) (some (tX n x)) x12 x13 x14) (μ := [c])
    (fun i σ μ => ∃ x9, σ = sR n es d far most start (some (tX n x)) x9 (some (I L)) (some (tX n (it (rowsOf n es) x i))) x12 x13 x14 ∧ μ = [c]) ⟨x9, rfl, rfl⟩ (fun i y σ μ hy hP => by
      obtain ⟨x9, rfl, rfl⟩ := hP
      obtain ⟨hi, rfl⟩ := rng_at hy
      refine ⟨sR n es d far most start (some (tX n x)) (some (I i)) (some (I L)) (some (tX n (it (rowsOf n es) x (i + 1)))) x12 x13 x14, [c], .inl ?_, some (I i), rfl, rfl⟩
      show exL (runF defs (k + 8)) 1 lb__law_right_5 (sR n es d far most start (some (tX n x)) (some (I i)) (some (I L)) (some (tX n (it (rowsOf n es) x i))) x12 x13 x14) [c] = _
      unfold lb__law_right_5
      exact (ex_seq (ex_set (ev_call (ev_l2 (ev_var rfl) (ev_var rfl)) (step_r (k + 7) _ T N _)))).trans ex_nil)
  refine ⟨x9', ?_⟩
  rw [e]
  simp only [List.length_map, List.length_range]
/-- one start of numbers is right -/
theorem turn7 (k : Nat) {c : U} (C : Cup c) (T : Town n es rk) (D : Dist n es d) (hx : ∀ h, h < n → x h ≤ 1000000) {far : U} {most start x9 x10 x11 x12 x13 x14 : Option U} :
    ∃ c' x9' x10' x11' x12' x13' x14', exL (runF defs (k + 8)) 1 lb__law_right_7 (sR n es d far most start (some (tX n x)) x9 x10 x11 x12 x13 x14) [c] = some (.nx (sR n es d far most start (some (tX n x)) x9' x10' x11' x12' x13' x14') [c']) ∧ Cup c' := by
  have N := Dist.net T D
  obtain ⟨S, _, R⟩ := N.rest x
  have hS := rest_le T D R
  have hm := mx_lt T D
  have n40 := T.n40
  have n1 := T.n1
  have hne : List.range n ≠ [] := by simp; omega
  obtain ⟨x9a, l3⟩ := loop3 k c T D R (far := far) (most := most) (start := start) (x9 := x9) (x10 := x10) (x11 := x11) (x12 := x12)
  obtain ⟨L, c', er, hL, C'⟩ := roll_ok (k + 7) [] C (many := S + 3) (by omega) (by omega)
  obtain ⟨x9b, l5⟩ := loop5 k c' T D (x := x) (L := L) (by omega) (far := far) (most := most) (start := start) (x9 := x9a) (x12 := x12) (x13 := some (tX n d)) (x14 := some (I S))
  refine ⟨c', x9b, some (I L), some (tX n (it (rowsOf n es) x L)), some (.lst [tX n (hop (rowsOf n es) x), tX n (it (rowsOf n es) x L), tX n d, tX n x]), some (tX n d), some (I S), ?_, C'⟩
  unfold lb__law_right_7
  refine (ex_seq (ex_par (us := [tX n x, I 0]) (ev_l2 (ev_var rfl) ev_int) rfl)).trans ?_
  refine (ex_seq l3).trans ?_
  refine (ex_seq ((ex_ifF (u := .bl false) (μ1 := [c]) (ev_orF (μ1 := [c]) (ev_cmp (ev_var rfl) (ev_var rfl) ne_tX) (ev_not (d := true) (ev_call (ev_l2 (ev_call (ev_l2 (ev_var rfl) (ev_var rfl)) (rest_ok k _ T D hx R)) (ev_var rfl)) (like_int (k + 6) S _)) rfl)) rfl).trans ex_nil)).trans ?_
  have A : evalE (runF defs (k + 8)) 1 (.bool true [(.cmp .eq (.var 8) (.var 5)), (.cmp .ne (.var 14) (.bin false .add (.bi .max1 [(.var 4)]) (.int 1)))]) (sR n es d far most start (some (tX n x)) x9a x10 x11 x12 (some (tX n d)) (some (I S))) [c] = some (.bl false, [c]) := by
    by_cases hE : ∀ h, h < n → x h = 1000000
    · have e : S = mx n d + 1 := R.uniq (N.restL (fun h hn => by have := D.lt h hn; omega) hE)
      refine ev_andT (ev_cmp (d := true) (ev_var rfl) (ev_var rfl) (by simp only [evCmp, eq_tX]; rw [decide_eq_true hE])) (ev_cmp (d := false) (ev_var rfl) (ev_bin (r := (I (mx n d + 1), [c])) (ev_bi (ev_l1 (ev_var rfl)) (max_bi _ d hne)) ev_int rfl) (ne_no e))
    · exact ev_andF (ev_cmp (d := false) (ev_var rfl) (ev_var rfl) (by simp only [evCmp, eq_tX]; rw [decide_eq_false hE]))
  have B : evalE (runF defs (k + 8)) 1 (.bool true [(.cmp .eq (.bi .max1 [(.var 8)]) (.int 0)), (.cmp .ne (.var 14) (.bi .max1 [(.var 4)]))]) (sR n es d far most start (some (tX n x)) x9a x10 x11 x12 (some (tX n d)) (some (I S))) [c] = some (.bl false, [c]) := by
    by_cases hE : mx n x = 0
    · have e : S = mx n d := R.uniq (N.rest0 fun h hn => by have := (mx_spec n1 x).2 h hn; omega)
      refine ev_andT (ev_cmp (d := true) (ev_bi (ev_l1 (ev_var rfl)) (max_bi _ x hne)) (show evalE _ _ (.int 0) _ _ = some (I 0, [c]) from ev_int) (eq_yes hE)) (ev_cmp (d := false) (ev_var rfl) (ev_bi (ev_l1 (ev_var rfl)) (max_bi _ d hne)) (ne_no e))
    · exact ev_andF (ev_cmp (d := false) (ev_bi (ev_l1 (ev_var rfl)) (max_bi _ x hne)) (show evalE _ _ (.int 0) _ _ = some (I 0, [c]) from ev_int) (eq_no hE))
  have G : evalE (runF defs (k + 8)) 1 (.cmp .gt (.var 14) (.bin false .add (.bi .max1 [(.var 4)]) (.int 1))) (sR n es d far most start (some (tX n x)) x9a x10 x11 x12 (some (tX n d)) (some (I S))) [c] = some (.bl false, [c]) := by
    refine ev_cmp (d := false) (ev_var rfl) (ev_bin (r := (I (mx n d + 1), [c])) (ev_bi (ev_l1 (ev_var rfl)) (max_bi _ d hne)) ev_int rfl) (gt_no hS)
  refine (ex_seq ((ex_ifF (u := .bl false) (μ1 := [c]) (ev_orF3 A (ev_orF B G)) rfl).trans ex_nil)).trans ?_
  refine (ex_seq (ex_set (u := I L) (μ' := [c']) (ev_call (us := [.ob 0, I (S + 3)]) (ev_l2 (ev_var rfl) (ev_bin (ev_var rfl) ev_int rfl)) er))).trans ?_
  refine (ex_seq (ex_set (ev_var rfl))).trans ?_
  refine (ex_seq l5).trans ?_
  have st := N.stay R.at_ (1000000000000000000 - S)
  rw [show S + (1000000000000000000 - S) = 1000000000000000000 by omega] at st
  have b18 := behind_ok k [c'] T D hx (L := 1000000000000000000) (Nat.le_refl _)
  rw [tX_ext st] at b18
  refine (ex_seq (ex_set (u := .lst [tX n (hop (rowsOf n es) x), tX n (it (rowsOf n es) x L), tX n d, tX n x]) (μ' := [c']) (ev_lst (ev_lcons (ev_call (ev_l2 (ev_var rfl) (ev_var rfl)) (stepped_ok k _ T D hx)) (ev_lcons (ev_call (ev_lcons (ev_var rfl) (ev_l2 (ev_var rfl) (ev_var rfl))) (behind_ok k _ T D hx (by omega))) (ev_l2 (ev_call (ev_lcons (ev_var rfl) (ev_l2 (ev_var rfl) ev_pow18)) b18) (ev_call (us := [tU n es, tX n x, I 0]) (ev_lcons (ev_var rfl) (ev_l2 (ev_var rfl) ev_int)) (behind_ok k _ T D hx (Nat.zero_le _)))))) (show 4 ≤ SZ by decide)))).trans ?_
  have lk := like_all (k + 4) [tX n (hop (rowsOf n es) x), tX n (it (rowsOf n es) x L), tX n d, tX n x] [c'] (show 4 ≤ SZ by decide) fun u hu => by
    simp only [List.mem_cons, List.not_mem_nil, or_false] at hu
    rcases hu with rfl | rfl | rfl | rfl <;> exact flt_tX n n40 _
  refine (ex_seq ((ex_ifF (u := .bl false) (μ1 := [c']) (ev_not (d := true) (ev_call (ev_l2 (ev_var rfl) (ev_lst (ev_lcons (ev_call (ev_l2 (ev_var rfl) (ev_var rfl)) (step_r (k + 7) _ T N _)) (ev_lcons (ev_var rfl) (ev_l2 (ev_var rfl) (ev_var rfl)))) (show 4 ≤ SZ by decide))) lk) rfl) rfl).trans ex_nil)).trans ?_
  exact ex_nil
end K50

set_option Elab.async false
set_option linter.all false
set_option maxRecDepth 100000
set_option maxHeartbeats 4000000
namespace K50
open PySem L2 R
variable {n : Nat} {es : List (Nat × Nat)} {rk d : Nat → Nat}
/-- numbers, each a Nat -/
theorem nums_of {ys : List U} {m : Nat} (h : ∀ y ∈ ys, ∃ r : Nat, y = I r ∧ r ≤ m) : ∃ x : Nat → Nat, U.tup ys = tX ys.length x ∧ ∀ i, i < ys.length → x i ≤ m := by
  refine ⟨fun i => match ys[i]? with
    | some (.int v) => v.toNat
    | _ => 0, ?_, fun i hi => ?_⟩
  · unfold tX
    congr 1
    apply List.ext_getElem?
    intro i
    rw [List.getElem?_map]
    by_cases hi : i < ys.length
    · rw [List.getElem?_range hi, List.getElem?_eq_getElem hi]
      obtain ⟨r, e, _⟩ := h ys[i] (List.getElem_mem hi)
      simp only [Option.map, List.getElem?_eq_getElem hi, e]
      simp
    · rw [List.getElem?_eq_none_iff.mpr (by omega), List.getElem?_eq_none_iff.mpr (by simp; omega)]
      rfl
  · obtain ⟨r, e, hr⟩ := h ys[i] (List.getElem_mem hi)
    simp only [List.getElem?_eq_getElem hi, e]
    simpa using hr
theorem cell3 (cal : Nat → List U → Mu → Option (U × Mu)) (n0 : Nat) (T : Town n es rk) {q : List Nat} {d' : Nat → Nat} {μ : Mu} (hd : ∀ h, h < n → h ∈ q ∧ d' h = d h) {σ : R.Env} (h1 : σ[1]? = some (some (tU n es))) (h3 : σ[3]? = some (some (.dk (q.map kI) (q.map (dI d'))))) (hl : σ.length = 17) :
    evalE cal n0 c__law_right_0 σ μ = some (.lst ((List.range n).map fun h => I (d h)), μ) := by
  refine (ev_comp (us := [I n]) (μ1 := μ) (xs := (List.range n).map I) (ev_l1 (ev_idxT (ev_var h1) ev_int tU0)) (walk_rng (by have := T.n40; omega)) (compL_all (enc := I) (g := fun h => I (d h)) (fun h hh => ?_) (by simp; have := T.n40; unfold SZ; omega))).trans rfl
  have hn : h < n := by simpa using hh
  obtain ⟨a, b⟩ := hd h hn
  refine cs_yes (σ' := (σ.set 15 none).set 15 (some (I h))) rfl (ev_idxK (u := .dk (q.map kI) (q.map (dI d'))) (v := I h) (q := kI h) (ev_var ?_) (ev_var ?_) rfl rfl (by rw [lk_map a, dI, b]))
  · rw [List.getElem?_set_ne (by omega), List.getElem?_set_ne (by omega)]; exact h3
  · simp [hl]
abbrev sI (n : Nat) (es : List (Nat × Nat)) (x3 x4 x5 x6 x7 : Option U) : R.Env := [some (.ob 0), some (tU n es), some (.lst ((rowsOf n es).map rho)), x3, x4, x5, x6, x7, none, none, none, none, none, none, none, none, none]
theorem cell1 (k : Nat) (T : Town n es rk) {μ : Mu} {x3 x4 x6 x7 : Option U} :
    evalE (runF defs (k + 2)) 1 c__law_right_1 (sI n es x3 x4 (some (tX n fun _ => 1000000)) x6 x7) μ = some (.lst [], μ) := by
  refine (ev_comp (us := [tX n fun _ => 1000000]) (μ1 := μ) (xs := (List.range n).map fun _ => I 1000000) (ev_l1 (ev_var rfl)) rfl (compL_filter (enc := fun _ => I 1000000) (g := fun _ => .non) (p := fun _ => false) (fun h hh => ?_) (by simp; have := T.n40; unfold SZ; omega))).trans (by simp [R.fresh])
  exact cs_no (v := .bl false) rfl (ev_not (d := true) (ev_call (us := [I 1000000, .int 0, I 1000000]) (ev_lcons (ev_var rfl) (ev_l2 ev_int ev_pow6)) (law_whole_ok k 1000000 0 1000000 _ (by omega))) rfl) rfl
theorem cell2 (k : Nat) (T : Town n es rk) {c : U} (C : Cup c) {most : Nat} (hm : most ≤ 1000000) {x3 x4 x5 : Option U} :
    ∃ (c' : U) (x : Nat → Nat), evalE (runF defs (k + 1)) 1 c__law_right_2 (sI n es x3 x4 x5 (some (I most)) none) [c] = some (.lst ((List.range n).map fun h => I (x h)), [c']) ∧ Cup c' ∧ ∀ h, h < n → x h ≤ 1000000 := by
  obtain ⟨ys, μ', e, ⟨c', rfl, C'⟩, hl, hp⟩ := compL_ex (step := cstep (runF defs (k + 1)) 1 (.slot 15) (.bl true) (.call 23 [(.var 0), (.bin false .add (.var 6) (.int 1))]) [15] (sI n es x3 x4 x5 (some (I most)) none)) (Inv := fun μ => ∃ c, μ = [c] ∧ Cup c) (P := fun _ y => ∃ r : Nat, y = I r ∧ r ≤ 1000000) (xs := (List.range n).map I) (acc := []) (μ := [c]) ⟨c, rfl, C⟩ (fun y _ μ hI => by
      obtain ⟨c, rfl, C⟩ := hI
      obtain ⟨r, c', er, hr, C'⟩ := roll_ok k [] C (many := most + 1) (by omega) (by omega)
      exact ⟨I r, [c'], cs_yes rfl (ev_call (us := [.ob 0, I (most + 1)]) (ev_l2 (ev_var rfl) (ev_bin (ev_var rfl) ev_int rfl)) er), ⟨c', rfl, C'⟩, r, rfl, by omega⟩) (by simp; have := T.n40; unfold SZ; omega)
  obtain ⟨x, hx, hb⟩ := nums_of fun y hy => (hp y hy).elim fun _ h => h.2
  have hl : ys.length = n := by simpa using hl
  rw [hl] at hx hb
  refine ⟨c', x, (ev_comp (us := [I n]) (μ1 := [c]) (ev_l1 (ev_idxT (ev_var rfl) ev_int tU0)) (walk_rng (by have := T.n40; omega)) e).trans ?_, C', hb⟩
  have : ys = (List.range n).map fun h => I (x h) := U.tup.inj hx
  rw [List.nil_append, this]
  rfl
theorem law_right_ok (k : Nat) {c : U} (C : Cup c) (T : Town n es rk) : ∃ c', runF defs (k + 9) 35 [.ob 0, tU n es] [c] = some (.bl true, [c']) ∧ Cup c' := by
  obtain ⟨d, D⟩ := dist_ex T
  have n40 := T.n40
  have n1 := T.n1
  have hne : List.range n ≠ [] := by simp; omega
  obtain ⟨q, d', ef, hd⟩ := law_far_val (k + 7) [c] T D
  obtain ⟨most, c1, em, hm, C1⟩ := some_ok (k + 6) [] C (xs := [1, 5, 50, 1000000]) (by simp) (by simp)
  have hm : most ≤ 1000000 := by simp at hm; omega
  obtain ⟨c2, x, e2, C2, hx⟩ := cell2 (k + 7) T C1 hm (x3 := some (.dk (q.map kI) (q.map (dI d')))) (x4 := some (tX n d)) (x5 := some (tX n fun _ => 1000000))
  have hdl : ∀ h, h < n → d h ≤ 1000000 := fun h hn => by have := D.lt h hn; omega
  obtain ⟨σ', μ', e, x8, x9, x10, x11, x12, x13, x14, c3, rfl, rfl, C3⟩ := forL_inv0 (step := fstep (runF defs (k + 8)) 1 (.slot 8) lb__law_right_7) (xs := [x, fun _ => 0, fun _ => 1000000, d, fun _ => 1000000].map fun y => tX n y)
    (σ := sR n es d (.dk (q.map kI) (q.map (dI d'))) (some (I most)) (some (tX n x)) none none none none none none none) (μ := [c2])
    (fun i σ μ => ∃ x8 x9 x10 x11 x12 x13 x14 c, σ = sR n es d (.dk (q.map kI) (q.map (dI d'))) (some (I most)) (some (tX n x)) x8 x9 x10 x11 x12 x13 x14 ∧ μ = [c] ∧ Cup c) ⟨none, none, none, none, none, none, none, c2, rfl, rfl, C2⟩ (fun i y σ μ hy hP => by
      obtain ⟨x8, x9, x10, x11, x12, x13, x14, c, rfl, rfl, C⟩ := hP
      obtain ⟨z, hz, rfl⟩ := List.mem_map.mp (List.mem_of_getElem? hy)
      have hb : ∀ h, h < n → z h ≤ 1000000 := by
        simp only [List.mem_cons, List.not_mem_nil, or_false] at hz
        rcases hz with rfl | rfl | rfl | rfl | rfl
        · exact hx
        · intro _ _; exact Nat.zero_le _
        · intro _ _; exact Nat.le_refl _
        · exact hdl
        · intro _ _; exact Nat.le_refl _
      obtain ⟨c', x9', x10', x11', x12', x13', x14', e, C'⟩ := turn7 k C T D hb (far := .dk (q.map kI) (q.map (dI d'))) (most := some (I most)) (start := some (tX n x)) (x9 := x9) (x10 := x10) (x11 := x11) (x12 := x12) (x13 := x13) (x14 := x14)
      exact ⟨_, _, .inl e, some (tX n z), x9', x10', x11', x12', x13', x14', c', rfl, rfl, C'⟩)
  refine ⟨c3, ?_, C3⟩
  rw [run__law_right]
  have b : exL (runF defs (k + 8)) 1 b__law_right [some (.ob 0), some (tU n es), none, none, none, none, none, none, none, none, none, none, none, none, none, none, none] [c] = some (.rt (.bl true) [c3]) := by
    unfold b__law_right
    refine (ex_seq (ex_set (ev_call (ev_l1 (ev_var rfl)) (law_beside_ok (k + 7) _ T)))).trans ?_
    refine (ex_seq (ex_set (ev_call (ev_l2 (ev_var rfl) ev_int) ef))).trans ?_
    refine (ex_seq (ex_set (u := tX n d) (μ' := [c]) (ev_col (ev_l1 (cell3 (d := d) _ _ T hd rfl rfl rfl)) rfl rfl))).trans ?_
    refine (ex_seq (ex_set (ev_call (ev_l1 (ev_var rfl)) (late_ok (k + 1) _ T)))).trans ?_
    have lk := like_all (k + 4) [tX n d, I (mx n d + 1)] [c] (show 2 ≤ SZ by decide) fun u hu => by
      simp only [List.mem_cons, List.not_mem_nil, or_false] at hu
      rcases hu with rfl | rfl
      · exact flt_tX n n40 _
      · exact .int _
    refine (ex_seq ((ex_ifF (u := .bl false) (μ1 := [c]) (ev_not (d := true) (ev_call (ev_l2 (ev_lst (ev_l2 (ev_call (ev_l1 (ev_var rfl)) (distances_ok (k + 1) _ T D)) (ev_call (ev_l1 (ev_var rfl)) (most_ok (k + 1) _ T D))) (show 2 ≤ SZ by decide)) (ev_lst (us := [tX n d, I (mx n d + 1)]) (ev_l2 (ev_var rfl) (ev_bin (ev_bi (ev_l1 (ev_var rfl)) (max_bi _ d hne)) ev_int rfl)) (show 2 ≤ SZ by decide))) lk) rfl) rfl).trans ex_nil)).trans ?_
    refine (ex_seq ((ex_ifF (u := .bl false) (μ1 := [c]) (ev_orF3 (μ1 := [c]) (ev_cmp (d := false) (ev_call (ev_l1 (ev_var rfl)) (sort_tup (k + 7) _ _)) ev_int (show evCmp [c] .ne (I 4) (I 4) = _ from ne_no rfl)) (ev_orF (μ1 := [c]) (ev_cmp (d := false) (u := I n) (v := I n) (ev_bi (ev_l1 (ev_var rfl)) (by simp [evBi, cont])) (ev_idxT (ev_var rfl) ev_int tU0) (ne_no rfl)) (ev_cmp (d := false) (cell1 (k + 6) T) (ev_lst ev_lnil (Nat.zero_le _)) (by simp [evCmp, evEq, D0, dat, mapO, PyData.eqv, PyData.eqvAll, neg?])))) rfl).trans ex_nil)).trans ?_
    refine (ex_seq (ex_set (u := I most) (μ' := [c1]) (ev_call (us := [.ob 0, .lst ([1, 5, 50, 1000000].map I)]) (ev_l2 (ev_var rfl) (ev_lst (ev_lcons ev_int (ev_lcons ev_int (ev_l2 ev_int ev_int))) (show 4 ≤ SZ by decide))) em))).trans ?_
    refine (ex_seq (ex_set (u := tX n x) (μ' := [c2]) (ev_col (ev_l1 e2) rfl rfl))).trans ?_
    refine (ex_seq (((show exS _ _ l__law_right_7 _ _ = _ from ex_for (us := [.tup ([x, fun _ => 0, fun _ => 1000000, d, fun _ => 1000000].map fun y => tX n y)]) (ev_l1 (ev_tup (ev_lcons (ev_var rfl) (ev_lcons (ev_bin (ev_tup (ev_l1 ev_int) (show 1 ≤ SZ by decide)) (ev_idxT (ev_var rfl) ev_int tU0) (mul_tX _ _ n 0 n40)) (ev_lcons (ev_var rfl) (ev_l2 (ev_var rfl) (ev_bin (ev_tup (ev_l1 ev_int) (show 1 ≤ SZ by decide)) (ev_idxT (ev_var rfl) ev_int tU0) (mul_tX _ _ n 1000000 n40)))))) (show 5 ≤ SZ by decide))) rfl)).trans e)).trans ?_
    exact ex_ret ev_bl
  exact (if_pos rfl).trans (run_rt b (fin_cut rfl rfl))
end K50

set_option Elab.async false
set_option linter.all false
set_option maxRecDepth 100000
set_option maxHeartbeats 4000000
namespace K50
open PySem L2 R
instance (p q : Nat × Nat) : Decidable (lex p q) := inferInstanceAs (Decidable (_ ∨ _))
/-- a town, tried -/
def okT (n : Nat) (K : List (Nat × Nat)) (d pr : Nat → Nat) : Bool :=
  K.all (fun p => decide (p.1 < p.2) && decide (p.2 < n) && decide (d p.1 ≤ d p.2 + 1) && decide (d p.2 ≤ d p.1 + 1)) && (List.range n).all fun h => h == 0 || (K.any (fun p => p == (pr h, h) || p == (h, pr h)) && d h == d (pr h) + 1)
theorem okT_town {n : Nat} {K es : List (Nat × Nat)} {d pr : Nat → Nat} (h : okT n K d pr = true) (n1 : 1 ≤ n) (n40 : n ≤ 40) (hl : es.length ≤ 400) (asc : es.Pairwise lex) (d0 : d 0 = 0) (hm : ∀ p, p ∈ es ↔ p ∈ K) : Town n es d ∧ Dist n es d := by
  unfold okT at h
  simp only [Bool.and_eq_true, List.all_eq_true, decide_eq_true_eq, Bool.or_eq_true, List.any_eq_true, beq_iff_eq, List.mem_range] at h
  obtain ⟨ha, hb⟩ := h
  have up : ∀ h, 1 ≤ h → h < n → ∃ g, ((g, h) ∈ es ∨ (h, g) ∈ es) ∧ d h = d g + 1 := fun h h1 hn => by
    rcases hb h hn with z | ⟨⟨p, hp, e⟩, z⟩
    · omega
    · refine ⟨pr h, ?_, z⟩
      rcases e with e | e
      · exact .inl ((hm _).mpr (e ▸ hp))
      · exact .inr ((hm _).mpr (e ▸ hp))
  have T : Town n es d := ⟨n1, n40, hl, fun p hp => by have := ha p ((hm p).mp hp); exact ⟨this.1.1.1, this.1.1.2⟩, asc, fun h h1 hn => by
    obtain ⟨g, a, b⟩ := up h h1 hn
    exact ⟨g, a, by omega⟩⟩
  refine ⟨T, List.range n, ⟨List.nodup_range, by simp; omega, d0, by simp, fun h hh h0 => ?_, fun g hg h hh => ?_⟩, by simp⟩
  · have hn : h < n := by simpa using hh
    obtain ⟨g, a, b⟩ := up h (by omega) hn
    have hm : h ∈ nb (rowsOf n es) g := (rowsOf_mem T.lt g h).mpr a
    exact ⟨g, by simpa using (nb_lt T g h hm).2, hm, b⟩
  · refine ⟨by simpa using (nb_lt T g h hh).1, ?_⟩
    rcases (rowsOf_mem T.lt g h).mp hh with z | z
    · exact (ha _ ((hm _).mp z)).2
    · exact (ha _ ((hm _).mp z)).1.2
theorem frz_tU (m : Nat) (μ : Mu) (n : Nat) (es : List (Nat × Nat)) : frz m μ D0 (tU n es) = some (tU n es) := by
  have e : mapO (frz m μ 10) (es.map pU) = some (es.map pU) := mapO_map fun p _ => rfl
  rw [show D0 = 10 + 1 + 1 from rfl]
  simp only [frz, mapO, e]
def pathE (n : Nat) : List (Nat × Nat) := (List.range (n - 1)).map fun i => (i, i + 1)
def starE (n : Nat) : List (Nat × Nat) := (List.range (n - 1)).map fun i => (0, 1 + i)
def ringE (n : Nat) : List (Nat × Nat) := pathE n ++ [(0, n - 1)]
def line (at_ : Nat) : List Nat := ((List.range 40).take (at_ + 1)).drop 1 ++ [0] ++ (List.range 40).drop (at_ + 1)
def midE (at_ : Nat) : List (Nat × Nat) := ((line at_).zip ((line at_).drop 1)).map fun q => (min q.1 q.2, max q.1 q.2)
def midD (at_ h : Nat) : Nat := if h = 0 then 0 else if h ≤ at_ then at_ + 1 - h else h - at_
def midP (at_ h : Nat) : Nat := if h ≤ at_ then (if h = at_ then 0 else h + 1) else if h = at_ + 1 then 0 else h - 1
theorem mid_all : ∀ a, a < 40 → okT 40 (midE a) (midD a) (midP a) = true ∧ (midE a).Nodup ∧ (midE a).length ≤ 400 ∧ mx 40 (midD a) = max a (39 - a) := by decide +kernel
theorem mid_town {a : Nat} (h : a < 40) : Town 40 (srtP (midE a)) (midD a) ∧ Dist 40 (srtP (midE a)) (midD a) := by
  obtain ⟨h1, h2, h3, _⟩ := mid_all a h
  exact okT_town h1 (by omega) (by omega) (by rw [srtP_len]; exact h3) (srtP_asc h2) rfl (srtP_mem _)
theorem path40 : Town 40 (pathE 40) id ∧ Dist 40 (pathE 40) id := okT_town (K := pathE 40) (pr := fun h => h - 1) (by decide +kernel) (by omega) (by omega) (by decide +kernel) (by decide +kernel) rfl fun _ => Iff.rfl
theorem star40 : Town 40 (starE 40) (min 1) ∧ Dist 40 (starE 40) (min 1) := okT_town (K := starE 40) (pr := fun h => 0) (by decide +kernel) (by omega) (by omega) (by decide +kernel) (by decide +kernel) rfl fun _ => Iff.rfl
def ringD (h : Nat) : Nat := min h (40 - h)
theorem ring40 : Town 40 (srtP (ringE 40)) ringD ∧ Dist 40 (srtP (ringE 40)) ringD := okT_town (K := ringE 40) (pr := fun h => if h ≤ 20 then h - 1 else if h = 39 then 0 else h + 1) (by decide +kernel) (by omega) (by omega) (by rw [srtP_len]; decide +kernel) (srtP_asc (by decide +kernel)) rfl (srtP_mem _)
theorem path4 : Town 4 (pathE 4) id ∧ Dist 4 (pathE 4) id := okT_town (K := pathE 4) (pr := fun h => h - 1) (by decide +kernel) (by omega) (by omega) (by decide +kernel) (by decide +kernel) rfl fun _ => Iff.rfl
theorem star4 : Town 4 (starE 4) (min 1) ∧ Dist 4 (starE 4) (min 1) := okT_town (K := starE 4) (pr := fun h => 0) (by decide +kernel) (by omega) (by omega) (by decide +kernel) (by decide +kernel) rfl fun _ => Iff.rfl
theorem one1 : Town 1 [] id ∧ Dist 1 [] id := okT_town (K := []) (pr := fun h => 0) (by decide +kernel) (by omega) (by omega) (by decide +kernel) (by decide +kernel) rfl fun _ => Iff.rfl
/-! ### the towns the law lays -/
theorem law_path_ok (k : Nat) (μ : Mu) {n : Nat} (h1 : 1 ≤ n) (hn : n ≤ 40) : runF defs (k + 1) 31 [I n] μ = some (tU n (pathE n), μ) := by
  rw [run__law_path]
  have c : evalE (runF defs k) μ.length c__law_path_0 [some (I n), none] μ = some (.lst ((pathE n).map pU), μ) := by
    unfold pathE
    rw [List.map_map]
    refine (ev_comp (us := [I (n - 1)]) (μ1 := μ) (xs := (List.range (n - 1)).map I) (ev_l1 (ev_bin (ev_var rfl) ev_int (by simp only [evBin]; congr 3; omega))) (walk_rng (by omega)) (compL_all (enc := I) (g := fun i => pU (i, i + 1)) (fun i _ => ?_) (by simp; unfold SZ; omega))).trans rfl
    exact cs_yes rfl (ev_tup (ev_l2 (ev_var rfl) (ev_bin (ev_var rfl) ev_int rfl)) (show 2 ≤ SZ by decide))
  have b : exL (runF defs k) μ.length b__law_path [some (I n), none] μ = some (.rt (tU n (pathE n)) μ) := by
    unfold b__law_path
    exact ex_ret (ev_tup (ev_l2 (ev_var rfl) (ev_col (ev_l1 c) rfl rfl)) (show 2 ≤ SZ by decide))
  exact (if_pos rfl).trans (run_rt b (fin_cut (frz_tU _ _ _ _) (by simp)))
theorem walk_1 {μ : Mu} {n : Nat} (h1 : 1 ≤ n) (hn : n ≤ 40) : walk μ .rng [.int 1, I n] = some (.inl ((List.range (n - 1)).map fun i => I (1 + i))) := by
  simp only [walk]
  rw [if_pos (by omega), show (1 : Int) = ((1 : Nat) : Int) from rfl, rgn_nats]
theorem law_star_ok (k : Nat) (μ : Mu) {n : Nat} (h1 : 1 ≤ n) (hn : n ≤ 40) : runF defs (k + 1) 32 [I n] μ = some (tU n (starE n), μ) := by
  rw [run__law_star]
  have c : evalE (runF defs k) μ.length c__law_star_0 [some (I n), none] μ = some (.lst ((starE n).map pU), μ) := by
    unfold starE
    rw [List.map_map]
    refine (ev_comp (us := [.int 1, I n]) (μ1 := μ) (xs := (List.range (n - 1)).map fun i => I (1 + i)) (ev_l2 ev_int (ev_var rfl)) (walk_1 h1 hn) (compL_all (enc := fun i => I (1 + i)) (g := fun i => pU (0, 1 + i)) (fun i _ => ?_) (by simp; unfold SZ; omega))).trans rfl
    exact cs_yes rfl (ev_tup (ev_l2 ev_int (ev_var rfl)) (show 2 ≤ SZ by decide))
  have b : exL (runF defs k) μ.length b__law_star [some (I n), none] μ = some (.rt (tU n (starE n)) μ) := by
    unfold b__law_star
    exact ex_ret (ev_tup (ev_l2 (ev_var rfl) (ev_col (ev_l1 c) rfl rfl)) (show 2 ≤ SZ by decide))
  exact (if_pos rfl).trans (run_rt b (fin_cut (frz_tU _ _ _ _) (by simp)))
theorem law_ring_ok (k : Nat) (μ : Mu) {n : Nat} (h1 : 1 ≤ n) (hn : n ≤ 40) : runF defs (k + 1) 33 [I n] μ = some (tU n (srtP (ringE n)), μ) := by
  rw [run__law_ring]
  have c : evalE (runF defs k) μ.length c__law_ring_0 [some (I n), none] μ = some (.lst ((pathE n).map pU), μ) := by
    unfold pathE
    rw [List.map_map]
    refine (ev_comp (us := [I (n - 1)]) (μ1 := μ) (xs := (List.range (n - 1)).map I) (ev_l1 (ev_bin (ev_var rfl) ev_int (by simp only [evBin]; congr 3; omega))) (walk_rng (by omega)) (compL_all (enc := I) (g := fun i => pU (i, i + 1)) (fun i _ => ?_) (by simp; unfold SZ; omega))).trans rfl
    exact cs_yes rfl (ev_tup (ev_l2 (ev_var rfl) (ev_bin (ev_var rfl) ev_int rfl)) (show 2 ≤ SZ by decide))
  have pl : (pathE n).length = n - 1 := by simp [pathE]
  have s : evalE (runF defs k) μ.length (.bin false .add c__law_ring_0 (.lst false [(.tup [(.int 0), (.bin false .sub (.var 0) (.int 1))])])) [some (I n), none] μ = some (.lst ((ringE n).map pU), μ) := by
    refine ev_bin c (ev_lst (us := [pU (0, n - 1)]) (ev_l1 (ev_tup (ev_l2 ev_int (ev_bin (ev_var rfl) ev_int (by simp only [evBin]; congr 3; omega))) (show 2 ≤ SZ by decide))) (show 1 ≤ SZ by decide)) ?_
    simp only [evBin, asL]
    rw [if_pos (by simp [pl]; unfold SZ; omega)]
    simp [ringE, R.fresh]
  have b : exL (runF defs k) μ.length b__law_ring [some (I n), none] μ = some (.rt (tU n (srtP (ringE n))) μ) := by
    unfold b__law_ring
    refine ex_ret (ev_tup (ev_l2 (ev_var rfl) (ev_col (us := [.lst ((srtP (ringE n)).map pU)]) (xs := (srtP (ringE n)).map pU) (ev_l1 (ev_col (xs := (ringE n).map pU) (ev_l1 s) rfl ?_)) rfl rfl)) (show 2 ≤ SZ by decide))
    simp only [evCol, srtd_pU _ (ringE n) (by simp [ringE, pl]; unfold SZ; omega)]
    rfl
  exact (if_pos rfl).trans (run_rt b (fin_cut (frz_tU _ _ _ _) (by simp)))
end K50

set_option Elab.async false
set_option linter.all false
set_option maxRecDepth 100000
set_option maxHeartbeats 4000000
namespace K50
open PySem L2 R
theorem ev_addL {cal : Nat → List U → Mu → Option (U × Mu)} {n0 : Nat} {σ : R.Env} {μ : Mu} {a b : E} {xs ys : List U} (ha : evalE cal n0 a σ μ = some (.lst xs, μ)) (hb : evalE cal n0 b σ μ = some (.lst ys, μ)) (hz : xs.length + ys.length ≤ SZ) : evalE cal n0 (.bin false .add a b) σ μ = some (.lst (xs ++ ys), μ) := by
  refine ev_bin ha hb ?_
  simp only [evBin, asL]
  rw [if_pos hz]
  rfl
theorem ev_non {cal : Nat → List U → Mu → Option (U × Mu)} {n0 : Nat} {σ : R.Env} {μ : Mu} : evalE cal n0 .non σ μ = some (.non, μ) := by simp only [evalE]
theorem min2_I (μ : Mu) (a b : Nat) : evBi μ .min2 [I a, I b] = some (I (min a b)) := by
  simp only [evBi]
  congr 2
  split <;> omega
theorem max2_I (μ : Mu) (a b : Nat) : evBi μ .max2 [I a, I b] = some (I (max a b)) := by
  simp only [evBi]
  congr 2
  split <;> omega
theorem line_len (a : Nat) : (line a).length ≤ 100 := by
  unfold line
  simp only [List.length_append, List.length_drop, List.length_take, List.length_range, List.length_singleton]
  omega
theorem midE_len (a : Nat) : (midE a).length ≤ 100 := by
  unfold midE
  simp only [List.length_map, List.length_zip, List.length_drop]
  have := line_len a
  omega
theorem mx_path : mx 40 id = 39 := by decide +kernel
theorem mx_ring : mx 40 ringD = 20 := by decide +kernel
theorem mx_star : mx 40 (min 1) = 1 := by decide +kernel
theorem mx_one : mx 1 id = 0 := by decide +kernel

theorem f1_ok {cal : Nat → List U → Mu → Option (U × Mu)} {n0 : Nat} {σ : R.Env} {μ : Mu} : evalE cal n0 (.bin false .add (.lst false [(.int 0)]) (.col false .list .rng [(.int 1), (.int 40)])) σ μ = some (.lst ((List.range 40).map I), μ) := by
  have it : items μ .list .rng [.int 1, .int 40] = some (rgn 1 40) := by
    simp only [items]
    rw [if_pos (by omega)]
  have r : rgn 1 40 = (List.range 39).map fun i => I (1 + i) := by
    rw [show (1 : Int) = ((1 : Nat) : Int) from rfl, show (40 : Int) = ((40 : Nat) : Int) from rfl, rgn_nats]
  have o : (U.int 0 :: rgn 1 40) = (List.range 40).map I := by
    rw [r, List.range_succ_eq_map (n := 39), List.map_cons, List.map_map]
    congr 1
  have rl : (rgn 1 40).length = 39 := by rw [r]; simp
  rw [← o]
  exact ev_addL (xs := [.int 0]) (ys := rgn 1 40) (ev_lst (ev_l1 ev_int) (show 1 ≤ SZ by decide)) (ev_col (ev_l2 ev_int ev_int) it rfl) (by rw [rl]; decide)
theorem f2_ok (k a : Nat) (c1 : U) : evalE (runF defs (k + 9)) 1 (.bin false .add (.bin false .add (.slc false (.var 1) (.int 1) (.bin false .add (.var 6) (.int 1))) (.lst false [(.int 0)])) (.slc false (.var 1) (.bin false .add (.var 6) (.int 1)) .non)) [some (.ob 0), some (.lst ((List.range 40).map I)), none, none, none, some (tU 40 (pathE 40)), some (I a), none, none] [c1] = some (.lst ((line a).map I), [c1]) := by
    have s1 : cutU ((List.range 40).map I) (some (1 : Int)) (some ((a : Int) + 1)) = (((List.range 40).take (a + 1)).drop 1).map I := by
      rw [List.map_drop, List.map_take]
      exact cutU_fromto _ 1 (a + 1)
    have s2 : cutU ((List.range 40).map I) (some ((a : Int) + 1)) none = ((List.range 40).drop (a + 1)).map I := by
      rw [List.map_drop]
      exact cutU_from _ (a + 1)
    have e : (line a).map I = ((((List.range 40).take (a + 1)).drop 1).map I ++ [I 0]) ++ ((List.range 40).drop (a + 1)).map I := by
      unfold line
      rw [List.map_append, List.map_append]
      rfl
    rw [e, ← s1, ← s2]
    have ll := line_len a
    rw [← List.length_map (f := I), e, ← s1, ← s2] at ll
    simp only [List.length_append] at ll
    refine ev_addL (ev_addL (ev_slcL (ev_var rfl) ev_int (ev_bin (ev_var rfl) ev_int rfl) rfl rfl) (ev_lst (ev_l1 ev_int) (show 1 ≤ SZ by decide)) ?_) (ev_slcL (ev_var rfl) (ev_bin (ev_var rfl) ev_int rfl) ev_non rfl rfl) ?_
    · unfold SZ; simp only [List.length_singleton] at ll ⊢; omega
    · unfold SZ; simp only [List.length_append, List.length_singleton] at ll ⊢; omega
theorem f3_ok (k a : Nat) (c1 : U) : evalE (runF defs (k + 9)) 1 c__law_great_right_0 [some (.ob 0), some (.lst ((List.range 40).map I)), some (.lst ((line a).map I)), none, none, some (tU 40 (pathE 40)), some (I a), none, none] [c1] = some (.lst ((midE a).map pU), [c1]) := by
    have s : cutU ((line a).map I) (some (1 : Int)) none = ((line a).drop 1).map I := by
      rw [List.map_drop]
      exact cutU_from _ 1
    unfold midE
    rw [List.map_map]
    refine (ev_comp (us := [.lst ((line a).map I), .lst (((line a).drop 1).map I)]) (μ1 := [c1]) (xs := ((line a).zip ((line a).drop 1)).map fun q => .tup [I q.1, I q.2]) (ev_l2 (ev_var rfl) ?_) (by simp only [walk, zip_enc]) (compL_all (enc := fun q : Nat × Nat => U.tup [I q.1, I q.2]) (g := fun q => pU (min q.1 q.2, max q.1 q.2)) (fun q _ => ?_) (by have := midE_len a; unfold midE at this; rw [List.length_map] at this; unfold SZ; simp only [List.length_nil]; omega))).trans rfl
    · rw [← s]
      exact ev_slcL (ev_var rfl) ev_int ev_non rfl rfl
    · exact cs_yes rfl (ev_tup (ev_l2 (ev_bi (ev_l2 (ev_var rfl) (ev_var rfl)) (min2_I _ _ _)) (ev_bi (ev_l2 (ev_var rfl) (ev_var rfl)) (max2_I _ _ _))) (show 2 ≤ SZ by decide))
end K50

set_option Elab.async false
set_option linter.all false
set_option maxRecDepth 100000
set_option maxHeartbeats 4000000
namespace K50
open PySem L2 R
theorem want_ok (k a : Nat) (c1 : U) {told mid : U} {x1 x2 : Option U} (ha : a < 40) : evalE (runF defs (k + 9)) 1 (.lst false [(.int 40), (.bin false .add (.bi .max2 [(.var 6), (.bin false .sub (.int 39) (.var 6))]) (.int 1)), (.int 21), (.int 2), (.int 1), (.int 39), (.int 40)]) [some (.ob 0), x1, x2, some mid, some told, some (tU 40 (pathE 40)), some (I a), none, none] [c1] = some (.lst [I 40, I (max a (39 - a) + 1), I 21, I 2, I 1, I 39, I 40], [c1]) := by
  have s : evalE (runF defs (k + 9)) 1 (.bin false .sub (.int 39) (.var 6)) [some (.ob 0), x1, x2, some mid, some told, some (tU 40 (pathE 40)), some (I a), none, none] [c1] = some (I (39 - a), [c1]) := by
    refine ev_bin ev_int (ev_var rfl) ?_
    show some (U.int ((39 : Int) - (a : Int)), [c1]) = some (U.int ((39 - a : Nat) : Int), [c1])
    rw [show ((39 - a : Nat) : Int) = 39 - (a : Int) by omega]
  refine ev_lst (ev_lcons ev_int (ev_lcons ?_ (ev_lcons ev_int (ev_lcons ev_int (ev_lcons ev_int (ev_l2 ev_int ev_int)))))) (show 7 ≤ SZ by decide)
  refine ev_bin (ev_bi (ev_l2 (ev_var rfl) s) (max2_I _ a (39 - a))) ev_int ?_
  simp only [evBin]
  rfl
theorem great_ok (k : Nat) {c : U} (C : Cup c) : ∃ c', runF defs (k + 10) 36 [.ob 0] [c] = some (.bl true, [c']) ∧ Cup c' := by
  obtain ⟨a, c1, ea, ha, C1⟩ := roll_ok (k + 8) [] C (many := 40) (by omega) (by omega)
  obtain ⟨M, MD⟩ := mid_town ha
  obtain ⟨P, PD⟩ := path40
  obtain ⟨c2, e2, C2⟩ := law_right_ok k C1 M
  obtain ⟨n, es, c3, e3, C3, F⟩ := law_friends_ok (k + 6) (most := 40) (by omega) (by omega) C2
  obtain ⟨c4, e4, C4⟩ := law_right_ok k C3 F
  refine ⟨c4, ?_, C4⟩
  rw [run__law_great_right]
  have N := Dist.net P PD
  have r0 : Rest 40 (rowsOf 40 (pathE 40)) (fun _ => 0) id 39 := by
    have := N.rest0 (x := fun _ => 0) fun _ _ => rfl
    rw [mx_path] at this
    exact this
  have rL : Rest 40 (rowsOf 40 (pathE 40)) (fun _ => 1000000) id 40 := by
    have := N.restL (L := 1000000) (x := fun _ => 1000000) (fun h hn => by show h < 1000000; omega) fun _ _ => rfl
    rw [mx_path] at this
    exact this
  have q1 := most_ok (k + 2) [c1] P PD
  have q2 := most_ok (k + 2) [c1] M MD
  have q3 := most_ok (k + 2) [c1] ring40.1 ring40.2
  have q4 := most_ok (k + 2) [c1] star40.1 star40.2
  have q5 := most_ok (k + 2) [c1] one1.1 one1.2
  rw [mx_path] at q1
  rw [(mid_all a ha).2.2.2] at q2
  rw [mx_ring] at q3
  rw [mx_star] at q4
  rw [mx_one] at q5
  have q6 := rest_ok (k + 1) [c1] P PD (x := fun _ => 0) (fun _ _ => Nat.zero_le _) r0
  have q7 := rest_ok (k + 1) [c1] P PD (x := fun _ => 1000000) (fun _ _ => Nat.le_refl _) rL
  have lk := like_all (k + 5) [I 40, I (max a (39 - a) + 1), I 21, I 2, I 1, I 39, I 40] [c1] (show 7 ≤ SZ by decide) fun u hu => by
    simp only [List.mem_cons, List.not_mem_nil, or_false] at hu
    rcases hu with rfl | rfl | rfl | rfl | rfl | rfl | rfl <;> exact .int _
  have b : exL (runF defs (k + 9)) 1 b__law_great_right [some (.ob 0), none, none, none, none, none, none, none, none] [c] = some (.rt (.bl true) [c4]) := by
    unfold b__law_great_right
    refine (ex_seq (ex_par (us := [tU 40 (pathE 40), I a]) (μ' := [c1]) (ev_l2 (ev_call (us := [I 40]) (ev_l1 ev_int) (law_path_ok (k + 8) _ (by omega) (by omega))) (ev_call (us := [.ob 0, I 40]) (ev_l2 (ev_var rfl) ev_int) ea)) rfl)).trans ?_
    refine (ex_seq (ex_set f1_ok)).trans ?_
    refine (ex_seq (ex_set (f2_ok k a c1))).trans ?_
    refine (ex_seq (ex_set (u := tU 40 (srtP (midE a))) (μ' := [c1]) (ev_tup (ev_l2 ev_int (ev_col (us := [.lst ((srtP (midE a)).map pU)]) (xs := (srtP (midE a)).map pU) (ev_l1 (ev_col (xs := (midE a).map pU) (ev_l1 (f3_ok k a c1)) rfl ?_)) rfl rfl)) (show 2 ≤ SZ by decide)))).trans ?_
    · simp only [evCol, srtd_pU _ (midE a) (by have := midE_len a; unfold SZ; omega)]
      rfl
    refine (ex_seq (ex_set (u := .lst [I 40, I (max a (39 - a) + 1), I 21, I 2, I 1, I 39, I 40]) (μ' := [c1]) (ev_lst (ev_lcons (ev_call (ev_l1 (ev_var rfl)) q1) (ev_lcons (ev_call (ev_l1 (ev_var rfl)) q2) (ev_lcons (ev_call (ev_l1 (ev_call (us := [I 40]) (ev_l1 ev_int) (law_ring_ok (k + 8) _ (by omega) (by omega)))) q3) (ev_lcons (ev_call (ev_l1 (ev_call (us := [I 40]) (ev_l1 ev_int) (law_star_ok (k + 8) _ (by omega) (by omega)))) q4) (ev_lcons (ev_call (us := [tU 1 []]) (ev_l1 (ev_tup (ev_l2 ev_int (ev_tup ev_lnil (Nat.zero_le _))) (show 2 ≤ SZ by decide))) q5)
      (ev_l2 (ev_call (us := [tU 40 (pathE 40), tX 40 fun _ => 0]) (ev_l2 (ev_var rfl) (ev_bin (ev_tup (ev_l1 ev_int) (show 1 ≤ SZ by decide)) ev_int (mul_tX _ _ 40 0 (by omega)))) q6) (ev_call (us := [tU 40 (pathE 40), tX 40 fun _ => 1000000]) (ev_l2 (ev_var rfl) (ev_bin (ev_tup (ev_l1 ev_int) (show 1 ≤ SZ by decide)) ev_int (mul_tX _ _ 40 1000000 (by omega)))) q7))))))) (show 7 ≤ SZ by decide)))).trans ?_
    refine (ex_seq ((ex_ifF (u := .bl false) (μ1 := [c1]) (ev_not (d := true) (ev_call (ev_l2 (ev_var rfl) (want_ok k a c1 ha)) lk) rfl) rfl).trans ex_nil)).trans ?_
    exact ex_ret (ev_andT (ev_call (ev_l2 (ev_var rfl) (ev_var rfl)) e2) (ev_call (ev_l2 (ev_var rfl) (ev_call (us := [.ob 0, I 40, .bl true]) (ev_lcons (ev_var rfl) (ev_l2 ev_int ev_bl)) e3)) e4))
  exact (if_pos rfl).trans (run_rt b (fin_cut rfl rfl))
end K50

set_option Elab.async false
set_option linter.all false
set_option maxRecDepth 100000
set_option maxHeartbeats 1000000
namespace K50
open PySem L2 R
theorem tX_list {n : Nat} {x : Nat → Nat} {l : List Nat} (h : (List.range n).map x = l) : tX n x = .tup (l.map I) := by
  subst h
  unfold tX
  rw [List.map_map]
  rfl
theorem w1 : tX 4 (hop (rowsOf 4 (pathE 4)) fun _ => 0) = .tup [I 0, I 1, I 1, I 1] := tX_list (l := [0, 1, 1, 1]) (by decide +kernel)
theorem w2 : tX 4 (it (rowsOf 4 (pathE 4)) (fun _ => 9) 3) = .tup [I 0, I 1, I 2, I 12] := tX_list (l := [0, 1, 2, 12]) (by decide +kernel)
theorem w3 : tX 4 (it (rowsOf 4 (starE 4)) (fun _ => 7) 1000000000000000000) = .tup [I 0, I 1, I 1, I 1] := by
  obtain ⟨S, hS, R⟩ := (Dist.net star4.1 star4.2).rest fun _ => 7
  have hm := mx_lt star4.1 star4.2
  have st := (Dist.net star4.1 star4.2).stay R.at_ (1000000000000000000 - S)
  rw [show S + (1000000000000000000 - S) = 1000000000000000000 by omega] at st
  rw [tX_ext st]
  exact tX_list (l := [0, 1, 1, 1]) (by decide +kernel)
theorem w4 : tX 1 (hop (rowsOf 1 []) fun _ => 5) = .tup [I 0] := tX_list (l := [0]) (by decide +kernel)
theorem m4 : mx 4 id = 3 := by decide +kernel
theorem r1 : Rest 4 (rowsOf 4 (pathE 4)) (fun _ => 0) id 3 := by
  have := (Dist.net path4.1 path4.2).rest0 (x := fun _ => 0) fun _ _ => rfl
  rw [m4] at this
  exact this
theorem r2 : Rest 4 (rowsOf 4 (pathE 4)) (fun _ => 9) id 4 := by
  have := (Dist.net path4.1 path4.2).restL (L := 9) (x := fun _ => 9) (fun h hn => by show h < 9; omega) fun _ _ => rfl
  rw [m4] at this
  exact this
theorem r3 : Rest 4 (rowsOf 4 (starE 4)) (min 1) (min 1) 0 := ⟨fun _ _ => rfl, fun t ht => by omega⟩
theorem r4 : Rest 1 (rowsOf 1 []) (fun _ => 5) id 1 := by
  have := (Dist.net one1.1 one1.2).restL (L := 5) (x := fun _ => 5) (fun h hn => by show h < 5; omega) fun _ _ => rfl
  rw [mx_one] at this
  exact this
theorem r5 : Rest 1 (rowsOf 1 []) (fun _ => 0) id 0 := by
  have := (Dist.net one1.1 one1.2).rest0 (x := fun _ => 0) fun _ _ => rfl
  rw [mx_one] at this
  exact this
theorem r6 : Rest 4 (rowsOf 4 (pathE 4)) (fun h => 3 - h) id 4 := ⟨by decide +kernel, by decide +kernel⟩
theorem written_ok (k : Nat) (c : U) : runF defs (k + 10) 37 [] [c] = some (.bl true, [c]) := by
  rw [run__law_written_right]
  obtain ⟨P, PD⟩ := path4
  obtain ⟨S, SD⟩ := star4
  obtain ⟨O, OD⟩ := one1
  have q1 := distances_ok (k + 2) [c] P PD
  have q2 := stepped_ok (k + 1) [c] P PD (x := fun _ => 0) (fun _ _ => by decide)
  have q3 := behind_ok (k + 1) [c] P PD (x := fun _ => 9) (fun _ _ => by decide) (L := 3) (by decide)
  have q4 := rest_ok (k + 1) [c] P PD (x := fun _ => 0) (fun _ _ => by decide) r1
  have q5 := rest_ok (k + 1) [c] P PD (x := fun _ => 9) (fun _ _ => by decide) r2
  have q6 := most_ok (k + 2) [c] P PD
  have q7 := rest_ok (k + 1) [c] S SD (x := min 1) (fun h _ => by show min 1 h ≤ 1000000; omega) r3
  have q8 := most_ok (k + 2) [c] O OD
  have q9 := behind_ok (k + 1) [c] S SD (x := fun _ => 7) (fun _ _ => by decide) (L := 1000000000000000000) (Nat.le_refl _)
  have q10 := stepped_ok (k + 1) [c] O OD (x := fun _ => 5) (fun _ _ => by decide)
  have q11 := rest_ok (k + 1) [c] O OD (x := fun _ => 5) (fun _ _ => by decide) r4
  have q12 := rest_ok (k + 1) [c] O OD (x := fun _ => 0) (fun _ _ => by decide) r5
  have q13 := rest_ok (k + 1) [c] P PD (x := fun h => 3 - h) (fun h _ => by show 3 - h ≤ 1000000; omega) r6
  rw [w1] at q2
  rw [w2] at q3
  rw [m4] at q6
  rw [mx_one] at q8
  rw [w3] at q9
  rw [w4] at q10
  rw [show tX 4 id = .tup [I 0, I 1, I 2, I 3] from rfl] at q1
  rw [show tX 4 (fun _ => 0) = .tup [I 0, I 0, I 0, I 0] from rfl] at q2 q4
  rw [show tX 4 (fun _ => 9) = .tup [I 9, I 9, I 9, I 9] from rfl] at q3 q5
  rw [show tX 4 (min 1) = .tup [I 0, I 1, I 1, I 1] from rfl] at q7
  rw [show tX 4 (fun _ => 7) = .tup [I 7, I 7, I 7, I 7] from rfl] at q9
  rw [show tX 1 (fun _ => 5) = .tup [I 5] from rfl] at q10 q11
  rw [show tX 1 (fun _ => 0) = .tup [I 0] from rfl] at q12
  rw [show tX 4 (fun h => 3 - h) = .tup [I 3, I 2, I 1, I 0] from rfl] at q13
  have t4 : ∀ {a b e f : Nat} {σ : R.Env}, evalE (runF defs (k + 9)) 1 (.tup [.int a, .int b, .int e, .int f]) σ [c] = some (.tup [I a, I b, I e, I f], [c]) := fun {a b e f σ} => ev_tup (ev_lcons ev_int (ev_lcons ev_int (ev_l2 ev_int ev_int))) (show 4 ≤ SZ by decide)
  have t1 : ∀ {a : Nat} {σ : R.Env}, evalE (runF defs (k + 9)) 1 (.tup [.int a]) σ [c] = some (.tup [I a], [c]) := fun {a σ} => ev_tup (ev_l1 ev_int) (show 1 ≤ SZ by decide)
  have o : ∀ {σ : R.Env}, evalE (runF defs (k + 9)) 1 (.tup [.int 1, .tup []]) σ [c] = some (tU 1 [], [c]) := fun {σ} => ev_tup (ev_l2 ev_int (ev_tup ev_lnil (Nat.zero_le _))) (show 2 ≤ SZ by decide)
  have F : ∀ u ∈ [U.tup [I 0, I 1, I 2, I 3], .tup [I 0, I 1, I 1, I 1], .tup [I 0, I 1, I 2, I 12], I 3, I 4, I 4, I 0, I 1, .tup [I 0, I 1, I 1, I 1], .tup [I 0], I 1, I 0, I 4], Flt u := fun u hu => by
    have ft : ∀ l : List Nat, l.length ≤ 4 → Flt (.tup (l.map I)) := fun l hl => .tup _ (by rw [List.length_map]; unfold SZ; omega) fun v hv => by
      obtain ⟨h, _, rfl⟩ := List.mem_map.mp hv
      exact ⟨_, rfl⟩
    simp only [List.mem_cons, List.not_mem_nil, or_false] at hu
    rcases hu with rfl | rfl | rfl | rfl | rfl | rfl | rfl | rfl | rfl | rfl | rfl | rfl | rfl
    · exact ft [0, 1, 2, 3] (by decide)
    · exact ft [0, 1, 1, 1] (by decide)
    · exact ft [0, 1, 2, 12] (by decide)
    · exact .int _
    · exact .int _
    · exact .int _
    · exact .int _
    · exact .int _
    · exact ft [0, 1, 1, 1] (by decide)
    · exact ft [0] (by decide)
    · exact .int _
    · exact .int _
    · exact .int _
  have lk := like_all (k + 5) _ [c] (by simp [SZ]) F
  have b : exL (runF defs (k + 9)) 1 b__law_written_right [none, none, none] [c] = some (.rt (.bl true) [c]) := by
    unfold b__law_written_right
    refine (ex_seq (ex_par (us := [tU 4 (pathE 4), tU 4 (starE 4)]) (ev_l2 (ev_call (us := [I 4]) (ev_l1 ev_int) (law_path_ok (k + 8) _ (by omega) (by omega))) (ev_call (us := [I 4]) (ev_l1 ev_int) (law_star_ok (k + 8) _ (by omega) (by omega)))) rfl)).trans ?_
    refine (ex_seq (ex_set (u := .lst [.tup [I 0, I 1, I 2, I 3], .tup [I 0, I 1, I 1, I 1], .tup [I 0, I 1, I 2, I 12], I 3, I 4]) (μ' := [c]) (ev_lst (ev_lcons (ev_call (ev_l1 (ev_var rfl)) q1) (ev_lcons (ev_call (ev_l2 (ev_var rfl) t4) q2) (ev_lcons (ev_call (us := [tU 4 (pathE 4), .tup [I 9, I 9, I 9, I 9], I 3]) (ev_lcons (ev_var rfl) (ev_l2 t4 ev_int)) q3) (ev_l2 (ev_call (ev_l2 (ev_var rfl) t4) q4) (ev_call (ev_l2 (ev_var rfl) t4) q5))))) (show 5 ≤ SZ by decide)))).trans ?_
    refine (ex_seq (ex_set (ev_addL (ys := [I 4, I 0]) (ev_var rfl) (ev_lst (ev_l2 (ev_call (ev_l1 (ev_var rfl)) q6) (ev_call (ev_l2 (ev_var rfl) t4) q7)) (show 2 ≤ SZ by decide)) (by simp [SZ])))).trans ?_
    refine (ex_seq (ex_set (ev_addL (ys := [I 1, .tup [I 0, I 1, I 1, I 1], .tup [I 0]]) (ev_var rfl) (ev_lst (ev_lcons (ev_call (ev_l1 o) q8) (ev_l2 (ev_call (ev_lcons (ev_var rfl) (ev_l2 t4 ev_pow18)) q9) (ev_call (ev_l2 o t1) q10))) (show 3 ≤ SZ by decide)) (by simp [SZ])))).trans ?_
    refine (ex_seq (ex_set (ev_addL (ys := [I 1, I 0, I 4]) (ev_var rfl) (ev_lst (ev_lcons (ev_call (ev_l2 o t1) q11) (ev_l2 (ev_call (ev_l2 o t1) q12) (ev_call (ev_l2 (ev_var rfl) t4) q13))) (show 3 ≤ SZ by decide)) (by simp [SZ])))).trans ?_
    exact ex_ret (ev_call (ev_l2 (ev_var rfl) (ev_lst (ev_lcons t4 (ev_lcons t4 (ev_lcons t4 (ev_lcons ev_int (ev_lcons ev_int (ev_lcons ev_int (ev_lcons ev_int (ev_lcons ev_int (ev_lcons t4 (ev_lcons t1 (ev_lcons ev_int (ev_l2 ev_int ev_int)))))))))))) (show 13 ≤ SZ by decide))) lk)
  exact (if_pos rfl).trans (run_rt b (fin_cut rfl rfl))
theorem law_run (ns : List Int) (h : ns.length ≤ 63) : runF defs 100 38 [.scr ns] [] = some (.bl true, []) := by
  obtain ⟨c0, C0, e0⟩ := cup_ok 98 ns h
  obtain ⟨σ', μ', e, x2, c1, rfl, rfl, C1⟩ := forL_inv0 (step := fstep (runF defs 99) 0 (.slot 2) lb_law_0) (xs := (List.range 6).map I) (σ := [some (.scr ns), some (.ob 0), none]) (μ := [c0])
    (fun i σ μ => ∃ x2 c, σ = [some (.scr ns), some (.ob 0), x2] ∧ μ = [c] ∧ Cup c) ⟨none, c0, rfl, rfl, C0⟩ (fun i x σ μ hx hP => by
      obtain ⟨x2, c, rfl, rfl, C⟩ := hP
      obtain ⟨hi, rfl⟩ := rng_at hx
      obtain ⟨n, es, c3, e3, C3, F⟩ := law_friends_ok 96 (most := 9) (by omega) (by omega) C
      obtain ⟨c4, e4, C4⟩ := law_right_ok 90 C3 F
      refine ⟨[some (.scr ns), some (.ob 0), some (I i)], [c4], .inl ?_, some (I i), c4, rfl, rfl, C4⟩
      show exL (runF defs 99) 0 lb_law_0 [some (.scr ns), some (.ob 0), some (I i)] [c] = _
      unfold lb_law_0
      exact (ex_seq ((ex_ifF (u := .bl false) (μ1 := [c4]) (ev_not (d := true) (ev_call (ev_l2 (ev_var rfl) (ev_call (us := [.ob 0, I 9, .bl true]) (ev_lcons (ev_var rfl) (ev_l2 ev_int ev_bl)) e3)) e4) rfl) rfl).trans ex_nil)).trans ex_nil)
  obtain ⟨c2, e2, C2⟩ := great_ok 89 C1
  have e3 := written_ok 89 c2
  have b : exL (runF defs 99) 0 b_law [some (.scr ns), none, none] [] = some (.rt (.bl true) [c2]) := by
    unfold b_law
    refine (ex_seq (ex_set (ev_call (ev_l1 (ev_var rfl)) e0))).trans ?_
    refine (ex_seq (((show exS _ _ l_law_0 _ _ = _ from ex_for (us := [I 6]) (ev_l1 ev_int) (walk_rng (by omega)))).trans e)).trans ?_
    exact ex_ret (ev_andT (ev_call (ev_l1 (ev_var rfl)) e2) (ev_call ev_lnil e3))
  rw [run_law 99]
  exact (if_pos rfl).trans (run_rt b rfl)
end K50

set_option Elab.async false
set_option linter.all false
set_option maxRecDepth 1000000
set_option maxHeartbeats 4000000
namespace K50
open PySem PySem.Spec PyProof.Rows L2 R
def p_is_whole (g : Str) (s : Stmt) : Pd := ⟨g, "is_whole", s, ["value", "low", "high"], ["value", "low", "high"], d_is_whole⟩
def p_need_whole (g : Str) (s : Stmt) : Pd := ⟨g, "need_whole", s, ["value", "low", "high"], ["value", "low", "high"], d_need_whole⟩
def p_is_tuple_of (g : Str) (s : Stmt) : Pd := ⟨g, "is_tuple_of", s, ["value", "low", "high"], ["value", "low", "high"], d_is_tuple_of⟩
def p_is_ascending (g : Str) (s : Stmt) : Pd := ⟨g, "is_ascending", s, ["values", "one", "other"], ["values"], d_is_ascending⟩
def p_are_wholes (g : Str) (s : Stmt) : Pd := ⟨g, "are_wholes", s, ["value", "many", "low", "high", "one"], ["value", "many", "low", "high"], d_are_wholes⟩
def p_is_pair_of (g : Str) (s : Stmt) : Pd := ⟨g, "is_pair_of", s, ["value", "houses"], ["value", "houses"], d_is_pair_of⟩
def p_are_friends (g : Str) (s : Stmt) : Pd := ⟨g, "are_friends", s, ["value", "pair"], ["value"], d_are_friends⟩
def p_need_friends (g : Str) (s : Stmt) : Pd := ⟨g, "need_friends", s, ["value"], ["value"], d_need_friends⟩
def p_beside (g : Str) (s : Stmt) : Pd := ⟨g, "beside", s, ["friends", "found", "one", "other", "house", "row"], ["friends"], d_beside⟩
def p_spread (g : Str) (s : Stmt) : Pd := ⟨g, "spread", s, ["rows", "start", "came", "queue", "at", "other", "house"], ["rows", "start"], d_spread⟩
def p_need_few (g : Str) (s : Stmt) : Pd := ⟨g, "need_few", s, ["friends"], ["friends"], d_need_few⟩
def p_need_whole_town (g : Str) (s : Stmt) : Pd := ⟨g, "need_whole_town", s, ["friends"], ["friends"], d_need_whole_town⟩
def p_need_numbers (g : Str) (s : Stmt) : Pd := ⟨g, "need_numbers", s, ["friends", "numbers"], ["friends", "numbers"], d_need_numbers⟩
def p_far (g : Str) (s : Stmt) : Pd := ⟨g, "far", s, ["friends", "came", "house"], ["friends"], d_far⟩
def p_step (g : Str) (s : Stmt) : Pd := ⟨g, "step", s, ["rows", "numbers", "row", "other"], ["rows", "numbers"], d_step⟩
def p_rest_in (g : Str) (s : Stmt) : Pd := ⟨g, "rest_in", s, ["friends", "numbers", "rows", "due", "found"], ["friends", "numbers"], d_rest_in⟩
def p_distances (g : Str) (s : Stmt) : Pd := ⟨g, "distances", s, ["friends"], ["friends"], d_distances⟩
def p_stepped (g : Str) (s : Stmt) : Pd := ⟨g, "stepped", s, ["friends", "numbers"], ["friends", "numbers"], d_stepped⟩
def p_behind_steps (g : Str) (s : Stmt) : Pd := ⟨g, "behind_steps", s, ["friends", "numbers", "steps", "rows", "due"], ["friends", "numbers", "steps"], d_behind_steps⟩
def p_steps_to_rest (g : Str) (s : Stmt) : Pd := ⟨g, "steps_to_rest", s, ["friends", "numbers"], ["friends", "numbers"], d_steps_to_rest⟩
def p_most_steps (g : Str) (s : Stmt) : Pd := ⟨g, "most_steps", s, ["friends"], ["friends"], d_most_steps⟩
def p_late_numbers (g : Str) (s : Stmt) : Pd := ⟨g, "late_numbers", s, ["friends"], ["friends"], d_late_numbers⟩
def p__law_cup (g : Str) (s : Stmt) : Pd := ⟨g, "_law_cup", s, ["script", "cell"], ["script"], d__law_cup⟩
def p__law_roll (g : Str) (s : Stmt) : Pd := ⟨g, "_law_roll", s, ["cup", "many", "deep", "found"], ["cup", "many"], d__law_roll⟩
def p__law_some (g : Str) (s : Stmt) : Pd := ⟨g, "_law_some", s, ["cup", "things"], ["cup", "things"], d__law_some⟩
def p__law_sort (g : Str) (s : Stmt) : Pd := ⟨g, "_law_sort", s, ["value"], ["value"], d__law_sort⟩
def p__law_like (g : Str) (s : Stmt) : Pd := ⟨g, "_law_like", s, ["one", "other", "sort", "first", "second"], ["one", "other"], d__law_like⟩
def p__law_whole (g : Str) (s : Stmt) : Pd := ⟨g, "_law_whole", s, ["value", "low", "high"], ["value", "low", "high"], d__law_whole⟩
def p__law_beside (g : Str) (s : Stmt) : Pd := ⟨g, "_law_beside", s, ["friends", "rows", "one", "other", "house"], ["friends"], d__law_beside⟩
def p__law_far (g : Str) (s : Stmt) : Pd := ⟨g, "_law_far", s, ["rows", "start", "turn", "found", "now", "later", "house", "other"], ["rows", "start"], d__law_far⟩
def p__law_friends (g : Str) (s : Stmt) : Pd := ⟨g, "_law_friends", s, ["cup", "most", "is_whole_v", "thick", "other", "houses", "pairs", "one"], ["cup", "most", "is_whole_v"], d__law_friends⟩
def p__law_path (g : Str) (s : Stmt) : Pd := ⟨g, "_law_path", s, ["houses", "house"], ["houses"], d__law_path⟩
def p__law_star (g : Str) (s : Stmt) : Pd := ⟨g, "_law_star", s, ["houses", "house"], ["houses"], d__law_star⟩
def p__law_ring (g : Str) (s : Stmt) : Pd := ⟨g, "_law_ring", s, ["houses", "house"], ["houses"], d__law_ring⟩
def p__law_hopped (g : Str) (s : Stmt) : Pd := ⟨g, "_law_hopped", s, ["rows", "numbers", "row", "other"], ["rows", "numbers"], d__law_hopped⟩
def p__law_right (g : Str) (s : Stmt) : Pd := ⟨g, "_law_right", s, ["cup", "friends", "rows", "far_v", "due", "late", "most", "start", "numbers", "turn", "some", "there", "told", "now", "steps", "house", "one"], ["cup", "friends"], d__law_right⟩
def p__law_great_right (g : Str) (s : Stmt) : Pd := ⟨g, "_law_great_right", s, ["cup", "order", "row", "middle", "told", "path", "at", "one", "other"], ["cup"], d__law_great_right⟩
def p__law_written_right (g : Str) (s : Stmt) : Pd := ⟨g, "_law_written_right", s, ["told", "path", "star"], [], d__law_written_right⟩
def p_law (g : Str) (s : Stmt) : Pd := ⟨g, "law", s, ["script", "cup", "turn"], ["script"], d_law⟩
def top (i : Nat) : Stmt := PySem.Challenge.pw_messengers_k50_whole_hop_numbers.main.body.getD i (.Pass ⟨0, 0, 0, 0⟩)
def pds : List Pd := p_is_whole "is_whole" (top 6) :: p_need_whole "need_whole" (top 7) :: p_is_tuple_of "is_tuple_of" (top 8) :: p_is_ascending "is_ascending" (top 9) :: p_are_wholes "are_wholes" (top 10) :: p_is_pair_of "is_pair_of" (top 14) :: p_are_friends "are_friends" (top 15) :: p_need_friends "need_friends" (top 16) :: p_beside "beside" (top 17) :: p_spread "spread" (top 18) :: p_need_few "need_few" (top 21) :: p_need_whole_town "need_whole_town" (top 25) :: p_need_numbers "need_numbers" (top 26) :: p_far "far" (top 27) :: p_step "step" (top 28) :: p_rest_in "rest_in" (top 29) :: p_distances "distances" (top 30) :: p_stepped "stepped" (top 31) :: p_behind_steps "behind_steps" (top 32) :: p_steps_to_rest "steps_to_rest" (top 33) :: p_most_steps "most_steps" (top 34) :: p_late_numbers "late_numbers" (top 35) :: p__law_cup "_law_cup" (top 37) :: p__law_roll "_law_roll" (top 38) :: p__law_some "_law_some" (top 39) :: p__law_sort "_law_sort" (top 40) :: p__law_like "_law_like" (top 41) :: p__law_whole "_law_whole" (top 42) :: p__law_beside "_law_beside" (top 43) :: p__law_far "_law_far" (top 44) :: p__law_friends "_law_friends" (top 45) :: p__law_path "_law_path" (top 46) :: p__law_star "_law_star" (top 47) :: p__law_ring "_law_ring" (top 48) :: p__law_hopped "_law_hopped" (top 49) :: p__law_right "_law_right" (top 50) :: p__law_great_right "_law_great_right" (top 51) :: p__law_written_right "_law_written_right" (top 52) :: p_law "law" (top 53) :: []
theorem binds : BdAll pds := ⟨fun _ _ _ _ _ _ us hl => match us, hl with | [_, _, _], _ => rfl, fun _ _ _ _ _ _ us hl => match us, hl with | [_, _, _], _ => rfl, fun _ _ _ _ _ _ us hl => match us, hl with | [_, _, _], _ => rfl, fun _ _ _ _ _ _ us hl => match us, hl with | [_], _ => rfl, fun _ _ _ _ _ _ us hl => match us, hl with | [_, _, _, _], _ => rfl, fun _ _ _ _ _ _ us hl => match us, hl with | [_, _], _ => rfl, fun _ _ _ _ _ _ us hl => match us, hl with | [_], _ => rfl, fun _ _ _ _ _ _ us hl => match us, hl with | [_], _ => rfl, fun _ _ _ _ _ _ us hl => match us, hl with | [_], _ => rfl, fun _ _ _ _ _ _ us hl => match us, hl with | [_, _], _ => rfl, fun _ _ _ _ _ _ us hl => match us, hl with | [_], _ => rfl, fun _ _ _ _ _ _ us hl => match us, hl with | [_], _ => rfl, fun _ _ _ _ _ _ us hl => match us, hl with | [_, _], _ => rfl, fun _ _ _ _ _ _ us hl => match us, hl with | [_], _ => rfl, fun _ _ _ _ _ _ us hl => match us, hl with | [_, _], _ => rfl, fun _ _ _ _ _ _ us hl => match us, hl with | [_, _], _ => rfl, fun _ _ _ _ _ _ us hl => match us, hl with | [_], _ => rfl, fun _ _ _ _ _ _ us hl => match us, hl with | [_, _], _ => rfl, fun _ _ _ _ _ _ us hl => match us, hl with | [_, _, _], _ => rfl, fun _ _ _ _ _ _ us hl => match us, hl with | [_, _], _ => rfl, fun _ _ _ _ _ _ us hl => match us, hl with | [_], _ => rfl, fun _ _ _ _ _ _ us hl => match us, hl with | [_], _ => rfl, fun _ _ _ _ _ _ us hl => match us, hl with | [_], _ => rfl, fun _ _ _ _ _ _ us hl => match us, hl with | [_, _], _ => rfl, fun _ _ _ _ _ _ us hl => match us, hl with | [_, _], _ => rfl, fun _ _ _ _ _ _ us hl => match us, hl with | [_], _ => rfl, fun _ _ _ _ _ _ us hl => match us, hl with | [_, _], _ => rfl, fun _ _ _ _ _ _ us hl => match us, hl with | [_, _, _], _ => rfl, fun _ _ _ _ _ _ us hl => match us, hl with | [_], _ => rfl, fun _ _ _ _ _ _ us hl => match us, hl with | [_, _], _ => rfl, fun _ _ _ _ _ _ us hl => match us, hl with | [_, _, _], _ => rfl, fun _ _ _ _ _ _ us hl => match us, hl with | [_], _ => rfl, fun _ _ _ _ _ _ us hl => match us, hl with | [_], _ => rfl, fun _ _ _ _ _ _ us hl => match us, hl with | [_], _ => rfl, fun _ _ _ _ _ _ us hl => match us, hl with | [_, _], _ => rfl, fun _ _ _ _ _ _ us hl => match us, hl with | [_, _], _ => rfl, fun _ _ _ _ _ _ us hl => match us, hl with | [_], _ => rfl, fun _ _ _ _ _ _ us hl => match us, hl with | [], _ => rfl, fun _ _ _ _ _ _ us hl => match us, hl with | [_], _ => rfl, True.intro⟩
def loose0 : List Str := ["LetterError", "InvalidNumber", "InvalidFriends", "InvalidList", "is_whole", "need_whole", "is_tuple_of", "is_ascending", "are_wholes", "HOUSES_friends", "PAIRS", "is_pair_of", "are_friends", "need_friends", "beside", "spread", "HOUSES_recolours", "need_few", "NUMBER", "STEPS", "need_whole_town", "need_numbers", "far", "step", "rest_in", "distances", "stepped", "behind_steps", "steps_to_rest", "most_steps"]
def loose1 : List Str := ["late_numbers", "_law_cup", "_law_roll", "_law_some", "_law_sort", "_law_like", "_law_whole", "_law_beside", "_law_far", "_law_friends", "_law_path", "_law_star", "_law_ring", "_law_hopped", "_law_right", "_law_great_right", "_law_written_right"]
def loose : List Str := loose0 ++ loose1
def lawAt : Nat := 53
def lawIx : Nat := 38
theorem law_true (ns : List Int) (h : ns.length ≤ 63) : ∃ μ, R.runF (pds.map (·.df)) 100 lawIx [.scr ns] [] = some (.bl true, μ) := ⟨[], law_run ns h⟩
def fns : List (Str × Nat) := (("is_whole" : Str), (0 : Nat)) :: (("need_whole" : Str), (1 : Nat)) :: (("is_tuple_of" : Str), (2 : Nat)) :: (("is_ascending" : Str), (3 : Nat)) :: (("are_wholes" : Str), (4 : Nat)) :: (("is_pair_of" : Str), (5 : Nat)) :: (("are_friends" : Str), (6 : Nat)) :: (("need_friends" : Str), (7 : Nat)) :: (("beside" : Str), (8 : Nat)) :: (("spread" : Str), (9 : Nat)) :: (("need_few" : Str), (10 : Nat)) :: (("need_whole_town" : Str), (11 : Nat)) :: (("need_numbers" : Str), (12 : Nat)) :: (("far" : Str), (13 : Nat)) :: (("step" : Str), (14 : Nat)) :: (("rest_in" : Str), (15 : Nat)) :: (("distances" : Str), (16 : Nat)) :: (("stepped" : Str), (17 : Nat)) :: (("behind_steps" : Str), (18 : Nat)) :: (("steps_to_rest" : Str), (19 : Nat)) :: (("most_steps" : Str), (20 : Nat)) :: (("late_numbers" : Str), (21 : Nat)) :: (("_law_cup" : Str), (22 : Nat)) :: (("_law_roll" : Str), (23 : Nat)) :: (("_law_some" : Str), (24 : Nat)) :: (("_law_sort" : Str), (25 : Nat)) :: (("_law_like" : Str), (26 : Nat)) :: (("_law_whole" : Str), (27 : Nat)) :: (("_law_beside" : Str), (28 : Nat)) :: (("_law_far" : Str), (29 : Nat)) :: (("_law_friends" : Str), (30 : Nat)) :: (("_law_path" : Str), (31 : Nat)) :: (("_law_star" : Str), (32 : Nat)) :: (("_law_ring" : Str), (33 : Nat)) :: (("_law_hopped" : Str), (34 : Nat)) :: (("_law_right" : Str), (35 : Nat)) :: (("_law_great_right" : Str), (36 : Nat)) :: (("_law_written_right" : Str), (37 : Nat)) :: (("law" : Str), (38 : Nat)) :: []
def nums : List (Str × Int) := (("HOUSES_friends" : Str), (60 : Int)) :: (("PAIRS" : Str), (400 : Int)) :: (("HOUSES_recolours" : Str), (40 : Int)) :: (("NUMBER" : Str), (1000000 : Int)) :: (("STEPS" : Str), (1000000000000000000 : Int)) :: []
def bns : List Str := ["len", "int", "abs", "all", "min", "max", "range", "zip", "list", "tuple", "sorted", "isinstance", "bool", "str"]
end K50
set_option maxHeartbeats 0
namespace K50
open PySem PySem.Spec PyProof.Rows L2 R
theorem fnsOk : fns.all (fun p => decide ((pds[p.2]?).map (·.glob) = some p.1)) = true := by kernel_rfl
theorem chk (fa : Nat → Option Addr) : pds.all (pdC ⟨fa, fns, nums, bns⟩) = true := by kernel_rfl
abbrev RR : PySem.W.OpenRow := PySem.W.OpenLaw.row PySem.Challenge.rw_messengers_k50_whole_hop_numbers
def facts : List He.Fa := factsOf fns nums bns
def fnd : List He.DefD := fnD pds
abbrev hk : PySem.W.Hook := He.hookD 4 facts fnd
def ob (s : PySem.W.SharedT) : He.AlD := He.obsDG 4 facts fnd (HandSHeadRun.getT s)
theorem ob_eq (s : PySem.W.SharedT) : ob s = hk.obs s.abs := He.obsDG_eq (HandSHeadRun.getT_eq s)
theorem run (w : World) : HandSHeadRun.RunEq RR (PySem.W.view RR.prog [lawAt]) hk ob 4000 loose w := by
  intro os
  kernel_rfl
end K50
open PySem PySem.W PySem.Calls PyProof.Rows
theorem PySem.Challenge.cw_messengers_k50_whole_hop_numbers_holds : PySem.Challenge.rw_messengers_k50_whole_hop_numbers.Holds := by
  w_on; o_law
  refine HandSHeadRun.head_any (r := OpenLaw.row PySem.Challenge.rw_messengers_k50_whole_hop_numbers) (q := view (OpenLaw.row PySem.Challenge.rw_messengers_k50_whole_hop_numbers).prog [K50.lawAt]) (H := K50.hk) (ob := K50.ob) (M := 4000) (loose := K50.loose) (d := HandSHeadRun.topDef (OpenLaw.row PySem.Challenge.rw_messengers_k50_whole_hop_numbers).prog K50.lawAt) (kwd := []) K50.ob_eq
    (by kernel_rfl) (fun s => by kernel_rfl) K50.run (by kernel_rfl) (by kernel_rfl) (by kernel_rfl) (by rfl) (by first | assumption | decide +kernel) (by decide +kernel) ⟨rfl, rfl, rfl, rfl, rfl, by decide +kernel⟩ ?hw ?hc
  case hw => w_witness2
  case hc =>
    refine L2.walk_ofE (l := PySem.Challenge.rw_messengers_k50_whole_hop_numbers) (n := 63) (k := 100) (x := "script") (CX := C8.CX0) rfl (by decide) (by kernel_rfl) ⟨rfl, by decide, by decide⟩ ?F (fun _ _ _ _ z => z)
    intro w mg fa h Y G hmg0
    obtain ⟨K, KX, c⟩ := Y
    have hmg : mg ("law" : PySem.Str) = some (.ref fa) := by
      have e : (HandSHeadRun.topDef (OpenLaw.row PySem.Challenge.rw_messengers_k50_whole_hop_numbers).prog K50.lawAt).name = ("law" : PySem.Str) := by kernel_rfl
      rw [← e]
      exact hmg0
    obtain ⟨fd, hb, hF⟩ := R.law_ok (P := (PySem.Challenge.rw_messengers_k50_whole_hop_numbers).prog) (w := w) (L := K50.lawIx) (k := 100) KX G c K50.binds K50.fnsOk K50.chk (d := K50.p_law "law" (K50.top K50.lawAt)) rfl rfl rfl (by kernel_rfl) hmg K50.law_true
    exact ⟨K, fd, R.spLaw K, KX, hb, fun H a ns hl _ hS => ⟨a, ns, rfl, hS, hl, fun _ => rfl⟩, hF⟩
