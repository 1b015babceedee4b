import PyProof.Rows.All
import Wide.All
import OpenK.AllK
import Wide.FinOn
import PySem.Challenge.RW_messengers_k05_whole_news_ways
import HandS.ForMost
import HandS.Flow
import HandS.TupAny
import HandS.Wide
import HandS.Zip
import HandS.Rev
import HandS.TupLen
import HandS.Conv
import HandS.Small
import KE.DataEq
import KE.DataAny
import KE.DataCmp
import KE.DataMinMax
import KE.DataFind
import KE.SortData
import HandS.Style
import HandS.ListItems
import KE.GoesEnum
import KE.KRevSl
import HandS.SetFor
import HandS.Strs
import HandS.TupMul
import HandS.Deep
import HandS.IsInst
import HandS.Codes
import KE.KDictSum
import HandS.Comp
import HandS.Iter
import KE.KDictKeyed
import HandS.More
import HandS.CallLocal
import HandS.Defaults
import HandS.Words
import HandS.Ends
import HandS.HeadEnd
import HandS.HeadHook1
import HandS.HeadHook2
import KE.KStateDown
import Lean
import HandS.Head0
import HandS.Head1
import HandS.Head2
set_option Elab.async false
set_option linter.all false
set_option maxRecDepth 100000
set_option maxHeartbeats 4000000
/-! R1: pure values U, the relation to V over an abstract heap, worlds and their extension -/
namespace R
open PySem PySem.Spec PyProof.Rows L2


/-- values: pure trees; ob i is the object number i of the store; fn i the def number i -/
inductive U where
  | non | bl (b : Bool) | int (i : Int) | str (x : Str)
  | tup (xs : List U) | lst (xs : List U) | dk (ks : List Key) (vs : List U) | dt (ks : List (List Key)) (vs : List U)
  | ob (i : Nat) | fn (i : Nat) | scr (ns : List Int)

abbrev Mu := List U

/-- a frozen tuple, a frozen list -/
def FT (t m : List Addr) (H : Hp) (a : Addr) (vs : List V) : Prop := H a = some (.tup vs) ∧ a ∉ m ∧ a ∉ t
def FL (t m : List Addr) (H : Hp) (a : Addr) (vs : List V) : Prop := H a = some (.lst vs) ∧ a ∉ m ∧ a ∉ t
/-- the script -/
def FS (K : PySem.W.Frag) (t m : List Addr) (H : Hp) (a : Addr) (vs : List V) : Prop :=
  (Rd H a (.lst vs) ∧ a ∉ m ∧ a ∉ t) ∨ ∃ (o : Obj) (its : Array Value) (n : Nat), K.lookup a = some o ∧ o.cls = .type "list" ∧ o.dict = none ∧ o.data = .seq its n ∧ its.size ≤ sizeLine ∧ Vals vs its.toList
theorem FT.sq {K : PySem.W.Frag} {t m H a vs} (h : FT t m H a vs) : SqT K H a vs := .inl (.inl h.1)
theorem FL.sq {K : PySem.W.Frag} {t m H a vs} (h : FL t m H a vs) : SqL K H a vs := .inl (.inl h.1)
theorem FS.sq {K t m H a vs} (h : FS K t m H a vs) : SqL K H a vs := h.elim (fun q => .inl q.1) .inr

mutual
/-- v stands for u; mutable ones are those of the list m, numbers below n -/
inductive Rp (K : PySem.W.Frag) (fa : Nat → Option Addr) (t m : List Addr) (n : Nat) (H : Hp) : U → V → Prop
  | non : Rp K fa t m n H .non .non
  | bl (b : Bool) : Rp K fa t m n H (.bl b) (.bl b)
  | int (i : Int) : Rp K fa t m n H (.int i) (.int i)
  | str (x : Str) : Rp K fa t m n H (.str x) (.str x)
  | tup {a : Addr} {vs : List V} {xs : List U} : FT t m H a vs → RpA K fa t m n H xs vs → Rp K fa t m n H (.tup xs) (.ref a)
  | lst {a : Addr} {vs : List V} {xs : List U} : FL t m H a vs → RpA K fa t m n H xs vs → Rp K fa t m n H (.lst xs) (.ref a)
  | dK {a : Addr} {kvs : List (Key × V)} {us : List U} : H a = some (.dK kvs) → a ∉ m → a ∉ t → RpA K fa t m n H us (kvs.map (·.2)) → Rp K fa t m n H (.dk (kvs.map (·.1)) us) (.ref a)
  | dT {a : Addr} {kvs : List (List Key × V)} {us : List U} : H a = some (.dT kvs) → a ∉ m → a ∉ t → RpA K fa t m n H us (kvs.map (·.2)) → Rp K fa t m n H (.dt (kvs.map (·.1)) us) (.ref a)
  | ob {i : Nat} {a : Addr} : i < n → m[i]? = some a → Rp K fa t m n H (.ob i) (.ref a)
  | fn {i : Nat} {a : Addr} : fa i = some a → Rp K fa t m n H (.fn i) (.ref a)
  | scr {a : Addr} {ns : List Int} : FS K t m H a (ns.map V.int) → Rp K fa t m n H (.scr ns) (.ref a)
inductive RpA (K : PySem.W.Frag) (fa : Nat → Option Addr) (t m : List Addr) (n : Nat) (H : Hp) : List U → List V → Prop
  | nil : RpA K fa t m n H [] []
  | cons {u : U} {v : V} {us : List U} {vs : List V} : Rp K fa t m n H u v → RpA K fa t m n H us vs → RpA K fa t m n H (u :: us) (v :: vs)
end

/-- the world may grow: new mutable ones are new addresses, what is not mutable stays -/
structure Ex (m : List Addr) (H : Hp) (m' : List Addr) (H' : Hp) : Prop where
  pre : ∃ t, m' = m ++ t
  keep : ∀ a o, H a = some o → a ∉ m → H' a = some o
  new : ∀ a, a ∈ m' → a ∉ m → H a = none

theorem Ex.refl (m : List Addr) (H : Hp) : Ex m H m H := ⟨⟨[], by simp⟩, fun _ _ h _ => h, fun a h n => absurd h n⟩
theorem Ex.sub {m H m' H'} (e : Ex m H m' H') {a : Addr} (h : a ∈ m) : a ∈ m' := by
  obtain ⟨t, rfl⟩ := e.pre; exact List.mem_append_left _ h
theorem Ex.at_ {m H m' H'} (e : Ex m H m' H') {i : Nat} {a : Addr} (h : m[i]? = some a) : m'[i]? = some a := by
  obtain ⟨t, rfl⟩ := e.pre
  have hi : i < m.length := (List.getElem?_eq_some_iff.mp h).1
  rw [List.getElem?_append_left hi]; exact h
theorem Ex.len {m H m' H'} (e : Ex m H m' H') : m.length ≤ m'.length := by
  obtain ⟨t, rfl⟩ := e.pre; simp
theorem Ex.nin {m H m' H'} (e : Ex m H m' H') {a : Addr} {o : HO} (h : H a = some o) (n : a ∉ m) : a ∉ m' := fun z => by
  have q := e.new a z n; rw [h] at q; cases q
theorem Ex.trans {m H m1 H1 m2 H2} (a : Ex m H m1 H1) (b : Ex m1 H1 m2 H2) : Ex m H m2 H2 where
  pre := by
    obtain ⟨t, rfl⟩ := a.pre; obtain ⟨t', rfl⟩ := b.pre; exact ⟨t ++ t', by simp⟩
  keep := fun c o h n => b.keep c o (a.keep c o h n) (a.nin h n)
  new := fun c h n => by
    by_cases hc : c ∈ m1
    · exact a.new c hc n
    · cases q : H c with
      | none => rfl
      | some o =>
        have q1 := a.keep c o q n
        have q2 := b.new c h hc
        rw [q1] at q2; cases q2
theorem Ex.upd {m : List Addr} {H : Hp} {p : Addr} {o : HO} (h : H p = none) : Ex m H m (upd H p o) :=
  ⟨⟨[], by simp⟩, fun a u e _ => by rw [upd_ne (ne_of_none e h)]; exact e, fun a h n => absurd h n⟩
theorem Ex.alloc {m : List Addr} {H : Hp} {p : Addr} {o : HO} (h : H p = none) : Ex m H (m ++ [p]) (L2.upd H p o) :=
  ⟨⟨[p], rfl⟩, fun a u e _ => by rw [upd_ne (ne_of_none e h)]; exact e, fun a q n => by
    rcases List.mem_append.mp q with q | q
    · exact absurd q n
    · simp at q; subst q; exact h⟩
theorem Ex.write {m : List Addr} {H : Hp} {p : Addr} {o : HO} (h : p ∈ m) : Ex m H m (L2.upd H p o) :=
  ⟨⟨[], by simp⟩, fun a u e n => by rw [upd_ne (fun z : a = p => n (by rw [z]; exact h))]; exact e, fun a h n => absurd h n⟩

section
variable {K : PySem.W.Frag} {fa : Nat → Option Addr} {t t' m m' : List Addr} {n n' : Nat} {H H' : Hp}
theorem Rd.ex (e : Ex m H m' H') {a : Addr} {o : HO} (h : Rd H a o) (n : a ∉ m) : Rd H' a o ∧ a ∉ m' := by
  rcases h with h | ⟨ob, h⟩
  · exact ⟨.inl (e.keep _ _ h n), e.nin h n⟩
  · exact ⟨.inr ⟨ob, e.keep _ _ h n⟩, e.nin h n⟩
theorem FT.ex (e : Ex m H m' H') {a vs} (h : FT t m H a vs) : FT t m' H' a vs := ⟨e.keep _ _ h.1 h.2.1, e.nin h.1 h.2.1, h.2.2⟩
theorem FL.ex (e : Ex m H m' H') {a vs} (h : FL t m H a vs) : FL t m' H' a vs := ⟨e.keep _ _ h.1 h.2.1, e.nin h.1 h.2.1, h.2.2⟩
theorem FS.ex (e : Ex m H m' H') {a vs} (h : FS K t m H a vs) : FS K t m' H' a vs := h.elim (fun q => .inl ⟨(Rd.ex e q.1 q.2.1).1, (Rd.ex e q.1 q.2.1).2, q.2.2⟩) .inr
mutual
theorem Rp.ex (e : Ex m H m' H') (hn : n ≤ n') : ∀ {u : U} {v : V}, Rp K fa t m n H u v → Rp K fa t m' n' H' u v
  | _, _, .non => .non
  | _, _, .bl b => .bl b
  | _, _, .int i => .int i
  | _, _, .str x => .str x
  | _, _, .tup h r => .tup (h.ex e) (RpA.ex e hn r)
  | _, _, .lst h r => .lst (h.ex e) (RpA.ex e hn r)
  | _, _, .dK h n z r => .dK (e.keep _ _ h n) (e.nin h n) z (RpA.ex e hn r)
  | _, _, .dT h n z r => .dT (e.keep _ _ h n) (e.nin h n) z (RpA.ex e hn r)
  | _, _, .ob hi h => .ob (Nat.lt_of_lt_of_le hi hn) (e.at_ h)
  | _, _, .fn h => .fn h
  | _, _, .scr h => .scr (h.ex e)
theorem RpA.ex (e : Ex m H m' H') (hn : n ≤ n') : ∀ {us : List U} {vs : List V}, RpA K fa t m n H us vs → RpA K fa t m' n' H' us vs
  | _, _, .nil => .nil
  | _, _, .cons h r => .cons (Rp.ex e hn h) (RpA.ex e hn r)
end
theorem RpA.length : ∀ {us : List U} {vs : List V}, RpA K fa t m n H us vs → us.length = vs.length
  | _, _, .nil => rfl
  | _, _, .cons _ r => by simp [RpA.length r]
theorem RpA.get : ∀ {us : List U} {vs : List V} {i : Nat} {u : U}, RpA K fa t m n H us vs → us[i]? = some u → ∃ v, vs[i]? = some v ∧ Rp K fa t m n H u v
  | _, _, _, _, .nil, e => by simp at e
  | _, _, 0, _, .cons h _, e => by simp at e; subst e; exact ⟨_, rfl, h⟩
  | _, _, i + 1, u, .cons _ r, e => by
    obtain ⟨v, h1, h2⟩ := RpA.get (i := i) (u := u) r (by simpa using e)
    exact ⟨v, by simpa using h1, h2⟩
theorem RpA.getV : ∀ {us : List U} {vs : List V} {i : Nat} {v : V}, RpA K fa t m n H us vs → vs[i]? = some v → ∃ u, us[i]? = some u ∧ Rp K fa t m n H u v
  | _, _, _, _, .nil, e => by simp at e
  | _, _, 0, _, .cons h _, e => by simp at e; subst e; exact ⟨_, rfl, h⟩
  | _, _, i + 1, u, .cons _ r, e => by
    obtain ⟨v, h1, h2⟩ := RpA.getV (i := i) (v := u) r (by simpa using e)
    exact ⟨v, by simpa using h1, h2⟩
theorem RpA.append : ∀ {us ys : List U} {vs ws : List V}, RpA K fa t m n H us vs → RpA K fa t m n H ys ws → RpA K fa t m n H (us ++ ys) (vs ++ ws)
  | _, _, _, _, .nil, s => s
  | _, _, _, _, .cons h r, s => .cons h (RpA.append r s)
theorem RpA.take : ∀ {us : List U} {vs : List V} (k : Nat), RpA K fa t m n H us vs → RpA K fa t m n H (us.take k) (vs.take k)
  | _, _, 0, _ => .nil
  | _, _, _ + 1, .nil => .nil
  | _, _, k + 1, .cons h r => .cons h (RpA.take k r)
theorem RpA.drop : ∀ {us : List U} {vs : List V} (k : Nat), RpA K fa t m n H us vs → RpA K fa t m n H (us.drop k) (vs.drop k)
  | _, _, 0, r => r
  | _, _, _ + 1, .nil => .nil
  | _, _, k + 1, .cons _ r => RpA.drop k r
theorem RpA.set {u : U} {v : V} (h : Rp K fa t m n H u v) : ∀ {us : List U} {vs : List V} (i : Nat), RpA K fa t m n H us vs → RpA K fa t m n H (us.set i u) (vs.set i v)
  | _, _, _, .nil => .nil
  | _, _, 0, .cons _ r => .cons h r
  | _, _, i + 1, .cons q r => .cons q (RpA.set h i r)
theorem RpA.one {u : U} {v : V} (h : Rp K fa t m n H u v) : RpA K fa t m n H [u] [v] := .cons h .nil
theorem RpA.rev : ∀ {us : List U} {vs : List V}, RpA K fa t m n H us vs → RpA K fa t m n H us.reverse vs.reverse
  | _, _, .nil => .nil
  | _, _, .cons h r => by
    rw [List.reverse_cons, List.reverse_cons]
    exact (RpA.rev r).append (.one h)
theorem RpA.rep (k : Nat) : ∀ {us : List U} {vs : List V}, RpA K fa t m n H us vs → RpA K fa t m n H (List.replicate k us).flatten (List.replicate k vs).flatten := by
  intro us vs h
  induction k with
  | zero => exact .nil
  | succ k ih => simpa [List.replicate_succ] using h.append ih
theorem RpA.ints : ∀ (is : List Int), RpA K fa t m n H (is.map U.int) (is.map V.int)
  | [] => .nil
  | i :: r => .cons (.int i) (RpA.ints r)

/-- what a mutable object holds -/
inductive Ct (K : PySem.W.Frag) (fa : Nat → Option Addr) (t m : List Addr) (n : Nat) (H : Hp) (a : Addr) : U → Prop
  | lst {vs : List V} {xs : List U} : H a = some (.lst vs) → RpA K fa t m n H xs vs → Ct K fa t m n H a (.lst xs)
  | dK {kvs : List (Key × V)} {us : List U} : H a = some (.dK kvs) → RpA K fa t m n H us (kvs.map (·.2)) → Ct K fa t m n H a (.dk (kvs.map (·.1)) us)
  | dT {kvs : List (List Key × V)} {us : List U} : H a = some (.dT kvs) → RpA K fa t m n H us (kvs.map (·.2)) → Ct K fa t m n H a (.dt (kvs.map (·.1)) us)
theorem Ct.ex (e : Ex m H m' H') (hn : n ≤ n') {a : Addr} {o : U} (ha : H' a = H a) (h : Ct K fa t m n H a o) : Ct K fa t m' n' H' a o := by
  cases h with
  | lst h r => exact .lst (ha.trans h) (r.ex e hn)
  | dK h r => exact .dK (ha.trans h) (r.ex e hn)
  | dT h r => exact .dT (ha.trans h) (r.ex e hn)

/-- the store: bs the bounds of the objects that stood at the frame's entry -/
structure Me (K : PySem.W.Frag) (fa : Nat → Option Addr) (bs : List Nat) (t m : List Addr) (H : Hp) (μ : Mu) : Prop where
  len : m.length = μ.length
  low : bs.length ≤ m.length
  nd : m.Nodup
  ct : ∀ (i : Nat) (a : Addr) (o : U), m[i]? = some a → μ[i]? = some o → Ct K fa t m (bs[i]?.getD m.length) H a o
  bd : ∀ (i b : Nat), bs[i]? = some b → b ≤ bs.length
  tt : ∀ a ∈ t, a ∉ m ∧ ∃ o, H a = some o ∧ ∀ vs, o ≠ .tup vs

/-! ### temporaries -/
mutual
/-- fewer temporaries are to be avoided -/
theorem Rp.tw (ht : ∀ a ∈ t', a ∈ t) : ∀ {u : U} {v : V}, Rp K fa t m n H u v → Rp K fa t' m n H u v
  | _, _, .non => .non
  | _, _, .bl b => .bl b
  | _, _, .int i => .int i
  | _, _, .str x => .str x
  | _, _, .tup h r => .tup ⟨h.1, h.2.1, fun z => h.2.2 (ht _ z)⟩ (RpA.tw ht r)
  | _, _, .lst h r => .lst ⟨h.1, h.2.1, fun z => h.2.2 (ht _ z)⟩ (RpA.tw ht r)
  | _, _, .dK h n z r => .dK h n (fun q => z (ht _ q)) (RpA.tw ht r)
  | _, _, .dT h n z r => .dT h n (fun q => z (ht _ q)) (RpA.tw ht r)
  | _, _, .ob hi h => .ob hi h
  | _, _, .fn h => .fn h
  | _, _, .scr h => .scr (h.elim (fun q => .inl ⟨q.1, q.2.1, fun z => q.2.2 (ht _ z)⟩) .inr)
theorem RpA.tw (ht : ∀ a ∈ t', a ∈ t) : ∀ {us : List U} {vs : List V}, RpA K fa t m n H us vs → RpA K fa t' m n H us vs
  | _, _, .nil => .nil
  | _, _, .cons h r => .cons (Rp.tw ht h) (RpA.tw ht r)
end
theorem Rd.some {a : Addr} {o : HO} (h : Rd H a o) : ∃ u, H a = some u := h.elim (fun q => ⟨_, q⟩) fun ⟨_, q⟩ => ⟨_, q⟩
mutual
/-- a new temporary at D -/
theorem Rp.tn {D : Addr} (hD : H D = none) : ∀ {u : U} {v : V}, Rp K fa t m n H u v → Rp K fa (D :: t) m n H u v
  | _, _, .non => .non
  | _, _, .bl b => .bl b
  | _, _, .int i => .int i
  | _, _, .str x => .str x
  | _, _, .tup h r => .tup ⟨h.1, h.2.1, fun z => by
      rcases List.mem_cons.mp z with z | z
      · have e := h.1; rw [z, hD] at e; cases e
      · exact h.2.2 z⟩ (RpA.tn hD r)
  | _, _, .lst h r => .lst ⟨h.1, h.2.1, fun z => by
      rcases List.mem_cons.mp z with z | z
      · have e := h.1; rw [z, hD] at e; cases e
      · exact h.2.2 z⟩ (RpA.tn hD r)
  | _, _, .dK h n q r => .dK h n (fun z => by
      rcases List.mem_cons.mp z with z | z
      · rw [z, hD] at h; cases h
      · exact q z) (RpA.tn hD r)
  | _, _, .dT h n q r => .dT h n (fun z => by
      rcases List.mem_cons.mp z with z | z
      · rw [z, hD] at h; cases h
      · exact q z) (RpA.tn hD r)
  | _, _, .ob hi h => .ob hi h
  | _, _, .fn h => .fn h
  | _, _, .scr h => .scr (h.elim (fun q => .inl ⟨q.1, q.2.1, fun z => by
      obtain ⟨u, e⟩ := Rd.some q.1
      rcases List.mem_cons.mp z with z | z
      · rw [z, hD] at e; cases e
      · exact q.2.2 z⟩) .inr)
theorem RpA.tn {D : Addr} (hD : H D = none) : ∀ {us : List U} {vs : List V}, RpA K fa t m n H us vs → RpA K fa (D :: t) m n H us vs
  | _, _, .nil => .nil
  | _, _, .cons h r => .cons (Rp.tn hD h) (RpA.tn hD r)
end
theorem Rd.off {a D : Addr} {o u : HO} (hne : a ≠ D) (h : Rd H a u) : Rd (L2.upd H D o) a u := by
  rcases h with e | ⟨ob, e⟩
  · exact .inl (by rw [upd_ne hne]; exact e)
  · exact .inr ⟨ob, by rw [upd_ne hne]; exact e⟩
theorem FL.off {a D : Addr} {o u : HO} (hne : a ≠ D) (h : H a = some u) : (L2.upd H D o) a = some u := by rw [upd_ne hne]; exact h
mutual
/-- a temporary is written -/
theorem Rp.td {D : Addr} {o : HO} (hD : D ∈ t) : ∀ {u : U} {v : V}, Rp K fa t m n H u v → Rp K fa t m n (L2.upd H D o) u v
  | _, _, .non => .non
  | _, _, .bl b => .bl b
  | _, _, .int i => .int i
  | _, _, .str x => .str x
  | _, _, .tup h r => .tup ⟨FL.off (fun z => h.2.2 (z ▸ hD)) h.1, h.2.1, h.2.2⟩ (RpA.td hD r)
  | _, _, .lst h r => .lst ⟨FL.off (fun z => h.2.2 (z ▸ hD)) h.1, h.2.1, h.2.2⟩ (RpA.td hD r)
  | _, _, .dK h n q r => .dK (by rw [upd_ne (fun z => q (by rw [z]; exact hD))]; exact h) n q (RpA.td hD r)
  | _, _, .dT h n q r => .dT (by rw [upd_ne (fun z => q (by rw [z]; exact hD))]; exact h) n q (RpA.td hD r)
  | _, _, .ob hi h => .ob hi h
  | _, _, .fn h => .fn h
  | _, _, .scr h => .scr (h.elim (fun q => .inl ⟨Rd.off (fun z => q.2.2 (z ▸ hD)) q.1, q.2.1, q.2.2⟩) .inr)
theorem RpA.td {D : Addr} {o : HO} (hD : D ∈ t) : ∀ {us : List U} {vs : List V}, RpA K fa t m n H us vs → RpA K fa t m n (L2.upd H D o) us vs
  | _, _, .nil => .nil
  | _, _, .cons h r => .cons (Rp.td hD h) (RpA.td hD r)
end
theorem Ct.some {a : Addr} {o : U} (h : Ct K fa t m n H a o) : ∃ u, H a = some u := by
  cases h with
  | lst h _ => exact ⟨_, h⟩
  | dK h _ => exact ⟨_, h⟩
  | dT h _ => exact ⟨_, h⟩
theorem Ct.tw (ht : ∀ a ∈ t', a ∈ t) {a : Addr} {o : U} (h : Ct K fa t m n H a o) : Ct K fa t' m n H a o := by
  cases h with
  | lst h r => exact .lst h (r.tw ht)
  | dK h r => exact .dK h (r.tw ht)
  | dT h r => exact .dT h (r.tw ht)
variable {bs : List Nat} {μ : Mu}
theorem Me.there (M : Me K fa bs t m H μ) {a : Addr} (h : a ∈ m) : ∃ o, H a = some o := by
  obtain ⟨i, hi⟩ := List.mem_iff_getElem?.mp h
  have hl : i < μ.length := by rw [← M.len]; exact (List.getElem?_eq_some_iff.mp hi).1
  exact (M.ct i a _ hi (List.getElem?_eq_getElem hl)).some
theorem Me.fresh (M : Me K fa bs t m H μ) {p : Addr} (h : H p = none) : p ∉ m ∧ p ∉ t := by
  refine ⟨fun z => ?_, fun z => ?_⟩
  · obtain ⟨o, e⟩ := M.there z; rw [h] at e; cases e
  · obtain ⟨_, o, e, _⟩ := M.tt _ z; rw [h] at e; cases e
/-- a tuple is no mutable one, no temporary -/
theorem Me.tupN (M : Me K fa bs t m H μ) {b : Addr} {vs : List V} (h : H b = some (.tup vs)) : FT t m H b vs := by
  refine ⟨h, fun z => ?_, fun z => ?_⟩
  · obtain ⟨i, hi⟩ := List.mem_iff_getElem?.mp z
    have hl : i < μ.length := by rw [← M.len]; exact (List.getElem?_eq_some_iff.mp hi).1
    have c := M.ct i b _ hi (List.getElem?_eq_getElem hl)
    generalize μ[i] = o at c
    cases c with
    | lst q _ => rw [h] at q; cases q
    | dK q _ => rw [h] at q; cases q
    | dT q _ => rw [h] at q; cases q
  · obtain ⟨_, o, e, w⟩ := M.tt _ z
    rw [h] at e
    cases e
    exact w _ rfl
/-- only new objects beside -/
theorem Me.ext (M : Me K fa bs t m H μ) (k : ∀ a o, H a = some o → H' a = some o) : Me K fa bs t m H' μ := by
  have e : Ex m H m H' := ⟨⟨[], by simp⟩, fun a o h _ => k a o h, fun a h n => absurd h n⟩
  refine ⟨M.len, M.low, M.nd, fun i a o h1 h2 => ?_, M.bd, fun a h => ⟨(M.tt a h).1, let ⟨o, q, w⟩ := (M.tt a h).2; ⟨o, k _ _ q, w⟩⟩⟩
  have q := M.ct i a o h1 h2
  obtain ⟨u, hu⟩ := q.some
  exact q.ex e (Nat.le_refl _) ((k _ _ hu).trans hu.symm)
theorem Me.upd (M : Me K fa bs t m H μ) {p : Addr} {o : HO} (h : H p = none) : Me K fa bs t m (L2.upd H p o) μ :=
  M.ext fun a u e => by rw [upd_ne (ne_of_none e h)]; exact e
theorem Me.bnd (M : Me K fa bs t m H μ) (i : Nat) : (bs[i]?.getD m.length) ≤ m.length := by
  cases e : bs[i]? with
  | none => exact Nat.le_refl _
  | some b => exact Nat.le_trans (M.bd i b e) M.low
/-- a new mutable object -/
theorem Me.alloc (M : Me K fa bs t m H μ) {p : Addr} {ho : HO} {o : U} (h : H p = none) (c : Ct K fa t (m ++ [p]) (m.length + 1) (L2.upd H p ho) p o) : Me K fa bs t (m ++ [p]) (L2.upd H p ho) (μ ++ [o]) := by
  have e : Ex m H (m ++ [p]) (L2.upd H p ho) := Ex.alloc h
  obtain ⟨nm, nt⟩ := M.fresh h
  refine ⟨by simp [M.len], by have := M.low; simp; omega, ?_, fun i a u h1 h2 => ?_, M.bd, fun a ha => ?_⟩
  · rw [List.nodup_append]
    refine ⟨M.nd, by simp, fun a ha b hb => ?_⟩
    simp at hb; subst hb
    exact fun z => nm (z ▸ ha)
  · by_cases hi : i < m.length
    · rw [List.getElem?_append_left hi] at h1
      rw [List.getElem?_append_left (by rw [← M.len]; exact hi)] at h2
      have q := M.ct i a u h1 h2
      have hne : a ≠ p := fun z => nm (z ▸ List.mem_of_getElem? h1)
      refine q.ex e ?_ (upd_ne hne)
      cases hb : bs[i]? with
      | none => simp
      | some b => simp
    · have hi' : i = m.length := by
        have := (List.getElem?_eq_some_iff.mp h1).1
        simp at this; omega
      subst hi'
      simp at h1
      rw [M.len] at h2
      simp at h2
      subst h1 h2
      have hb : bs[m.length]? = none := List.getElem?_eq_none_iff.mpr M.low
      rw [hb]
      simpa using c
  · obtain ⟨h1, o', h2, h3⟩ := M.tt a ha
    refine ⟨fun z => ?_, o', e.keep _ _ h2 h1, h3⟩
    rcases List.mem_append.mp z with z | z
    · exact h1 z
    · simp at z; subst z; exact nt ha
/-- a mutable object is written -/
theorem Me.write (M : Me K fa bs t m H μ) {i : Nat} {p : Addr} {ho : HO} {o : U} (h : m[i]? = some p) (c : Ct K fa t m (bs[i]?.getD m.length) (L2.upd H p ho) p o) : Me K fa bs t m (L2.upd H p ho) (μ.set i o) := by
  have hm := List.mem_of_getElem? h
  have e : Ex m H m (L2.upd H p ho) := Ex.write hm
  refine ⟨by simp [M.len], M.low, M.nd, fun j a u h1 h2 => ?_, M.bd, fun a ha => ?_⟩
  · by_cases hj : j = i
    · subst hj
      rw [h] at h1; cases h1
      have hl : j < μ.length := by rw [← M.len]; exact (List.getElem?_eq_some_iff.mp h).1
      rw [List.getElem?_set_self hl] at h2
      cases h2
      exact c
    · rw [List.getElem?_set_ne (fun z => hj z.symm)] at h2
      have hne : a ≠ p := fun z => by
        subst z
        have h3 := (List.getElem?_eq_some_iff.mp h1)
        have h4 := (List.getElem?_eq_some_iff.mp h)
        obtain ⟨l1, e1⟩ := h3
        obtain ⟨l2, e2⟩ := h4
        exact hj ((List.getElem_inj M.nd).mp (e1.trans e2.symm))
      exact (M.ct j a u h1 h2).ex e (Nat.le_refl _) (upd_ne hne)
  · obtain ⟨h1, o', h2, h3⟩ := M.tt a ha
    exact ⟨h1, o', e.keep _ _ h2 h1, h3⟩
/-- a temporary begins, is written, ends -/
theorem Me.tn (M : Me K fa bs t m H μ) {D : Addr} {o : HO} (h : H D = none) (ho : ∀ vs, o ≠ .tup vs := by intro _ h; cases h) : Me K fa bs (D :: t) m (L2.upd H D o) μ := by
  have M' := M.upd (o := o) h
  obtain ⟨nm, nt⟩ := M.fresh h
  have e : Ex m H m (L2.upd H D o) := Ex.upd h
  refine ⟨M.len, M.low, M.nd, fun i a u h1 h2 => ?_, M.bd, fun a ha => ?_⟩
  · have q := M.ct i a u h1 h2
    have hne : a ≠ D := fun z => nm (z ▸ List.mem_of_getElem? h1)
    cases q with
    | lst q r => exact .lst (by rw [upd_ne hne]; exact q) ((r.tn h).ex e (Nat.le_refl _))
    | dK q r => exact .dK (by rw [upd_ne hne]; exact q) ((r.tn h).ex e (Nat.le_refl _))
    | dT q r => exact .dT (by rw [upd_ne hne]; exact q) ((r.tn h).ex e (Nat.le_refl _))
  · rcases List.mem_cons.mp ha with ha | ha
    · subst ha; exact ⟨nm, o, upd_same, ho⟩
    · exact M'.tt a ha
theorem Me.td (M : Me K fa bs t m H μ) {D : Addr} {o : HO} (h : D ∈ t) (ho : ∀ vs, o ≠ .tup vs := by intro _ h; cases h) : Me K fa bs t m (L2.upd H D o) μ := by
  refine ⟨M.len, M.low, M.nd, fun i a u h1 h2 => ?_, M.bd, fun a ha => ?_⟩
  · have q := M.ct i a u h1 h2
    have hne : a ≠ D := fun z => (M.tt D h).1 (z ▸ List.mem_of_getElem? h1)
    cases q with
    | lst q r => exact .lst (by rw [upd_ne hne]; exact q) (r.td h)
    | dK q r => exact .dK (by rw [upd_ne hne]; exact q) (r.td h)
    | dT q r => exact .dT (by rw [upd_ne hne]; exact q) (r.td h)
  · obtain ⟨h1, o', h2, h3⟩ := M.tt a ha
    by_cases z : a = D
    · subst z; exact ⟨h1, o, upd_same, ho⟩
    · exact ⟨h1, o', by rw [upd_ne z]; exact h2, h3⟩
theorem Me.tw (M : Me K fa bs t m H μ) (ht : ∀ a ∈ t', a ∈ t) : Me K fa bs t' m H μ :=
  ⟨M.len, M.low, M.nd, fun i a u h1 h2 => (M.ct i a u h1 h2).tw ht, M.bd, fun a ha => M.tt a (ht a ha)⟩

end
end R

set_option Elab.async false
set_option linter.all false
set_option maxRecDepth 100000
set_option maxHeartbeats 4000000
/-! R2: a small language of my own and its evaluator -/
namespace R
open PySem L2

abbrev Env := List (Option U)
def SZ : Nat := 16777216

inductive Pt where
  | slot (i : Nat)
  | tup (ps : List Pt)
inductive Bo where
  | add | sub | mul | fdiv | mod | pow | shl | shr | band | bor | bxor
inductive Co where
  | eq | ne | lt | le | gt | ge | isin | notin | is_ | isnot
inductive Bi where
  | len | int | abs | all | any | sum | min1 | max1 | min2 | max2
  deriving DecidableEq
/-- what is walked -/
inductive Ik where
  | ex | rng | enm | zip
  deriving DecidableEq
/-- what is collected into -/
inductive Cl where
  | list | tuple | sorted | dict (tk : Bool)
  deriving DecidableEq
inductive Mt where
  | append | pop0 | pop1 | get2 | index | count
  deriving DecidableEq
inductive Ty where
  | int | bool | str | tuple | list | dict
  deriving DecidableEq

inductive E where
  | var (i : Nat)
  | non | bl (b : Bool) | int (i : Int) | str (x : Str)
  | gint (i : Int)
  | fnv (f : Nat)
  | tup (es : List E)
  | lst (al : Bool) (es : List E)
  | dct (al tk : Bool) (es : List E)
  | bin (al : Bool) (op : Bo) (a b : E)
  | neg (a : E)
  | cmp (op : Co) (a b : E)
  | chain (op op' : Co) (a b c : E)
  | bool (and : Bool) (es : List E)
  | not (a : E)
  | ite (c a b : E)
  | idx (a i : E)
  | slc (al : Bool) (a lo hi : E)
  | rev (al : Bool) (a : E)
  | comp (al : Bool) (p : Pt) (ik : Ik) (its : List E) (c e : E) (ws : List Nat)
  | col (al : Bool) (c : Cl) (ik : Ik) (its : List E)
  | call (f : Nat) (es : List E)
  | bi (b : Bi) (es : List E)
  | isi (e : E) (t : Ty)
  | me (al : Bool) (m : Mt) (a : E) (es : List E)
  | itms (a : E)
  | sset (al : Bool) (a : E)
  | lset (a : E)

inductive S where
  | set (i : Nat) (e : E)
  | par (is : List Nat) (es : List E)
  | asg (p : Pt) (e : E)
  | sub (a i e : E)
  | asg2 (a i a' i' e : E)
  | sub2 (a i a' i' e e' : E)
  | ex (e : E)
  | ret (e : E)
  | iff (c : E) (t f : List S)
  | for_ (p : Pt) (ik : Ik) (its : List E) (b : List S)
  | wh (c : E) (b : List S)
  | pass | brk | cont | stuck

/-! ### values -/
def mapO {α β : Type} (f : α → Option β) : List α → Option (List β)
  | [] => some []
  | x :: xs => match f x with
    | some y => match mapO f xs with
      | some ys => some (y :: ys)
      | none => none
    | none => none

mutual
/-- no mutable one within -/
def nomut : U → Bool
  | .ob _ => false
  | .tup xs => nomuts xs
  | .lst xs => nomuts xs
  | .dk _ vs => nomuts vs
  | .dt _ vs => nomuts vs
  | _ => true
def nomuts : List U → Bool
  | [] => true
  | x :: xs => nomut x && nomuts xs
end

/-- data: what == and < see -/
def dat (μ : Mu) : Nat → U → Option PyData
  | _, .non => some .none
  | _, .bl b => some (.bool b)
  | _, .int i => some (.int i)
  | _, .str x => some (.str x)
  | k + 1, .tup xs => match mapO (dat μ k) xs with
    | some ds => some (.tuple ds)
    | none => none
  | k + 1, .lst xs => match mapO (dat μ k) xs with
    | some ds => some (.list ds)
    | none => none
  | k + 1, .ob i => match μ[i]? with
    | some o => dat μ k o
    | none => none
  | _, _ => none

/-- the mutable ones from n on, frozen -/
def frz (n : Nat) (μ : Mu) : Nat → U → Option U
  | k + 1, .tup xs => match mapO (frz n μ k) xs with
    | some ys => some (.tup ys)
    | none => none
  | k + 1, .lst xs => match mapO (frz n μ k) xs with
    | some ys => some (.lst ys)
    | none => none
  | k + 1, .dk ks xs => match mapO (frz n μ k) xs with
    | some ys => some (.dk ks ys)
    | none => none
  | k + 1, .dt ks xs => match mapO (frz n μ k) xs with
    | some ys => some (.dt ks ys)
    | none => none
  | k + 1, .ob i => if i < n then some (.ob i) else match μ[i]? with
    | some (.lst xs) => match mapO (frz n μ k) xs with
      | some ys => some (.lst ys)
      | none => none
    | some (.dk ks xs) => match mapO (frz n μ k) xs with
      | some ys => some (.dk ks ys)
      | none => none
    | some (.dt ks xs) => match mapO (frz n μ k) xs with
      | some ys => some (.dt ks ys)
      | none => none
    | _ => none
  | _, .non => some .non
  | _, .bl b => some (.bl b)
  | _, .int i => some (.int i)
  | _, .str x => some (.str x)
  | _, .fn i => some (.fn i)
  | _, .scr ns => some (.scr ns)
  | _, _ => none

def D0 : Nat := 12

def asL (μ : Mu) : U → Option (List U)
  | .lst xs => some xs
  | .ob i => match μ[i]? with
    | some (.lst xs) => some xs
    | _ => none
  | _ => none
def asS (μ : Mu) : U → Option (List U)
  | .tup xs => some xs
  | u => asL μ u
def asInt : U → Option Int
  | .int i => some i
  | _ => none
def asBl : U → Option Bool
  | .bl b => some b
  | _ => none
def sky : U → Option Key
  | .int i => some (.inl i)
  | .str x => some (.inr x)
  | _ => none
def tky : U → Option (List Key)
  | .tup xs => mapO sky xs
  | _ => none
/-- a look-up -/
def lk {κ : Type} [DecidableEq κ] : List κ → List U → κ → Option U
  | k :: ks, v :: vs, q => if k = q then some v else lk ks vs q
  | _, _, _ => none
def rpl {κ : Type} [DecidableEq κ] : List κ → List U → κ → U → List U
  | k :: ks, v :: vs, q, u => (if k = q then u else v) :: rpl ks vs q u
  | _, _, _, _ => []
def pt {κ : Type} [DecidableEq κ] (ks : List κ) (vs : List U) (q : κ) (u : U) : List U := if q ∈ ks then rpl ks vs q u else vs ++ [u]
def ptk {κ : Type} [DecidableEq κ] (ks : List κ) (q : κ) : List κ := if q ∈ ks then ks else ks ++ [q]
/-- the value itself, or what the mutable one holds -/
def cont (μ : Mu) : U → Option U
  | .ob i => μ[i]?
  | u => some u
/-- none: no dict or a key of the wrong kind -/
def dget (μ : Mu) (d k : U) : Option (Option U) :=
  match cont μ d with
  | some (.dk ks vs) => match sky k with
    | some q => some (lk ks vs q)
    | none => none
  | some (.dt ks vs) => match tky k with
    | some q => some (lk ks vs q)
    | none => none
  | _ => none
def dput (o k v : U) : Option U :=
  match o with
  | .dk ks vs => match sky k with
    | some q => if ks.length < SZ then some (.dk (ptk ks q) (pt ks vs q v)) else none
    | none => none
  | .dt ks vs => match tky k with
    | some q => if ks.length < SZ then some (.dt (ptk ks q) (pt ks vs q v)) else none
    | none => none
  | _ => none

def truth (μ : Mu) : U → Option Bool
  | .non => some false
  | .bl b => some b
  | .int i => some (i != 0)
  | .str x => if x.length ≤ SZ then some ((x.length : Int) != 0) else none
  | .tup xs => some !xs.isEmpty
  | .lst xs => some !xs.isEmpty
  | .ob i => match μ[i]? with
    | some (.lst xs) => some !xs.isEmpty
    | some (.dk ks _) => some !ks.isEmpty
    | _ => none
  | _ => none

def fresh (al : Bool) (u : U) (μ : Mu) : U × Mu := if al then (.ob μ.length, μ ++ [u]) else (u, μ)

def mulOk (i j : Int) : Bool := (decide (-(2 ^ 64) < i) && decide (i < 2 ^ 64)) || (decide (-(2 ^ 64) < j) && decide (j < 2 ^ 64))
def evBin (al : Bool) (μ : Mu) : Bo → U → U → Option (U × Mu)
  | .add, .int i, .int j => some (.int (i + j), μ)
  | .sub, .int i, .int j => some (.int (i - j), μ)
  | .mul, .int i, .int j => if mulOk i j then some (.int (i * j), μ) else none
  | .fdiv, .int i, .int j => if 0 < j ∧ j < 1073741824 then some (.int (i / j), μ) else none
  | .mod, .int i, .int j => if 0 < j then some (.int (i % j), μ) else none
  | .pow, .int i, .int j => if 0 ≤ j ∧ j ≤ 1000000 ∧ i.natAbs < 2 ^ 64 then some (.int (i ^ j.toNat), μ) else none
  | .shl, .int i, .int j => if 0 ≤ j ∧ j ≤ 1000000 ∧ i.natAbs < 2 ^ 64 then some (.int (i * 2 ^ j.toNat), μ) else none
  | .shr, .int i, .int j => if 0 ≤ j then some (.int (i / 2 ^ j.toNat), μ) else none
  | .band, .int i, .int j => some (.int (Builtin.bitAnd i j), μ)
  | .bor, .int i, .int j => some (.int (Builtin.bitOr i j), μ)
  | .bxor, .int i, .int j => some (.int (Builtin.bitXor i j), μ)
  | .add, .str a, .str b => if a.length + b.length ≤ SZ then some (.str (a ++ b), μ) else none
  | .add, .tup xs, .tup ys => if xs.length + ys.length ≤ SZ then some (.tup (xs ++ ys), μ) else none
  | .add, u, v => match asL μ u, asL μ v with
    | some xs, some ys => if xs.length + ys.length ≤ SZ then some (fresh al (.lst (xs ++ ys)) μ) else none
    | _, _ => none
  | .mul, .tup xs, .int k => if -(2 ^ 63) ≤ k ∧ k < 2 ^ 63 ∧ xs.length * k.toNat ≤ SZ then some (.tup (List.replicate k.toNat xs).flatten, μ) else none
  | .mul, u, .int k => match asL μ u with
    | some xs => if -(2 ^ 63) ≤ k ∧ k < 2 ^ 63 ∧ xs.length * k.toNat ≤ SZ then some (fresh al (.lst (List.replicate k.toNat xs).flatten) μ) else none
    | none => none
  | _, _, _ => none

def evEq (μ : Mu) (a b : U) : Option Bool :=
  match dat μ D0 a, dat μ D0 b with
  | some x, some y => some (PyData.eqv x y)
  | _, _ => none
def evIn (μ : Mu) (a b : U) : Option Bool :=
  match cont μ b with
  | some (.dk ks vs) => match dget μ b a with
    | some o => some o.isSome
    | none => none
  | some (.dt ks vs) => match dget μ b a with
    | some o => some o.isSome
    | none => none
  | _ => match dat μ D0 a, dat μ D0 b with
    | some x, some (.tuple ys) => some (ys.any fun y => y.eqv x)
    | some x, some (.list ys) => some (ys.any fun y => y.eqv x)
    | _, _ => none
def evLt (μ : Mu) (a b : U) : Option Bool :=
  match a, b with
  | .int i, .int j => some (decide (i < j))
  | a, b => match dat μ D0 a, dat μ D0 b with
    | some .none, _ => none
    | some x, some y => if PySem.W.alike x y then some (PySem.W.dataLt x y) else none
    | _, _ => none
def isNon : U → Bool
  | .non => true
  | _ => false
def neg? : Option Bool → Option Bool
  | some b => some !b
  | none => none
def evCmp (μ : Mu) : Co → U → U → Option Bool
  | .eq, a, b => evEq μ a b
  | .ne, a, b => neg? (evEq μ a b)
  | .lt, a, b => evLt μ a b
  | .gt, a, b => evLt μ b a
  | .le, a, b => neg? (evLt μ b a)
  | .ge, a, b => neg? (evLt μ a b)
  | .isin, a, b => evIn μ a b
  | .notin, a, b => neg? (evIn μ a b)
  | .is_, a, .non => some (isNon a)
  | .isnot, a, .non => some !isNon a
  | _, _, _ => none

def evIdx (μ : Mu) (a i : U) : Option U :=
  match cont μ a with
  | some (.dk _ _) => (dget μ a i).bind id
  | some (.dt _ _) => (dget μ a i).bind id
  | some (.str x) => match i with
    | .int j => if x.length ≤ SZ then (match L2.atI x.cps.toList j with | some c => some (.str ⟨#[c]⟩) | none => none) else none
    | _ => none
  | some (.tup xs) => match i with
    | .int j => L2.atI xs j
    | _ => none
  | some (.lst xs) => match i with
    | .int j => L2.atI xs j
    | _ => none
  | _ => none
def bnd : U → Option (Option Int)
  | .non => some none
  | .int i => some (some i)
  | _ => none
def cutU (xs : List U) (lo hi : Option Int) : List U := (xs.drop (HT.sIx xs.length 0 lo)).take (HT.sIx xs.length xs.length hi - HT.sIx xs.length 0 lo)
def evSlc (al : Bool) (μ : Mu) (a lo hi : U) : Option (U × Mu) :=
  match bnd lo, bnd hi with
  | some l, some h => match a with
    | .tup xs => some (.tup (cutU xs l h), μ)
    | .str x => if x.length ≤ SZ then some (.str (Txt.slice x l h), μ) else none
    | a => match asL μ a with
      | some xs => some (fresh al (.lst (cutU xs l h)) μ)
      | none => none
  | _, _ => none
def evRev (al : Bool) (μ : Mu) (a : U) : Option (U × Mu) :=
  match a with
  | .tup xs => some (.tup xs.reverse, μ)
  | a => match asL μ a with
    | some xs => some (fresh al (.lst xs.reverse) μ)
    | none => none

def minL : List Int → Option Int
  | [] => none
  | x :: xs => some (xs.foldl (fun a b => if b < a then b else a) x)
def maxL : List Int → Option Int
  | [] => none
  | x :: xs => some (xs.foldl (fun a b => if a < b then b else a) x)
def intL (μ : Mu) (u : U) : Option (List Int) :=
  match asL μ u with
  | some xs => mapO asInt xs
  | none => none
def intT (μ : Mu) (u : U) : Option (List Int) :=
  match asS μ u with
  | some xs => mapO asInt xs
  | none => none
/-- the numbers in order, each once -/
def insI (x : Int) : List Int → List Int
  | [] => [x]
  | y :: l => if x < y then x :: y :: l else if x = y then y :: l else y :: insI x l
def ssrt : List Int → List Int
  | [] => []
  | x :: l => insI x (ssrt l)
def bls (μ : Mu) (u : U) : Option (List Bool) :=
  match asL μ u with
  | some xs => mapO asBl xs
  | none => none
def evBi (μ : Mu) : Bi → List U → Option U
  | .len, [u] => match cont μ u with
    | some (.str x) => if x.length ≤ SZ then some (.int x.length) else none
    | some (.tup xs) => some (.int xs.length)
    | some (.lst xs) => some (.int xs.length)
    | some (.dk ks _) => some (.int ks.length)
    | some (.dt ks _) => some (.int ks.length)
    | _ => none
  | .int, [.int i] => some (.int i)
  | .int, [.bl b] => some (.int (if b then 1 else 0))
  | .abs, [.int i] => some (.int (if i < 0 then -i else i))
  | .all, [u] => (bls μ u).map fun bs => .bl (bs.all id)
  | .any, [u] => (bls μ u).map fun bs => .bl (bs.any id)
  | .sum, [u] => (intL μ u).map fun ns => .int ns.sum
  | .min1, [u] => ((intT μ u).bind minL).map U.int
  | .max1, [u] => ((intT μ u).bind maxL).map U.int
  | .min2, [.int i, .int j] => some (.int (if j < i then j else i))
  | .max2, [.int i, .int j] => some (.int (if j > i then j else i))
  | _, _ => none
def evIsi (μ : Mu) (u : U) (t : Ty) : Option Bool :=
  match cont μ u with
  | some .non => some false
  | some (.bl _) => some (t = .bool ∨ t = .int)
  | some (.int _) => some (t = .int)
  | some (.str _) => some (t = .str)
  | some (.tup _) => some (t = .tuple)
  | some (.lst _) => some (t = .list)
  | some (.dk _ _) => some (t = .dict)
  | some (.dt _ _) => some (t = .dict)
  | _ => none

/-! ### walks -/
def rgn (a b : Int) : List U := (List.range (b - a).toNat).map fun (k : Nat) => U.int (a + k)
def enum (xs : List U) : List U := ((List.range xs.length).zip xs).map fun p => .tup [.int (p.1 : Nat), p.2]
def zips (xs ys : List U) : List U := (xs.zip ys).map fun p => .tup [p.1, p.2]
/-- the items, or a mutable list that is walked as it stands -/
def walk (μ : Mu) : Ik → List U → Option (List U ⊕ Nat)
  | .ex, [.tup xs] => some (.inl xs)
  | .ex, [.lst xs] => some (.inl xs)
  | .ex, [.str x] => some (.inl (x.cps.toList.map fun c => .str ⟨#[c]⟩))
  | .ex, [.ob i] => match μ[i]? with
    | some (.lst _) => some (.inr i)
    | _ => none
  | .ex, [.scr ns] => some (.inl (ns.map U.int))
  | .rng, [.int b] => if -(2 ^ 62) ≤ b ∧ b < 2 ^ 62 then some (.inl (rgn 0 b)) else none
  | .rng, [.int a, .int b] => if -(2 ^ 62) ≤ a ∧ a < 2 ^ 62 ∧ -(2 ^ 62) ≤ b ∧ b < 2 ^ 62 then some (.inl (rgn a b)) else none
  | .enm, [.lst xs] => some (.inl (enum xs))
  | .enm, [.tup xs] => some (.inl (enum xs))
  | .zip, [.lst xs, .lst ys] => some (.inl (zips xs ys))
  | .zip, [.tup xs, .tup ys] => some (.inl (zips xs ys))
  | _, _ => none

def pairKV : U → Option (U × U)
  | .tup [k, v] => some (k, v)
  | _ => none
def pairUp : List U → Option (List (U × U))
  | [] => some []
  | k :: v :: r => match pairUp r with
    | some ps => some ((k, v) :: ps)
    | none => none
  | _ => none
def mergeU (tk : Bool) : List (U × U) → U → Option U
  | [], o => some o
  | p :: ps, o => match dput o p.1 p.2 with
    | some o' => mergeU tk ps o'
    | none => none
def srtd (μ : Mu) (xs : List U) : Option (List U) :=
  match mapO (dat μ D0) xs with
  | some ds => if ds.all (fun d => ds.all fun e => PySem.W.alike d e) && (ds.all (fun d => match d with | .tuple (_ :: _) => true | _ => false) || ds.all (fun d => match d with | .tuple _ => false | .none => false | _ => true)) && decide (ds.length ≤ SZ)
    then some (((xs.zip ds).mergeSort (PySem.W.dataLe false Prod.snd)).map (·.1)) else none
  | none => none
def keyU : Key → U
  | .inl i => .int i
  | .inr x => .str x
def keysU (k : List Key) : U := .tup (k.map keyU)
/-- list(d.items()) -/
def itmU (μ : Mu) (u : U) : Option (List U) :=
  match cont μ u with
  | some (.dk ks vs) => some ((ks.zip vs).map fun p => .tup [keyU p.1, p.2])
  | _ => none
/-- the items for a collector -/
def items (μ : Mu) (c : Cl) (ik : Ik) (us : List U) : Option (List U) :=
  match c, ik, us with
  | .list, .ex, [.scr ns] => some (ns.map U.int)
  | .tuple, .ex, [.scr ns] => some (ns.map U.int)
  | .dict _, .ex, [u] => asL μ u
  | .tuple, .ex, [u] => asS μ u
  | .list, .rng, [.int b] => if -(2 ^ 62) ≤ b ∧ b ≤ 2 ^ 24 then some (rgn 0 b) else none
  | .tuple, .rng, [.int b] => if -(2 ^ 62) ≤ b ∧ b ≤ 2 ^ 24 then some (rgn 0 b) else none
  | .list, .rng, [.int a, .int b] => if -(2 ^ 62) ≤ a ∧ a < 2 ^ 62 ∧ -(2 ^ 62) ≤ b ∧ b < 2 ^ 62 ∧ (b - a).toNat ≤ 2 ^ 24 then some (rgn a b) else none
  | .tuple, .rng, [.int a, .int b] => if -(2 ^ 62) ≤ a ∧ a < 2 ^ 62 ∧ -(2 ^ 62) ≤ b ∧ b < 2 ^ 62 ∧ (b - a).toNat ≤ 2 ^ 24 then some (rgn a b) else none
  | _, .ex, [u] => match asS μ u with
    | some xs => some xs
    | none => match cont μ u with
      | some (.dk ks _) => some (ks.map keyU)
      | some (.dt ks _) => some (ks.map keysU)
      | _ => none
  | _, _, _ => none
def evCol (al : Bool) (μ : Mu) (c : Cl) (xs : List U) : Option (U × Mu) :=
  match c with
  | .list => some (fresh al (.lst xs) μ)
  | .tuple => some (.tup xs, μ)
  | .sorted => match srtd μ xs with
    | some ys => some (fresh al (.lst ys) μ)
    | none => none
  | .dict false => match mapO pairKV xs with
    | some ps => (match mergeU false ps (.dk [] []) with
      | some o => some (fresh al o μ)
      | none => none)
    | none => none
  | .dict true => match mapO pairKV xs with
    | some ps => (match mergeU true ps (.dt [] []) with
      | some o => some (fresh al o μ)
      | none => none)
    | none => none

mutual
def bindP (μ : Mu) : Pt → U → Env → Option Env
  | .slot i, u, σ => some (σ.set i (some u))
  | .tup ps, .tup us, σ => if ps.length = us.length then bindPs μ ps us σ else none
  | .tup _, _, _ => none
def bindPs (μ : Mu) : List Pt → List U → Env → Option Env
  | [], [], σ => some σ
  | p :: ps, u :: us, σ => match bindP μ p u σ with
    | some σ' => bindPs μ ps us σ'
    | none => none
  | _, _, _ => none
end
def wipeE (σ : Env) : List Nat → Env
  | [] => σ
  | v :: vs => (wipeE σ vs).set v none
/-- a mutable one is written: an elder frame's takes no mutable one -/
def okw (n0 i : Nat) (u : U) : Bool := decide (n0 ≤ i) || nomut u
def evMe (n0 : Nat) (al : Bool) (μ : Mu) : Mt → U → List U → Option (U × Mu)
  | .append, .ob i, [u] => match μ[i]? with
    | some (.lst xs) => if xs.length < SZ ∧ okw n0 i u = true then some (.non, μ.set i (.lst (xs ++ [u]))) else none
    | _ => none
  | .pop0, .ob i, [] => match μ[i]? with
    | some (.lst xs) => match xs[xs.length - 1]? with
      | some u => some (u, μ.set i (.lst xs.dropLast))
      | none => none
    | _ => none
  | .pop1, .ob i, [.int j] => match μ[i]? with
    | some (.lst xs) => if -(2 ^ 63) ≤ j ∧ j < 2 ^ 63 then (match L2.ixN xs.length j with
      | some k => match xs[k]? with
        | some u => some (u, μ.set i (.lst (xs.eraseIdx k)))
        | none => none
      | none => none) else none
    | _ => none
  | .get2, d, [k, x] => match dget μ d k with
    | some o => some (o.getD x, μ)
    | none => none
  | _, _, _ => none

/-- what a method may be asked of -/
def okm (μ : Mu) (m : Mt) (u : U) : Bool :=
  match m with
  | .append | .pop0 | .pop1 | .index | .count => (asL μ u).isSome
  | .get2 => match cont μ u with
    | some (.dk _ _) => true
    | some (.dt _ _) => true
    | _ => false

/-- a comprehension's turns -/
def compL (step : U → Mu → Option (Option U × Mu)) : List U → List U → Mu → Option (List U × Mu)
  | [], acc, μ => some (acc, μ)
  | x :: xs, acc, μ => match step x μ with
    | some (some y, μ') => if acc.length < SZ then compL step xs (acc ++ [y]) μ' else none
    | some (none, μ') => compL step xs acc μ'
    | none => none
/-- over a mutable list as it stands -/
def compV (step : U → Mu → Option (Option U × Mu)) (i : Nat) : Nat → Nat → List U → Mu → Option (List U × Mu)
  | 0, _, _, _ => none
  | f + 1, k, acc, μ => match μ[i]? with
    | some (.lst xs) => match xs[k]? with
      | none => some (acc, μ)
      | some x => match step x μ with
        | some (some y, μ') => if acc.length < SZ then compV step i f (k + 1) (acc ++ [y]) μ' else none
        | some (none, μ') => compV step i f (k + 1) acc μ'
        | none => none
    | _ => none
def FU : Nat := 100000000

variable (cal : Nat → List U → Mu → Option (U × Mu)) (n0 : Nat)
mutual
def evalE : E → Env → Mu → Option (U × Mu)
  | .var i, σ, μ => match σ[i]? with
    | some (some u) => some (u, μ)
    | _ => none
  | .non, _, μ => some (.non, μ)
  | .bl b, _, μ => some (.bl b, μ)
  | .int i, _, μ => some (.int i, μ)
  | .str x, _, μ => some (.str x, μ)
  | .gint i, _, μ => some (.int i, μ)
  | .fnv f, _, μ => some (.fn f, μ)
  | .tup es, σ, μ => match evalL es σ μ with
    | some (us, μ) => if us.length ≤ SZ then some (.tup us, μ) else none
    | none => none
  | .lst al es, σ, μ => match evalL es σ μ with
    | some (us, μ) => if us.length ≤ SZ then some (fresh al (.lst us) μ) else none
    | none => none
  | .dct al tk es, σ, μ => match evalL es σ μ with
    | some (us, μ) => match pairUp us with
      | some ps => if ps.length ≤ 15 then (match mergeU tk ps (if tk then .dt [] [] else .dk [] []) with
        | some o => some (fresh al o μ)
        | none => none) else none
      | none => none
    | none => none
  | .bin al op a b, σ, μ => match evalE a σ μ with
    | some (u, μ) => match evalE b σ μ with
      | some (v, μ) => evBin al μ op u v
      | none => none
    | none => none
  | .neg a, σ, μ => match evalE a σ μ with
    | some (.int i, μ) => some (.int (-i), μ)
    | _ => none
  | .cmp op a b, σ, μ => match evalE a σ μ with
    | some (u, μ) => match evalE b σ μ with
      | some (v, μ) => match evCmp μ op u v with
        | some c => some (.bl c, μ)
        | none => none
      | none => none
    | none => none
  | .chain op op' a b c, σ, μ => match evalE a σ μ with
    | some (u, μ) => match evalE b σ μ with
      | some (v, μ) => match evCmp μ op u v with
        | some false => some (.bl false, μ)
        | some true => match evalE c σ μ with
          | some (w, μ) => match evCmp μ op' v w with
            | some d => some (.bl d, μ)
            | none => none
          | none => none
        | none => none
      | none => none
    | none => none
  | .bool and es, σ, μ => evalB and es σ μ
  | .not a, σ, μ => match evalE a σ μ with
    | some (u, μ) => match truth μ u with
      | some b => some (.bl !b, μ)
      | none => none
    | none => none
  | .ite c a b, σ, μ => match evalE c σ μ with
    | some (u, μ) => match truth μ u with
      | some true => evalE a σ μ
      | some false => evalE b σ μ
      | none => none
    | none => none
  | .idx a i, σ, μ => match evalE a σ μ with
    | some (u, μ) => match evalE i σ μ with
      | some (v, μ) => match evIdx μ u v with
        | some w => some (w, μ)
        | none => none
      | none => none
    | none => none
  | .slc al a lo hi, σ, μ => match evalE a σ μ with
    | some (u, μ) => match evalE lo σ μ with
      | some (l, μ) => match evalE hi σ μ with
        | some (h, μ) => evSlc al μ u l h
        | none => none
      | none => none
    | none => none
  | .rev al a, σ, μ => match evalE a σ μ with
    | some (u, μ) => evRev al μ u
    | none => none
  | .comp al p ik its c e ws, σ, μ => match evalL its σ μ with
    | some (us, μ) => match walk μ ik us with
      | some (.inl xs) => match compL (fun x μ => match bindP μ p x (wipeE σ ws) with
          | some σ' => match evalE c σ' μ with
            | some (t, μ) => match truth μ t with
              | some true => match evalE e σ' μ with
                | some (y, μ) => some (some y, μ)
                | none => none
              | some false => some (none, μ)
              | none => none
            | none => none
          | none => none) xs [] μ with
        | some (ys, μ) => some (fresh al (.lst ys) μ)
        | none => none
      | some (.inr i) => match compV (fun x μ => match bindP μ p x (wipeE σ ws) with
          | some σ' => match evalE c σ' μ with
            | some (t, μ) => match truth μ t with
              | some true => match evalE e σ' μ with
                | some (y, μ) => some (some y, μ)
                | none => none
              | some false => some (none, μ)
              | none => none
            | none => none
          | none => none) i FU 0 [] μ with
        | some (ys, μ) => some (fresh al (.lst ys) μ)
        | none => none
      | none => none
    | none => none
  | .col al c ik its, σ, μ => match evalL its σ μ with
    | some (us, μ) => match items μ c ik us with
      | some xs => evCol al μ c xs
      | none => none
    | none => none
  | .call f es, σ, μ => match evalL es σ μ with
    | some (us, μ) => cal f us μ
    | none => none
  | .bi b es, σ, μ => match evalL es σ μ with
    | some (us, μ) => match evBi μ b us with
      | some u => some (u, μ)
      | none => none
    | none => none
  | .isi e t, σ, μ => match evalE e σ μ with
    | some (u, μ) => match evIsi μ u t with
      | some b => some (.bl b, μ)
      | none => none
    | none => none
  | .me al m a es, σ, μ => match evalE a σ μ with
    | some (u, μ) => match okm μ m u with
      | true => match evalL es σ μ with
        | some (us, μ) => evMe n0 al μ m u us
        | none => none
      | false => none
    | none => none
  | .itms a, σ, μ => match evalE a σ μ with
    | some (u, μ) => match itmU μ u with
      | some xs => some (.lst xs, μ)
      | none => none
    | none => none
  | .sset al a, σ, μ => match evalE a σ μ with
    | some (u, μ) => match intT μ u with
      | some ns => if ns.length < 64 then some (fresh al (.lst ((ssrt ns).map U.int)) μ) else none
      | none => none
    | none => none
  | .lset a, σ, μ => match evalE a σ μ with
    | some (u, μ) => match intT μ u with
      | some ns => if ns.length < 1000 then some (.int (ssrt ns).length, μ) else none
      | none => none
    | none => none
def evalL : List E → Env → Mu → Option (List U × Mu)
  | [], _, μ => some ([], μ)
  | e :: es, σ, μ => match evalE e σ μ with
    | some (u, μ) => match evalL es σ μ with
      | some (us, μ) => some (u :: us, μ)
      | none => none
    | none => none
def evalB (and : Bool) : List E → Env → Mu → Option (U × Mu)
  | [], _, _ => none
  | [e], σ, μ => evalE e σ μ
  | e :: e2 :: es, σ, μ => match evalE e σ μ with
    | some (u, μ) => match truth μ u with
      | some b => if b = and then evalB and (e2 :: es) σ μ else some (u, μ)
      | none => none
    | none => none
end

inductive Out where
  | nx (σ : Env) (μ : Mu) | rt (u : U) (μ : Mu) | bk (σ : Env) (μ : Mu) | ct (σ : Env) (μ : Mu)

def forL (step : U → Env → Mu → Option Out) : List U → Env → Mu → Option Out
  | [], σ, μ => some (.nx σ μ)
  | x :: xs, σ, μ => match step x σ μ with
    | some (.nx σ μ) => forL step xs σ μ
    | some (.ct σ μ) => forL step xs σ μ
    | some (.bk σ μ) => some (.nx σ μ)
    | o => o
def forV (step : U → Env → Mu → Option Out) (i : Nat) : Nat → Nat → Env → Mu → Option Out
  | 0, _, _, _ => none
  | f + 1, k, σ, μ => match μ[i]? with
    | some (.lst xs) => match xs[k]? with
      | none => some (.nx σ μ)
      | some x => match step x σ μ with
        | some (.nx σ μ) => forV step i f (k + 1) σ μ
        | some (.ct σ μ) => forV step i f (k + 1) σ μ
        | some (.bk σ μ) => some (.nx σ μ)
        | o => o
    | _ => none
def whL (cond : Env → Mu → Option (Bool × Mu)) (body : Env → Mu → Option Out) : Nat → Env → Mu → Option Out
  | 0, _, _ => none
  | f + 1, σ, μ => match cond σ μ with
    | some (true, μ) => match body σ μ with
      | some (.nx σ μ) => whL cond body f σ μ
      | some (.ct σ μ) => whL cond body f σ μ
      | some (.bk σ μ) => some (.nx σ μ)
      | o => o
    | some (false, μ) => some (.nx σ μ)
    | none => none
def storeSub (n0 : Nat) (μ : Mu) (a i u : U) : Option Mu :=
  match a with
  | .ob k => match μ[k]? with
    | some (.lst xs) => match i with
      | .int j => match L2.ixN xs.length j with
        | some q => if okw n0 k u then some (μ.set k (.lst (xs.set q u))) else none
        | none => none
      | _ => none
    | some o => match dput o i u with
      | some o' => if okw n0 k u then some (μ.set k o') else none
      | none => none
    | none => none
  | _ => none
/-- a[i] = u -/
def storeTo (a i : E) (u : U) (σ : Env) (μ : Mu) : Option Mu := match evalE cal n0 a σ μ with
  | some (d, μ) => match evalE cal n0 i σ μ with
    | some (j, μ) => storeSub n0 μ d j u
    | none => none
  | none => none
def bindI : List Nat → List U → Env → Option Env
  | [], [], σ => some σ
  | i :: is, u :: us, σ => bindI is us (σ.set i (some u))
  | _, _, _ => none

mutual
def exS : S → Env → Mu → Option Out
  | .set i e, σ, μ => match evalE cal n0 e σ μ with
    | some (u, μ) => some (.nx (σ.set i (some u)) μ)
    | none => none
  | .par is es, σ, μ => match evalL cal n0 es σ μ with
    | some (us, μ) => match bindI is us σ with
      | some σ => some (.nx σ μ)
      | none => none
    | none => none
  | .asg p e, σ, μ => match evalE cal n0 e σ μ with
    | some (u, μ) => match bindP μ p u σ with
      | some σ => some (.nx σ μ)
      | none => none
    | none => none
  | .sub a i e, σ, μ => match evalE cal n0 e σ μ with
    | some (u, μ) => match evalE cal n0 a σ μ with
      | some (d, μ) => match evalE cal n0 i σ μ with
        | some (j, μ) => match storeSub n0 μ d j u with
          | some μ => some (.nx σ μ)
          | none => none
        | none => none
      | none => none
    | none => none
  | .asg2 a i a' i' e, σ, μ => match evalE cal n0 e σ μ with
    | some (u, μ) => match storeTo cal n0 a i u σ μ with
      | some μ => match storeTo cal n0 a' i' u σ μ with
        | some μ => some (.nx σ μ)
        | none => none
      | none => none
    | none => none
  | .sub2 a i a' i' e e', σ, μ => match evalE cal n0 e σ μ with
    | some (u, μ) => match evalE cal n0 e' σ μ with
      | some (u', μ) => match storeTo cal n0 a i u σ μ with
        | some μ => match storeTo cal n0 a' i' u' σ μ with
          | some μ => some (.nx σ μ)
          | none => none
        | none => none
      | none => none
    | none => none
  | .ex e, σ, μ => match evalE cal n0 e σ μ with
    | some (_, μ) => some (.nx σ μ)
    | none => none
  | .ret e, σ, μ => match evalE cal n0 e σ μ with
    | some (u, μ) => some (.rt u μ)
    | none => none
  | .iff c t f, σ, μ => match evalE cal n0 c σ μ with
    | some (u, μ) => match truth μ u with
      | some true => exL t σ μ
      | some false => exL f σ μ
      | none => none
    | none => none
  | .for_ p ik its b, σ, μ => match evalL cal n0 its σ μ with
    | some (us, μ) => match walk μ ik us with
      | some (.inl xs) => forL (fun x σ μ => match bindP μ p x σ with
        | some σ => exL b σ μ
        | none => none) xs σ μ
      | some (.inr i) => forV (fun x σ μ => match bindP μ p x σ with
        | some σ => exL b σ μ
        | none => none) i FU 0 σ μ
      | none => none
    | none => none
  | .wh c b, σ, μ => whL (fun σ μ => match evalE cal n0 c σ μ with
      | some (u, μ) => match truth μ u with
        | some t => some (t, μ)
        | none => none
      | none => none) (fun σ μ => exL b σ μ) FU σ μ
  | .pass, σ, μ => some (.nx σ μ)
  | .brk, σ, μ => some (.bk σ μ)
  | .cont, σ, μ => some (.ct σ μ)
  | .stuck, _, _ => none
def exL : List S → Env → Mu → Option Out
  | [], σ, μ => some (.nx σ μ)
  | s :: ss, σ, μ => match exS s σ μ with
    | some (.nx σ μ) => exL ss σ μ
    | o => o
end

/-- a def: the number of its parameters, of its slots, its body, whether what it hands back stays mutable -/
structure Df where
  ps : Nat
  ns : Nat
  body : List S
  keep : Bool
def finish (keep : Bool) (n0 : Nat) (u : U) (μ : Mu) : Option (U × Mu) :=
  if keep then some (u, μ) else match frz n0 μ D0 u with
    | some v => some (v, μ.take n0)
    | none => none
def runF (defs : List Df) : Nat → Nat → List U → Mu → Option (U × Mu)
  | 0, _, _, _ => none
  | k + 1, f, us, μ => match defs[f]? with
    | some d => if us.length = d.ps then (match exL (runF defs k) μ.length d.body (us.map some ++ List.replicate (d.ns - d.ps) none) μ with
      | some (.rt u μ') => finish d.keep μ.length u μ'
      | some (.nx _ μ') => finish d.keep μ.length .non μ'
      | _ => none) else none
    | none => none
end R

set_option Elab.async false
set_option linter.all false
set_option maxRecDepth 100000
set_option maxHeartbeats 4000000
/-! R3v: a tuple turned over, enumerate over a tuple -/
namespace R
open PySem PySem.Spec PyProof.Rows L2

section
variable {prog : Program} {w : World} {A : Around} {E : Value → Shared → Prop} {s : Shared}
theorem places_back (n : Nat) : Builtin.Slice.slicePlaces ((n : Int) - 1) (-1) (-1) = n := by
  unfold Builtin.Slice.slicePlaces
  rw [if_neg (by decide)]
  split
  · rw [show (- -1 : Int) = 1 from rfl, Int.ediv_one]; omega
  · omega
theorem adjust_back (n : Nat) : Builtin.Slice.sliceAdjust none none (-1) (n : Int) = ((n : Int) - 1, -1) := rfl
theorem applied_back {sl : Addr} {vl vu vs : Value} {n : Nat} {Q : Int × Int × Nat → Shared → Prop} (hs : s.heap.IsSliceOf sl vl vu vs) (pl : IsPart vl none) (pu : IsPart vu none) (ps : IsPart vs (some (-1)))
    (h : Q ((n : Int) - 1, -1, n) s) : wpAny (model prog w) A (Builtin.Slice.sliceApplied (.ref sl) (pure (n : Int))) Q E s := by
  obtain ⟨ob, hob, hco, hda⟩ := id hs
  unfold Builtin.Slice.sliceApplied Builtin.Slice.sliceFields
  refine wpAny_bind (wpAny_bind (wpAny_field hob hda (x := vl) rfl (wpAny_bind (wpAny_field hob hda (x := vu) rfl (wpAny_bind (wpAny_field hob hda (x := vs) rfl (wpAny_pure ?_)))))))
  refine wpAny_bind (HT.slicePart_ ps ?_)
  show wpAny _ _ (if ((-1 : Int) == 0) = true then _ else _) _ _ s
  rw [if_neg (by decide)]
  refine wpAny_bind (HT.slicePart_ pl (wpAny_bind (HT.slicePart_ pu (wpAny_bind (wpAny_pure ?_)))))
  show wpAny _ _ (pure ((n : Int) - 1, (-1 : Int), Builtin.Slice.slicePlaces ((n : Int) - 1) (-1) (-1))) _ _ s
  rw [places_back]
  exact wpAny_pure h
theorem fm_congr {α β : Type} {f g : α → Option β} : ∀ (l : List α), (∀ k ∈ l, f k = g k) → l.filterMap f = l.filterMap g
  | [], _ => rfl
  | a :: l, h => by
    rw [List.filterMap_cons, List.filterMap_cons, h a (by simp), fm_congr l fun k hk => h k (by simp [hk])]
theorem pick_back (xs : Array Value) : ((List.range xs.size).filterMap fun (k : Nat) => xs[((xs.size : Int) - 1 + (k : Int) * (-1)).toNat]?).toArray = xs.toList.reverse.toArray := by
  have e : (List.range xs.size).filterMap (fun (k : Nat) => xs[((xs.size : Int) - 1 + (k : Int) * (-1)).toNat]?) = ((List.range xs.size).map (fun k => xs.size - 1 - k)).filterMap (xs[·]?) := by
    rw [List.filterMap_map]
    refine fm_congr _ fun k hk => ?_
    have h1 := List.mem_range.mp hk
    have h2 : ((xs.size : Int) - 1 + (k : Int) * (-1)).toNat = xs.size - 1 - k := by omega
    rw [h2]; rfl
  rw [e, PySem.W.krv_range, List.filterMap_reverse, PySem.W.krv_all]
theorem getItem_tuple_back {t sl : Addr} {items : Array Value} {vl vu vs : Value} {Q : Value → Shared → Prop} (ht : IsTup s.heap t items) (hs : s.heap.IsSliceOf sl vl vu vs) (pl : IsPart vl none) (pu : IsPart vu none) (ps : IsPart vs (some (-1)))
    (h : Q (.ref s.heap.objs.size) { s with heap := s.heap.push { cls := .type "tuple", data := .seq items.toList.reverse.toArray } }) (hsz : items.size ≤ sizeLine) : wpAny (model prog w) A (getItem (.ref t) (.ref sl)) Q E s := by
  have hok : sizeOk (.seq items.toList.reverse.toArray) := by
    show items.toList.reverse.toArray.size ≤ sizeLine
    rw [List.size_toArray, List.length_reverse, Array.length_toList]; exact hsz
  obtain ⟨ob, hob, hco, hda⟩ := id hs
  have hty : s.TypeIs (.ref sl) "slice" := ⟨ob, hob, hco⟩
  unfold getItem
  first
    | (with_reducible refine wpAny_holding ?_)
    | skip
  first
    | (refine wpAny_bind (wpAny_pure ?_))
    | skip
  refine wpAny_bind (wpAny_sequenceKey ht.typeIs (by decide) ?_)
  refine wpAny_bind (wpAny_callSpecial?_slot (name := Str.ofString "__getitem__") ht.typeIs PyProof.Rows.slot_tuple_getitem (wpAny_call_entry PyProof.Rows.slot_tuple_getitem ht.typeIs entry_tuple_getitem ?_ (args_tuple_getitem _ _)))
  show wpAny _ _ (Builtin.Tuple.tupleItemsOf (.ref t) >>= _) _ _ s
  refine wpAny_bind (tupleItemsOf_ ht (wpAny_bind (wpAny_typeOf hty ?_)))
  rw [if_pos (by decide)]
  refine wpAny_bind (applied_back hs pl pu ps ?_)
  have hno : ¬ ((((items.size : Int) - 1) == 0 && (-1 : Int) == 1 && items.size == items.size) = true) := by
    rw [Bool.and_eq_true, Bool.and_eq_true]; rintro ⟨⟨_, z⟩, _⟩; cases z
  show wpAny _ _ (if (((items.size : Int) - 1) == 0 && (-1 : Int) == 1 && items.size == items.size) = true then _ else _) _ _ s
  rw [if_neg hno, pick_back]
  first
    | exact wpAny_bind (m := Builtin.Tuple.tupleExact _) (wpAny_newObj_type (wpAny_pure ⟨_, rfl, wpAny_pure h⟩) hok)
    | exact wpAny_bind (m := Builtin.Tuple.tupleExact _) (wpAny_newObj_type (wpAny_bind (wpAny_pure (wpAny_pure ⟨_, rfl, wpAny_pure h⟩))) hok)
    | exact wpAny_bind (wpAny_bind (m := Builtin.Tuple.tupleExact _) (wpAny_newObj_type (wpAny_pure (wpAny_pure ⟨_, rfl, wpAny_pure h⟩)) hok))
    | exact wpAny_bind (wpAny_bind (m := Builtin.Tuple.tupleExact _) (wpAny_newObj_type (wpAny_pure ⟨_, rfl, wpAny_pure h⟩) hok))
end
/-- xs[::-1], a list or a tuple -/
def tRevA (K : PySem.W.Frag) (te : TE) : TE := fun σ H Q => te σ H fun x H1 => ∃ (a : Addr) (xs : List V), x = .ref a ∧ ((SqL K H1 a xs ∧ ∀ p, H1 p = none → Q (.ref p) (upd H1 p (.lst xs.reverse))) ∨ (SqT K H1 a xs ∧ ∀ p, H1 p = none → Q (.ref p) (upd H1 p (.tup xs.reverse))))
theorem pe_revA {X : Cx} {e : Expr} {te : TE} {k : Nat} {p1 p2 p3 pos : Pos} (he : PE X e te) : PE X (.Subscript e (.Slice none none (some (.UnaryOp .USub (.Constant (.int 1) k p1) p2)) p3) pos) (tRevA X.K te) := by
  refine ⟨fun pins s σ H Q I h => Subscript_ (thn (he.run pins s σ H _ I h) fun v s1 ⟨x, H1, I1, r1, a, xs, ex, q1⟩ => ?_)⟩
  subst ex
  cases r1
  have hst : PO X (some (.UnaryOp .USub (.Constant (.int 1) k p1) p2)) (tPart (tUn (rU fun i => .int (-i)) (tC (.int 1)))) := po_some (pe_un un_neg pe_int)
  refine wpAny_Slice (thn (po_none.run pins s1 σ H1 (fun o H2 => o = none ∧ H2 = H1) I1 ⟨rfl, rfl⟩) fun vl s2 ⟨l, H2, I2, pl, eo1, eh1⟩ => ?_)
  subst eo1 eh1
  refine thn (po_none.run pins s2 σ H2 (fun o H3 => o = none ∧ H3 = H2) I2 ⟨rfl, rfl⟩) fun vu s3 ⟨u, H3, I3, pu, eo2, eh2⟩ => ?_
  subst eo2 eh2
  refine thn (hst.run pins s3 σ H3 (fun o H4 => o = some (-1) ∧ H4 = H3) I3 ⟨1, rfl, -1, rfl, rfl, rfl⟩) fun vs s4 ⟨o, H4, I4, ps, eo3, eh3⟩ => ?_
  subst eo3 eh3
  have J : Inv X pins σ H4 { s4 with heap := s4.heap.push { cls := .type "slice", data := .fields #[vl, vu, vs] } } := I4.kept (t' := s4.toks) fun _ _ z => Heap.get?_push_of_some _ z
  show wpAny (model X.prog X.w) X.A (subscriptTail e (.Slice none none (some (.UnaryOp .USub (.Constant (.int 1) k p1) p2)) p3) (.ref a) (.ref s4.heap.objs.size)) (EP X pins σ Q) X.xe { s4 with heap := s4.heap.push { cls := .type "slice", data := .fields #[vl, vu, vs] } }
  rcases q1 with ⟨hx, q⟩ | ⟨hx, q⟩
  · obtain ⟨its, r, ht, hz⟩ := J.list hx
    have hln := r.length
    refine tail_any (ops := [.ref a, .ref s4.heap.objs.size]) ht.isList.typeIs (PySem.slot_list_getitem.lookup) ?_ (by with_unfolding_all rfl)
    refine wpAny_getItem_list_slice ht.isList (Heap.IsSliceOf.new _ vl vu vs) pl pu ps (by decide) ?_ (by rw [List.size_toArray]; omega)
    rw [PySem.W.krv_pick]
    refine ⟨.ref _, _, J.laid (t' := s4.toks) (o := .lst xs.reverse) (fun _ _ z => Heap.get?_push_of_some _ z) (Nat.le_refl _) ?_, rfl, q _ (J.hok.fresh (Nat.le_refl _))⟩
    exact ⟨by rw [List.length_reverse]; exact hz, _, 0, r.reverse, Heap.get?_push_size _ rfl⟩
  · obtain ⟨its, r, ht, hz⟩ := J.tuple hx
    have hln := r.length
    refine tail_any (ops := [.ref a, .ref s4.heap.objs.size]) ht.typeIs PyProof.Rows.slot_tuple_getitem.lookup ?_ (by with_unfolding_all rfl)
    refine getItem_tuple_back ht (Heap.IsSliceOf.new _ vl vu vs) pl pu ps ?_ (by rw [List.size_toArray]; omega)
    refine ⟨.ref _, _, J.laid (t' := s4.toks) (o := .tup xs.reverse) (fun _ _ z => Heap.get?_push_of_some _ z) (Nat.le_refl _) ?_, rfl, q _ (J.hok.fresh (Nat.le_refl _))⟩
    exact ⟨by rw [List.length_reverse]; exact hz, _, r.reverse, IsTup.new _ _⟩

/-! ### enumerate over a tuple -/
set_option maxHeartbeats 1000000 in
theorem meets_enum1 {v : Value} {o : Obj} {H : Heap → Prop} (B : Begins v o H) :
    Meets (Builtin.«enumerate.__new__» ⟨[.type "enumerate", v], []⟩) (fun _ R s => H s.heap ∧
      R (.ok (.ret (.ref (s.heap.push o).objs.size))) { s with heap := (s.heap.push o).push { cls := .type "enumerate", data := .fields #[.none, .bool false, .ref s.heap.objs.size, rawInt 0, .none, .none] } }) :=
  .of_wp fun prog w A R s h => by
    obtain ⟨hp, g, d, tk, os⟩ := s
    obtain ⟨h1, h⟩ := h
    have hsub := sub_enumerate
    have q1 : ∀ {A' : Around} {E : Value → Shared → Prop} {Q : Value → Shared → Prop}, Q (.ref hp.objs.size) ⟨hp.push o, g, d, tk, os⟩ → wpAny (model prog w) A' (pyIter v) Q E ⟨hp, g, d, tk, os⟩ := fun q => B.iter prog w _ _ ⟨hp, g, d, tk, os⟩ _ h1 q
    wp_walk using q1
    refine wpAny_stack_any fun st => wpAny_pure ?_
    split
    · rename_i c _ _ _ _ _
      cases (c == Value.type "enumerate") <;> (wp_walk using q1; exact ⟨_, rfl, h⟩)
    · wp_walk using q1
      exact ⟨_, rfl, h⟩
section
variable {prog : Program} {w : World} {A : Around} {E : Value → Shared → Prop} {s : Shared}
theorem enum1_begins {v : Value} {o : Obj} {H : Heap → Prop} {Q : Value → Shared → Prop} (B : Begins v o H) (h1 : H s.heap)
    (h : ∀ h', IsEnum h' (s.heap.objs.size + 1) s.heap.objs.size 0 .none → h'.get? s.heap.objs.size = some o → (∀ b o, s.heap.get? b = some o → h'.get? b = some o) → Q (.ref (s.heap.objs.size + 1)) { s with heap := h' }) :
    wpAny (model prog w) A (call (.type "enumerate") [v]) Q E s := by
  refine callType_new F.called_enumerate (by decide) (F.typeCall_enumerate_1 _) (F.newCall_enumerate_1 _) (fun obj => F.args_object_init_2 obj _) F.entry_enumerate_new (meets_enum1 B) ⟨h1, ?_⟩
  have hz : (s.heap.push o).objs.size = s.heap.objs.size + 1 := Heap.size_push ..
  show _ ∧ _
  rw [hz]
  have he : IsEnum ((s.heap.push o).push { cls := .type "enumerate", data := .fields #[.none, .bool false, .ref s.heap.objs.size, rawInt 0, .none, .none] }) (s.heap.objs.size + 1) s.heap.objs.size 0 .none := by
    have z := Heap.get?_push_size (s.heap.push o) (o := { cls := .type "enumerate", data := .fields #[.none, .bool false, .ref s.heap.objs.size, rawInt 0, .none, .none] }) rfl
    rw [hz] at z
    exact z
  exact ⟨⟨_, he, rfl⟩, h _ he (Heap.get?_push_of_some _ (Heap.get?_push_size _ B.free)) fun _ _ z => Heap.get?_push_of_some _ (Heap.get?_push_of_some _ z)⟩
theorem enum_endT {e it t : Addr} {i : Nat} {c : Int} {items : Array Value} {old : Value} {Q : Option Value → Shared → Prop} (hh : A.handled = none) (he : IsEnum s.heap e it c old) (hit : s.heap.IsTupleIter it t i) (ht : s.heap.IsTuple t items) (hx : items[i]? = none)
    (hQ : ∀ h', Heap.ExtBut it s.heap h' → Q none { s with heap := h' }) : wpAny (model prog w) A (pyNext (.ref e)) Q E s := by
  have hty : s.TypeIs (.ref e) "enumerate" := ⟨_, he, rfl⟩
  unfold pyNext
  refine wpAny_bind (wpAny_attempt (wpAny_callSpecial?_slot (name := Str.ofString "__next__") hty F.slot_enumerate_next (wpAny_call_entry F.slot_enumerate_next hty F.entry_enumerate_next ?_ (F.args_enumerate_next_1 _))))
  show wpAny _ _ (field (.ref e) 2 >>= _) _ _ _
  refine wpAny_bind (wpAny_field he rfl (x := .ref it) rfl (wpAny_bind (wpAny_nextOf_tuple_end hh hit ht hx fun h' x he' hx' => ?_)))
  obtain ⟨ob, hob, hco⟩ := hx'
  exact wpAny_bind (wpAny_isInstance (T := "StopIteration") (b := true) ⟨ob, hob, hco⟩ isSubtype_stop (wpAny_pure (hQ _ he')))
end
/-- the tuple at a, the items in new pairs -/
def IteT (K : PySem.W.Frag) (a : Addr) : It :=
  ⟨fun i H => ∃ (xs : List V) (x : V), SqT K H a xs ∧ xs[i]? = some x,
    fun i H v H' => ∃ T x, v = .ref T ∧ H T = none ∧ H' = upd H T (.tup [.int (i : Nat), x]) ∧ ∀ xs, SqT K H a xs → xs[i]? = some x,
    fun i H => ∃ xs : List V, SqT K H a xs ∧ xs.length ≤ i⟩
theorem turn_enumT {P : Program} {w : World} {K : PySem.W.Frag} {elts : List Expr} {kk : Nat} {tpos : Pos} (a e it : Addr) :
    Turn P w K (.Tuple elts kk tpos) (IteT K a) [e, it] e (fun i h => (∃ old, IsEnum h e it ((i : Nat) : Int) old) ∧ h.IsTupleIter it a i ∧ e ≠ it) where
  mem := by simp
  obj := fun i h st b hb => by
    obtain ⟨⟨old, he⟩, ⟨o, ho, hc, hd⟩, _⟩ := st
    rcases (by simpa using hb : b = e ∨ b = it) with z | z
    · rw [z]; exact ⟨_, he, fun v q => nomatch q⟩
    · rw [z]; exact ⟨o, ho, fun v q => by rw [hd] at q; cases q⟩
  keep := fun i h h' st k => let ⟨⟨old, he⟩, hi, hne⟩ := st; ⟨⟨old, k e (by simp) _ he⟩, hi.at fun o q => k it (by simp) o q, hne⟩
  item := by
    intro X hP hw hK hc i pins s σ H E I hf st hg
    subst hP hw hK
    obtain ⟨⟨old, he⟩, hit, hne⟩ := st
    obtain ⟨xs, x, hq, hx⟩ := hg
    obtain ⟨its, rv, p, hz⟩ := I.tuple hq
    obtain ⟨u, hu, ru⟩ := rv.get hx
    have hel : e < s.heap.objs.size := Heap.lt_size he
    have hil : it < s.heap.objs.size := by obtain ⟨_, q, _⟩ := hit; exact Heap.lt_size q
    have hai : a ≠ it := fun z => by
      obtain ⟨o1, q1, q2, _⟩ := hit
      obtain ⟨o2, q3, q4, _⟩ := p
      rw [z, q1] at q3
      cases q3
      rw [q2] at q4
      injection q4 with z2
      exact absurd z2 (by decide)
    have hea : e ∉ [it, a] := fun z => by
      rcases (by simpa using z : e = it ∨ e = a) with z | z
      · exact hne z
      · obtain ⟨o2, q3, q4, _⟩ := p
        rw [← z, show s.heap.get? e = _ from he] at q3
        cases q3
        injection q4 with z2
        exact absurd z2 (by decide)
    have hi : i < its.toArray.size := by
      rw [List.size_toArray]
      exact (List.getElem?_eq_some_iff.mp hu).1
    refine wpAny_pyNext_enum_itemC (Draws.tuple (A := X.A.in1) (I.ok.hd hc) it a hai its.toArray) he (i := i) ⟨hit, p⟩ hi hne hea fun x' h' tk hP ho hst hT hsz hk => ?_
    have ex : x' = u := by
      have hP' : its[i]? = some x' := by simpa using hP
      rw [hu] at hP'
      exact (Option.some.inj hP').symm
    subst ex
    refine ⟨_, rfl, wpAny_letOwnedTupleGo_enum (s := { s with heap := h', toks := tk + 1 }) ho fun h'' he' sb => ?_⟩
    have hT2 : h''.get? s.heap.objs.size = some { cls := .type "tuple", data := .seq #[.int i tk, x'] } := (sb.2 _ (Nat.ne_of_gt hel)).trans hT
    have new : ObjOk X.prog X.w (upd H s.heap.objs.size (.tup [.int (i : Nat), x])) h'' s.heap.objs.size (.tup [.int (i : Nat), x]) := ⟨by show 2 ≤ sizeLine; decide, [.int i tk, x'], .cons ⟨_, rfl⟩ (.cons ru .nil), ⟨_, hT2, rfl, _, rfl⟩⟩
    have I1 : Inv X pins σ (upd H s.heap.objs.size (.tup [.int (i : Nat), x])) { s with heap := h'', toks := tk + 1 } :=
      I.turnedNew (ch := [e, it]) (fun b ob hb q => (sb.2 b (fun z => hb (by simp [z]))).trans (hk b ob (fun z => hb (by simp [z])) (fun z => hb (by simp [z])) q)) hf (Nat.le_refl _) new
    refine ⟨.ref s.heap.objs.size, _, I1, rfl, ⟨_, x, rfl, I.hok.fresh (Nat.le_refl _), rfl, fun ys hy => by rw [I.tuple_inj hy hq]; exact hx⟩, ⟨⟨x', ?_⟩, hst.1.at fun o q => (sb.2 it (Ne.symm hne)).trans q, hne⟩, fun b hb => ?_⟩
    · rw [show ((i + 1 : Nat) : Int) = (i : Int) + 1 by omega]
      exact he'
    · have hb' : b < s.heap.objs.size := by
        rcases (by simpa using hb : b = e ∨ b = it) with z | z
        · rw [z]; exact hel
        · rw [z]; exact hil
      rw [upd_ne (Nat.ne_of_lt hb')]
      exact (hf b hb).1
  done := by
    intro X hP hw hK hc i pins s σ H E I hf st hg
    subst hP hw hK
    obtain ⟨⟨old, he⟩, hit, hne⟩ := st
    obtain ⟨xs, hq, hx⟩ := hg
    obtain ⟨its, rv, p, hz⟩ := I.tuple hq
    obtain ⟨f0, f1, f2, f3, f4, f5⟩ := hf it (by simp)
    have hai : a ≠ it := fun z => by
      obtain ⟨o1, q1, q2, _⟩ := hit
      obtain ⟨o2, q3, q4, _⟩ := p
      rw [z, q1] at q3
      cases q3
      rw [q2] at q4
      injection q4 with z2
      exact absurd z2 (by decide)
    have hl := rv.length
    exact enum_endT (I.ok.hd hc) he hit p (by simp; omega) fun h' eb => ⟨rfl, I.turned (t' := s.toks) (fun b o hb q => eb b o hb q) f0 f1 f3 f4 f5⟩
  self := fun A i s Q E st h => let ⟨⟨_, he⟩, _⟩ := st; wpAny_pyIter_enum he h
def iEnumA (K : PySem.W.Frag) (ta : TA) : TI := fun σ H R => ta σ H fun vs H1 => ∃ (a : Addr) (xs : List V), vs = [.ref a] ∧ ((SqL K H1 a xs ∧ R (Ite K a) H1) ∨ (SqT K H1 a xs ∧ R (IteT K a) H1))
theorem pi_enumA {X : Cx} {e : Expr} {ta : TA} {p pos tpos : Pos} {elts : List Expr} {kk : Nat} (hg : Gl X "enumerate") (hm : X.mg "enumerate" = none) (ha : PA X [e] ta) (hs : starEach [e] X.env = [(false, eval e X.env)] := by rfl) :
    PI X (.Tuple elts kk tpos) (.Call (.Name "enumerate" p) [e] [] pos) (iEnumA X.K ta) := by
  refine ⟨fun pins s σ H R I h => Call_ (ld_blt I hg hm boot_enumerate (PyProof.Rows.callWith_type1 (thn (ha.run pos pins s σ H _ I h) fun us s1 ⟨vs, H1, I1, r1, a, xs, ex, q1⟩ => ?_) hs rfl))⟩
  subst ex
  have new : ∀ b ∈ [s1.heap.objs.size + 1, s1.heap.objs.size], FpOk X pins H1 b := fun b hb => by
    have hle : s1.heap.objs.size ≤ b := by
      rcases (by simpa using hb : b = s1.heap.objs.size + 1 ∨ b = s1.heap.objs.size) with z | z
      · rw [z]; exact Nat.le_add_right _ _
      · rw [z]; exact Nat.le_refl _
    exact I1.fpOk hle (I1.hok.fresh hle)
  cases r1 with
  | cons r rr =>
    cases rr
    cases r
    rcases q1 with ⟨hq, q⟩ | ⟨hq, q⟩
    · obtain ⟨its, rv, p', hz⟩ := I1.list hq
      refine call_enumerate_list p'.isList fun h' he hit hsz hk => wpAny_pyIter_enum he ?_
      exact ⟨s1.heap.objs.size + 1, [s1.heap.objs.size + 1, s1.heap.objs.size], _, _, H1, rfl, I1.kept (t' := s1.toks) hk, turn_enum a (s1.heap.objs.size + 1) s1.heap.objs.size, ⟨⟨.none, he⟩, hit, Nat.succ_ne_self _⟩, new, q⟩
    · obtain ⟨its, rv, p', hz⟩ := I1.tuple hq
      refine enum1_begins (begins_tuple a its.toArray) p' fun h' he hit hk => wpAny_pyIter_enum he ?_
      exact ⟨s1.heap.objs.size + 1, [s1.heap.objs.size + 1, s1.heap.objs.size], _, _, H1, rfl, I1.kept (t' := s1.toks) hk, turn_enumT a (s1.heap.objs.size + 1) s1.heap.objs.size, ⟨⟨.none, he⟩, ⟨_, hit, rfl, rfl⟩, Nat.succ_ne_self _⟩, new, q⟩
end R

set_option Elab.async false
set_option linter.all false
set_option maxRecDepth 100000
set_option maxHeartbeats 4000000
/-! R3w: set(list of whole numbers), sorted(set(..)) -/
namespace R
open PySem PySem.Spec PyProof.Rows L2
section
variable {P : Program} {w : World} {A : Around} {E : Value → Shared → Prop} {s : Shared}
/-- an empty set, new -/
abbrev eSet (w : World) : Obj := { cls := .type "set", dict := none, data := .set #[] 0 (.fresh 0 0 (!w.params.followText "set-order")) }
set_option maxRecDepth 100000 in
set_option maxHeartbeats 3200000 in
theorem call_set_lst {l : Addr} {items : Array Value} (ns : List Int) {Q : Value → Shared → Prop} (hh : A.handled = none) (hl : s.heap.IsList l items) (hit : IntsAre items.toList ns) (hb : ns.length + 1 < scanBound)
    (k : ∀ (h' : Heap) (tk c : Nat), SetR w h' s.heap.objs.size (fun j => decide (j ∈ ns)) c → c ≤ ns.length → (∀ b o, s.heap.get? b = some o → h'.get? b = some o) → Q (.ref s.heap.objs.size) { s with heap := h', toks := tk }) : wpAny (model P w) A (call (.type "set") [.ref l]) Q E s := by
  have hsz : items.size = ns.length := by
    have z := IntsAre.length hit
    rwa [Array.length_toList] at z
  obtain ⟨c0, t0, hmro⟩ := F.called_set.mro
  have f1 := F.called_set.made
  have f2 := F.called_set.sub
  refine wpAny_call (codeAny_of_tree ?_)
  show wpAny _ _ (callAny (.type "set") _) _ _ _
  refine wpAny_pure ⟨Code.quiet_builtin _ (by decide +kernel), codeAny_builtin F.entry_type_call ?_⟩
  rw [Around.under_plain (weight_type_call_type "set" [.ref l] []) rfl]
  have f3 := F.called_set.notType
  have f4 := F.called_set.canCreate
  have f5 := F.typeCall_set_1 (.ref l)
  repeat (any_goals (first | assumption | wp_step))
  refine codeAny_mono (code_set_led1 (.ref l) (E := E) (Q₁ := fun ob s₁ => ob = .ref s.heap.objs.size ∧ s₁ = { s with heap := s.heap.push (eSet w) }) ⟨rfl, rfl⟩) fun r s₁ hr => ?_
  cases r with
  | error e => exact hr
  | ok fl =>
    cases fl with
    | ret ob =>
      obtain ⟨rfl, rfl⟩ := hr
      have gS : (s.heap.push (eSet w)).get? s.heap.objs.size = some (eSet w) := Heap.get?_push_size _ rfl
      have hT : Shared.TypeIs { s with heap := s.heap.push (eSet w) } (.ref s.heap.objs.size) "set" := ⟨_, gS, rfl⟩
      have f6 := F.called_set.init.lookup
      have f7 := F.called_set.init.bind (.ref s.heap.objs.size)
      repeat (any_goals (first | assumption | wp_step))
      refine codeAny_mono (codeAny_call_builtin (R := wants (fun r s₂ => r = .none ∧ ∃ h' tk c, s₂ = { s with heap := h', toks := tk } ∧ SetR w h' s.heap.objs.size (fun j => decide (j ∈ ns)) c ∧ c ≤ ns.length ∧ (∀ b o, s.heap.get? b = some o → h'.get? b = some o)) E) F.called_set.init.plain F.entry_set_init (check_set_init_1 hT ?_)) fun r₂ s₂ hr₂ => ?_
      · obtain ⟨oL, gL, cL, nL', dL'⟩ := hl
        obtain ⟨a1, a2, a3, a4⟩ := oL
        simp only at cL dL'
        subst cL
        subst dL'
        have gL' : (s.heap.push (eSet w)).get? l = some { cls := .type "list", dict := a2, data := .seq items nL', slots := a4 } := Heap.get?_push_of_some _ gL
        have f8 := F.sub_list_set
        have f9 := F.sub_list_frozenset
        have f10 : (Value.type "list" == Value.type "dict") = false := by decide
        have hL : (s.heap.push (eSet w)).IsList l items := ⟨_, gL', rfl, nL', rfl⟩
        have lt0 : l < s.heap.objs.size := Heap.lt_size gL
        have z1 : (s.heap.push (eSet w)).objs.size = s.heap.objs.size + 1 := Heap.size_push ..
        have hh3 : A.in1.in1.in1.handled = none := by simp [hh]
        have ne1 : l ≠ (s.heap.push (eSet w)).objs.size := by rw [z1]; exact Nat.ne_of_lt (Nat.lt_succ_of_lt lt0)
        have ne2 : s.heap.objs.size ∉ [(s.heap.push (eSet w)).objs.size, l] := by
          rw [z1]
          simp only [List.mem_cons, List.mem_singleton, List.not_mem_nil, or_false, not_or]
          exact ⟨Nat.ne_of_lt (Nat.lt_succ_self _), Nat.ne_of_gt lt0⟩
        have hval : ∀ (i : Nat) (v : Value), items[i]? = some v → ∃ z t, ns[i]? = some z ∧ v = .int z t := fun i v hv => by
          have hi : i < ns.length := by rw [← hsz]; exact (Array.getElem?_eq_some_iff.mp hv).1
          obtain ⟨t, e⟩ := PyProof.Rows.IntsAre.int_at hit i v (by rw [Array.getElem?_toList]; exact hv)
          refine ⟨ns[i], t, List.getElem?_eq_getElem hi, ?_⟩
          rw [e, List.getD_eq_getElem?_getD, List.getElem?_eq_getElem hi] <;> rfl
        unfold Builtin.«set.__init__» noKeywords Builtin.Frozenset.updateFrom
        generalize hPI : pyIter = PI
        wp_walk
        subst hPI
        refine wpAny_pyIter_list hL (wpAny_bind (wpAny_runValue ?_))
        refine set_update_ints ((Walks.list hh3 _ l ne1 items).toS) s.heap.objs.size ne2 ns hsz hb hval (items.size - 0) 0 _ (by omega) (Nat.zero_le _) ⟨⟨_, Heap.get?_push_size _ rfl, rfl, rfl⟩, (hL.at fun o e => Heap.get?_push_of_some _ e)⟩ ⟨0, Nat.le_refl 0, setR_new_at (Heap.get?_push_of_some _ gS)⟩ ?_
        intro s' c' hm hc' hS'
        obtain ⟨h', g2, d2, tk', o2⟩ := s'
        have eg : g2 = s.gens := hm.gens
        have ed : d2 = s.drawn := hm.drawn
        have eo : o2 = s.os := hm.os
        subst eg ed eo
        show wpAny _ _ _ _ _ _
        refine wpAny_pure ?_
        show wpAny _ _ (ret Value.none) _ _ _
        rw [hsz] at hc'
        refine wpAny_pure ⟨rfl, h', tk', c', rfl, hS', hc', fun b o e => ?_⟩
        have b0 : b < s.heap.objs.size := Heap.lt_size e
        have b1 : b ≠ (s.heap.push (eSet w)).objs.size := by rw [z1]; exact Nat.ne_of_lt (Nat.lt_succ_of_lt b0)
        exact hm.heap b o (by simp only [List.mem_cons, List.mem_singleton, List.not_mem_nil, or_false, not_or]; exact ⟨Nat.ne_of_lt b0, b1⟩) (Heap.get?_push_of_some _ (Heap.get?_push_of_some _ e))
      · cases r₂ with
        | error e => exact hr₂
        | ok fl₂ =>
          cases fl₂ with
          | ret r =>
            obtain ⟨rfl, h', tk, c', rfl, z1, z2, z3⟩ := hr₂
            repeat (any_goals (first | assumption | wp_step))
            exact k _ _ _ z1 z2 z3
          | _ => exact hr₂.elim
    | _ => exact hr.elim
end
end R

set_option Elab.async false
set_option linter.all false
set_option maxRecDepth 100000
set_option maxHeartbeats 4000000
/-! R3a: readings; operators by values -/
namespace R
open PySem PySem.Spec PyProof.Rows L2

theorem sz_line : SZ = sizeLine := by rw [sizeLine_eq]; rfl
theorem PE.imp {X : Cx} {e : Expr} {t t' : TE} (h : PE X e t) (hi : ∀ σ H Q, t' σ H Q → t σ H Q) : PE X e t' := ⟨fun pins s σ H Q I q => h.run pins s σ H Q I (hi _ _ _ q)⟩
theorem PT.imp {X : Cx} {e : Expr} {t t' : TT} (h : PT X e t) (hi : ∀ σ H Q, t' σ H Q → t σ H Q) : PT X e t' := ⟨fun pins s σ H Q I q => h.run pins s σ H Q I (hi _ _ _ q)⟩
theorem PW.imp {X : Cx} {e : Expr} {t t' : TT} (h : PW X e t) (hi : ∀ σ H Q, t' σ H Q → t σ H Q) : PW X e t' := ⟨fun w pins s σ H Q I q => h.run w pins s σ H Q I (hi _ _ _ q)⟩
theorem PA.imp {X : Cx} {e : List Expr} {t t' : TA} (h : PA X e t) (hi : ∀ σ H Q, t' σ H Q → t σ H Q) : PA X e t' := ⟨fun p pins s σ H Q I q => h.run p pins s σ H Q I (hi _ _ _ q)⟩
theorem PS.imp {X : Cx} {e : Stmt} {t t' : TS} (h : PS X e t) (hi : ∀ D σ H, t' D σ H → t D σ H) : PS X e t' := ⟨fun pins s σ H D I q => h.run pins s σ H D I (hi _ _ _ q)⟩
theorem PSs.imp {X : Cx} {e : List Stmt} {t t' : TS} (h : PSs X e t) (hi : ∀ D σ H, t' D σ H → t D σ H) : PSs X e t' := ⟨fun pins s σ H D I q => h.run pins s σ H D I (hi _ _ _ q)⟩
theorem OpR.imp {X : Cx} {f : Value → Value → Sem Value} {r r' : R2} (h : OpR X f r) (hi : ∀ x y H Q, r' x y H Q → r x y H Q) : OpR X f r' := fun pins s σ H x y v u Q I rx ry q => h pins s σ H x y v u Q I rx ry (hi _ _ _ _ q)

section
variable (K : PySem.W.Frag) (fa : Nat → Option Addr)
/-- the frame's names -/
structure EnvR (t m : List Addr) (H : Hp) (σ : Env) (σV : L2.St) : Prop where
  len : σ.length = σV.length
  at_ : ∀ (i : Nat) (u : U), σ[i]? = some (some u) → ∃ v, σV[i]? = some (some v) ∧ Rp K fa t m m.length H u v
/-- what is known behind -/
def Kn (bs : List Nat) (t m : List Addr) (H : Hp) (u : U) (μ' : Mu) (Q : VK) : Prop :=
  ∀ m' H' v, Ex m H m' H' → Me K fa bs t m' H' μ' → Rp K fa t m' m'.length H' u v → Q v H'
def KnA (bs : List Nat) (t m : List Addr) (H : Hp) (us : List U) (μ' : Mu) (Q : List V → Hp → Prop) : Prop :=
  ∀ m' H' vs, Ex m H m' H' → Me K fa bs t m' H' μ' → RpA K fa t m' m'.length H' us vs → Q vs H'
abbrev Ev := Env → Mu → Option (U × Mu)
def tE (n0 : Nat) (ev : Ev) : TE := fun σV H Q => ∃ t bs m σ μ u μ', bs.length = n0 ∧ EnvR K fa t m H σ σV ∧ Me K fa bs t m H μ ∧ ev σ μ = some (u, μ') ∧ Kn K fa bs t m H u μ' Q
def tT (n0 : Nat) (ev : Ev) : TT := fun σV H Q => ∃ t bs m σ μ u μ' b, bs.length = n0 ∧ EnvR K fa t m H σ σV ∧ Me K fa bs t m H μ ∧ ev σ μ = some (u, μ') ∧ truth μ' u = some b ∧
  ∀ m' H', Ex m H m' H' → Me K fa bs t m' H' μ' → Q b H'
def tL (n0 : Nat) (ev : Env → Mu → Option (List U × Mu)) : TA := fun σV H Q => ∃ t bs m σ μ us μ', bs.length = n0 ∧ EnvR K fa t m H σ σV ∧ Me K fa bs t m H μ ∧ ev σ μ = some (us, μ') ∧ KnA K fa bs t m H us μ' Q
/-- two values, then something -/
def rV2 (f : Mu → U → U → Option (U × Mu)) : R2 := fun x y H Q => ∃ t bs m μ a b u μ', Me K fa bs t m H μ ∧ Rp K fa t m m.length H a x ∧ Rp K fa t m m.length H b y ∧ f μ a b = some (u, μ') ∧ Kn K fa bs t m H u μ' Q
end
section
variable {K : PySem.W.Frag} {fa : Nat → Option Addr} {t m m' : List Addr} {H H' : Hp} {σ : Env} {σV : L2.St} {bs : List Nat} {μ μ' : Mu} {u : U} {v : V} {Q : VK} {n0 : Nat}
theorem EnvR.ex (h : EnvR K fa t m H σ σV) (e : Ex m H m' H') : EnvR K fa t m' H' σ σV := ⟨h.len, fun i u q => let ⟨v, a, b⟩ := h.at_ i u q; ⟨v, a, b.ex e e.len⟩⟩
theorem Rp.ex' (h : Rp K fa t m m.length H u v) (e : Ex m H m' H') : Rp K fa t m' m'.length H' u v := h.ex e e.len
theorem RpA.ex' {us : List U} {vs : List V} (h : RpA K fa t m m.length H us vs) (e : Ex m H m' H') : RpA K fa t m' m'.length H' us vs := h.ex e e.len
theorem Kn.ex (k : Kn K fa bs t m H u μ' Q) (e : Ex m H m' H') : Kn K fa bs t m' H' u μ' Q := fun m2 H2 v e2 M r => k m2 H2 v (e.trans e2) M r
/-- nothing changes -/
theorem Kn.here (k : Kn K fa bs t m H u μ Q) (M : Me K fa bs t m H μ) (r : Rp K fa t m m.length H u v) : Q v H := k m H v (Ex.refl m H) M r
/-- a new frozen object -/
theorem Kn.new {p : Addr} {o : HO} (k : Kn K fa bs t m H u μ Q) (M : Me K fa bs t m H μ) (h : H p = none) (r : Rp K fa t m m.length (upd H p o) u v) : Q v (upd H p o) := k m _ v (Ex.upd h) (M.upd h) r
/-- a new tuple -/
theorem Kn.tup {p : Addr} {xs : List U} {vs : List V} (k : Kn K fa bs t m H (.tup xs) μ Q) (M : Me K fa bs t m H μ) (h : H p = none) (r : RpA K fa t m m.length H xs vs) : Q (.ref p) (upd H p (.tup vs)) := by
  obtain ⟨n1, n2⟩ := M.fresh h
  exact k.new M h (.tup ⟨upd_same, n1, n2⟩ (r.ex' (Ex.upd h)))
/-- a new list, frozen or mutable -/
theorem Kn.lst {p : Addr} {xs : List U} {vs : List V} {al : Bool} (k : Kn K fa bs t m H (fresh al (.lst xs) μ).1 (fresh al (.lst xs) μ).2 Q) (M : Me K fa bs t m H μ) (h : H p = none) (r : RpA K fa t m m.length H xs vs) : Q (.ref p) (upd H p (.lst vs)) := by
  obtain ⟨n1, n2⟩ := M.fresh h
  cases al with
  | false => exact k.new M h (.lst ⟨upd_same, n1, n2⟩ (r.ex' (Ex.upd h)))
  | true =>
    have e : Ex m H (m ++ [p]) (upd H p (.lst vs)) := Ex.alloc h
    refine k (m ++ [p]) _ _ e (M.alloc h (.lst upd_same (r.ex e (by simp)))) (.ob (by simp [← M.len]) (by simp [← M.len]))
theorem Kn.dk {p : Addr} {kvs : List (Key × V)} {us : List U} {al : Bool} (k : Kn K fa bs t m H (fresh al (.dk (kvs.map (·.1)) us) μ).1 (fresh al (.dk (kvs.map (·.1)) us) μ).2 Q) (M : Me K fa bs t m H μ) (h : H p = none) (r : RpA K fa t m m.length H us (kvs.map (·.2))) : Q (.ref p) (upd H p (.dK kvs)) := by
  obtain ⟨n1, n2⟩ := M.fresh h
  cases al with
  | false => exact k.new M h (.dK upd_same n1 n2 (r.ex' (Ex.upd h)))
  | true =>
    have e : Ex m H (m ++ [p]) (upd H p (.dK kvs)) := Ex.alloc h
    refine k (m ++ [p]) _ _ e (M.alloc h (.dK upd_same (r.ex e (by simp)))) (.ob (by simp [← M.len]) (by simp [← M.len]))
theorem Kn.dt {p : Addr} {kvs : List (List Key × V)} {us : List U} {al : Bool} (k : Kn K fa bs t m H (fresh al (.dt (kvs.map (·.1)) us) μ).1 (fresh al (.dt (kvs.map (·.1)) us) μ).2 Q) (M : Me K fa bs t m H μ) (h : H p = none) (r : RpA K fa t m m.length H us (kvs.map (·.2))) : Q (.ref p) (upd H p (.dT kvs)) := by
  obtain ⟨n1, n2⟩ := M.fresh h
  cases al with
  | false => exact k.new M h (.dT upd_same n1 n2 (r.ex' (Ex.upd h)))
  | true =>
    have e : Ex m H (m ++ [p]) (upd H p (.dT kvs)) := Ex.alloc h
    refine k (m ++ [p]) _ _ e (M.alloc h (.dT upd_same (r.ex e (by simp)))) (.ob (by simp [← M.len]) (by simp [← M.len]))
/-- the object of a mutable one -/
theorem Me.obj (M : Me K fa bs t m H μ) {i : Nat} {v : V} {o : U} (r : Rp K fa t m m.length H (.ob i) v) (h : μ[i]? = some o) : ∃ a, v = .ref a ∧ m[i]? = some a ∧ Ct K fa t m (bs[i]?.getD m.length) H a o := by
  cases r with
  | ob hi ha => exact ⟨_, rfl, ha, M.ct i _ _ ha h⟩
theorem Me.objF (M : Me K fa bs t m H μ) {i : Nat} {v : V} {o : U} (r : Rp K fa t m m.length H (.ob i) v) (h : μ[i]? = some o) : ∃ a, v = .ref a ∧ m[i]? = some a ∧ Ct K fa t m m.length H a o := by
  obtain ⟨a, h1, h2, c⟩ := M.obj r h
  exact ⟨a, h1, h2, c.ex (Ex.refl m H) (M.bnd i) rfl⟩
/-- what stands as a list: frozen or mutable -/
theorem asL_ok (M : Me K fa bs t m H μ) {u : U} {v : V} {xs : List U} (r : Rp K fa t m m.length H u v) (h : asL μ u = some xs) : ∃ a vs, v = .ref a ∧ SqL K H a vs ∧ RpA K fa t m m.length H xs vs := by
  cases u with
  | lst ys =>
    cases h
    cases r with
    | lst f ra => exact ⟨_, _, rfl, f.sq, ra⟩
  | ob i =>
    simp only [asL] at h
    split at h
    · rename_i ys e
      cases h
      obtain ⟨a, rfl, ha, c⟩ := M.objF r e
      cases c with
      | lst hH ra => exact ⟨a, _, rfl, SqL.of hH, ra⟩
    · cases h
  | _ => simp [asL] at h
theorem asL_at (M : Me K fa bs t m H μ) {u : U} {v : V} {xs : List U} (r : Rp K fa t m m.length H u v) (h : asL μ u = some xs) : ∃ a vs, v = .ref a ∧ H a = some (.lst vs) ∧ RpA K fa t m m.length H xs vs := by
  cases u with
  | lst ys =>
    cases h
    cases r with
    | lst f ra => exact ⟨_, _, rfl, f.1, ra⟩
  | ob i =>
    simp only [asL] at h
    split at h
    · rename_i ys e
      cases h
      obtain ⟨a, rfl, ha, c⟩ := M.objF r e
      cases c with
      | lst hH ra => exact ⟨a, _, rfl, hH, ra⟩
    · cases h
  | _ => simp [asL] at h
theorem asS_ok (M : Me K fa bs t m H μ) {u : U} {v : V} {xs : List U} (r : Rp K fa t m m.length H u v) (h : asS μ u = some xs) : ∃ a vs, v = .ref a ∧ (SqL K H a vs ∨ SqT K H a vs) ∧ RpA K fa t m m.length H xs vs := by
  cases u with
  | tup ys =>
    cases h
    cases r with
    | tup f ra => exact ⟨_, _, rfl, .inr f.sq, ra⟩
  | _ =>
    obtain ⟨a, vs, e, f, ra⟩ := asL_ok M r h
    exact ⟨a, vs, e, .inl f, ra⟩

/-! ### data -/
theorem mapO_len {α β : Type} {f : α → Option β} : ∀ {xs : List α} {ys : List β}, mapO f xs = some ys → xs.length = ys.length
  | [], _, h => by cases h; rfl
  | x :: xs, ys, h => by
    simp only [mapO] at h
    split at h
    · split at h
      · rename_i e; cases h; simp [mapO_len e]
      · cases h
    · cases h
theorem mapO_cons {α β : Type} {f : α → Option β} {x : α} {xs : List α} {ys : List β} (h : mapO f (x :: xs) = some ys) : ∃ z zs, f x = some z ∧ mapO f xs = some zs ∧ ys = z :: zs := by
  simp only [mapO] at h
  split at h
  · rename_i z e
    split at h
    · rename_i zs e'; cases h; exact ⟨z, zs, e, e', rfl⟩
    · cases h
  · cases h
mutual
theorem Dp.of (M : Me K fa bs t m H μ) : ∀ (k : Nat) (u : U) (v : V) (d : PyData), Rp K fa t m m.length H u v → dat μ k u = some d → Dp K H v d ∧ d.plain = true ∧ d.depth ≤ k
  | k, .non, v, d, r, h => by
    cases r; simp [dat] at h; subst h; exact ⟨.non, rfl, Nat.zero_le _⟩
  | k, .bl b, v, d, r, h => by
    cases r; simp [dat] at h; subst h; exact ⟨.bl b, rfl, Nat.zero_le _⟩
  | k, .int i, v, d, r, h => by
    cases r; simp [dat] at h; subst h; exact ⟨.int i, rfl, Nat.zero_le _⟩
  | k, .str x, v, d, r, h => by
    cases r; simp [dat] at h; subst h; exact ⟨.str x, rfl, Nat.zero_le _⟩
  | 0, .tup xs, v, d, r, h => by simp [dat] at h
  | k + 1, .tup xs, v, d, r, h => by
    simp only [dat] at h
    split at h
    · rename_i ds e
      cases h
      cases r with
      | tup f ra =>
        obtain ⟨h1, h2, h3⟩ := Dp.ofs M k xs _ ds ra e
        exact ⟨.tup f.sq h1, h2, by simp only [PyData.depth]; omega⟩
    · cases h
  | 0, .lst xs, v, d, r, h => by simp [dat] at h
  | k + 1, .lst xs, v, d, r, h => by
    simp only [dat] at h
    split at h
    · rename_i ds e
      cases h
      cases r with
      | lst f ra =>
        obtain ⟨h1, h2, h3⟩ := Dp.ofs M k xs _ ds ra e
        exact ⟨.lst f.sq h1, h2, by simp only [PyData.depth]; omega⟩
    · cases h
  | 0, .ob i, v, d, r, h => by simp [dat] at h
  | k + 1, .ob i, v, d, r, h => by
    simp only [dat] at h
    split at h
    · rename_i o e
      obtain ⟨a, rfl, ha, c⟩ := M.objF r e
      cases c with
      | lst hH ra =>
        cases k with
        | zero => simp [dat] at h
        | succ k =>
          simp only [dat] at h
          split at h
          · rename_i ds e
            cases h
            obtain ⟨h1, h2, h3⟩ := Dp.ofs M k _ _ ds ra e
            exact ⟨.lst (SqL.of hH) h1, h2, by simp only [PyData.depth]; omega⟩
          · cases h
      | dK _ _ => cases k <;> simp [dat] at h
      | dT _ _ => cases k <;> simp [dat] at h
    · cases h
  | k, .dk _ _, v, d, r, h => by cases k <;> simp [dat] at h
  | k, .dt _ _, v, d, r, h => by cases k <;> simp [dat] at h
  | k, .fn _, v, d, r, h => by cases k <;> simp [dat] at h
  | k, .scr _, v, d, r, h => by cases k <;> simp [dat] at h
theorem Dp.ofs (M : Me K fa bs t m H μ) : ∀ (k : Nat) (us : List U) (vs : List V) (ds : List PyData), RpA K fa t m m.length H us vs → mapO (dat μ k) us = some ds → DpAll K H vs ds ∧ PyData.plainAll ds = true ∧ PyData.depthAll ds ≤ k
  | k, [], _, ds, .nil, h => by cases h; exact ⟨.nil, rfl, Nat.zero_le _⟩
  | k, u :: us, _, ds, .cons r ra, h => by
    obtain ⟨z, zs, e1, e2, rfl⟩ := mapO_cons h
    obtain ⟨a1, a2, a3⟩ := Dp.of M k u _ z r e1
    obtain ⟨b1, b2, b3⟩ := Dp.ofs M k us _ zs ra e2
    exact ⟨.cons a1 b1, by simp [PyData.plainAll, a2, b2], by simp only [PyData.depthAll]; omega⟩
end
end
end R

set_option Elab.async false
set_option linter.all false
set_option maxRecDepth 100000
set_option maxHeartbeats 4000000
/-! R3t: tuple * int, any -/
namespace R
open PySem PySem.Spec PyProof.Rows L2
open AutoSeq1 (wpAny_loadPart')

theorem tuple_mul0 (l : Addr) (items : Array Value) (n : Nat) (dd : Option Addr) (sl : Array (Option Value)) (x : Int) (u : Tok) (c0 : (decide (x < -(2 ^ 63)) || decide (x ≥ 2 ^ 63)) = false) (c1 : (items.isEmpty || x == 1) = false) (c2 : (decide (x ≤ 0) || items.isEmpty) = true) :
    Meets (Builtin.«tuple.__mul__» ⟨[.ref l, .int x u], []⟩) (fun _ R s => s.heap.get? l = some { cls := .type "tuple", dict := dd, data := .seq items n, slots := sl } ∧
      R (.ok (.ret (Value.ref s.heap.objs.size))) { s with heap := s.heap.push { cls := Value.type "tuple", data := Data.seq #[] }, toks := s.toks }) :=
  .of_wp fun prog w A R s h => by
    obtain ⟨hp, g, d, tk, os⟩ := s
    obtain ⟨hl, h⟩ := h
    have f1 := AutoSeq1.idx_int
    wp_walk using wpAny_loadPart' hl
    repeat (first
      | (refine wpAny_ite_false (decide_eq_false (by rw [c0]; exact Bool.false_ne_true)) ?_; wp_walk using wpAny_loadPart' hl)
      | (refine wpAny_ite_false (decide_eq_false (by rw [c1]; exact Bool.false_ne_true)) ?_; wp_walk using wpAny_loadPart' hl)
      | (refine wpAny_ite_true (decide_eq_true c2) ?_; wp_walk using wpAny_loadPart' hl))
    exact ⟨_, rfl, h⟩
theorem tuple_mul1 (l : Addr) (items : Array Value) (n : Nat) (dd : Option Addr) (sl : Array (Option Value)) (x : Int) (u : Tok) (c0 : (decide (x < -(2 ^ 63)) || decide (x ≥ 2 ^ 63)) = false) (c1 : (items.isEmpty || x == 1) = true) :
    Meets (Builtin.«tuple.__mul__» ⟨[.ref l, .int x u], []⟩) (fun _ R s => s.heap.get? l = some { cls := .type "tuple", dict := dd, data := .seq items n, slots := sl } ∧
      R (.ok (.ret (Value.ref l))) { s with heap := s.heap, toks := s.toks }) :=
  .of_wp fun prog w A R s h => by
    obtain ⟨hp, g, d, tk, os⟩ := s
    obtain ⟨hl, h⟩ := h
    have f1 := AutoSeq1.idx_int
    wp_walk using wpAny_loadPart' hl
    repeat (first
      | (refine wpAny_ite_false (decide_eq_false (by rw [c0]; exact Bool.false_ne_true)) ?_; wp_walk using wpAny_loadPart' hl)
      | (refine wpAny_ite_true (decide_eq_true c1) ?_; wp_walk using wpAny_loadPart' hl))
    exact ⟨_, rfl, h⟩

def rMulT (K : PySem.W.Frag) : R2 := fun x y H Q => ∃ l k xs, x = .ref l ∧ y = .int k ∧ SqT K H l xs ∧ -(2 ^ 63) ≤ k ∧ k < 2 ^ 63 ∧ xs.length * k.toNat ≤ sizeLine ∧
  ((xs = [] ∨ k = 1) → Q (.ref l) H) ∧ (¬ (xs = [] ∨ k = 1) → ∀ p, H p = none → Q (.ref p) (upd H p (.tup (List.replicate k.toNat xs).flatten)))
section
variable {X : Cx}
theorem op_mulT : OpR X (binaryOp .Mult) (rMulT X.K) := by
  intro pins s σ H x y v u Q I rx ry h
  obtain ⟨l, k, xs, rfl, rfl, hT, h1, h2, hz, q1, q2⟩ := h
  cases rx
  obtain ⟨t, rfl⟩ := ry
  obtain ⟨its, r, ⟨⟨cls, dd, data, sl⟩, ho, hc, n, hd⟩, hs⟩ := I.tuple hT
  simp only at hc hd
  subst hc hd
  have hle : its.length = xs.length := r.length.symm
  have c0 : (decide (k < -(2 ^ 63)) || decide (k ≥ 2 ^ 63)) = false := by
    rw [decide_eq_false (by omega), decide_eq_false (by omega)] <;> rfl
  have hsz0 : its.toArray.size = xs.length := by rw [List.size_toArray, hle]
  have he : its.toArray.isEmpty = decide (xs = []) := by
    cases its with
    | nil => cases r; rfl
    | cons a b => cases r; rfl
  refine wpAny_binaryOp_repeat_ref (T := "tuple") (U := "int") (by decide) ⟨_, ho, rfl⟩ (fun s' => typeIs_int s' k t) noFill_tuple_mul F.fills_int_mul F.slot_int_rmul repeat_tuple F.slot_int_index.lookup
    (call_meets F.slot_int_rmul (typeIs_int s k t) F.entry_int_rmul (F.args_int_rmul_2 _ _) (int_rmul_tuple k t l its.toArray n dd sl)
      ⟨ho, rfl, ⟨_, ho, rfl⟩, ?_⟩)
  by_cases hw : xs = [] ∨ k = 1
  · have c1 : (its.toArray.isEmpty || k == 1) = true := by
      rw [he]
      rcases hw with e | e
      · simp [e]
      · simp [e]
    exact call_meets F.slot_tuple_mul ⟨_, ho, rfl⟩ F.entry_tuple_mul (F.args_tuple_mul_2 _ _) (tuple_mul1 l its.toArray n dd sl k t c0 c1) ⟨ho, ⟨.ref l, H, I, rfl, q1 hw⟩⟩
  · have hne : xs ≠ [] := fun e => hw (.inl e)
    have hk1 : k ≠ 1 := fun e => hw (.inr e)
    have hi : its.toArray.isEmpty = false := by rw [he]; exact decide_eq_false hne
    have c1 : (its.toArray.isEmpty || k == 1) = false := by
      rw [hi, Bool.false_or]
      exact beq_eq_false_iff_ne.mpr hk1
    by_cases hk : k ≤ 0
    · have c2 : (decide (k ≤ 0) || its.toArray.isEmpty) = true := by simp [hk]
      refine call_meets F.slot_tuple_mul ⟨_, ho, rfl⟩ F.entry_tuple_mul (F.args_tuple_mul_2 _ _) (tuple_mul0 l its.toArray n dd sl k t c0 c1 c2) ⟨ho, ?_⟩
      have e0 : (List.replicate k.toNat xs).flatten = [] := by rw [show k.toNat = 0 by omega]; rfl
      have qq := q2 hw s.heap.objs.size (I.hok.fresh (Nat.le_refl _))
      rw [e0] at qq
      exact ⟨.ref s.heap.objs.size, _, I.laid (t' := s.toks) (o := .tup []) (fun b ob q => Heap.get?_push_of_some _ q) (Nat.le_refl _) ⟨Nat.zero_le _, [], .nil, IsTup.new _ _⟩, rfl, qq⟩
    · have c2 : (decide (k ≤ 0) || its.toArray.isEmpty) = false := by
        rw [hi, Bool.or_false]
        exact decide_eq_false (by omega)
      have flen : (List.replicate k.toNat its).flatten.length ≤ sizeLine := by
        rw [PyProof.Rows.lm_len_rep_flat, hle, Nat.mul_comm]; exact hz
      have hm : ((its.toArray.size : Nat) : Int) * k ≤ sizeLine := by
        rw [hsz0]
        have : ((xs.length * k.toNat : Nat) : Int) ≤ (sizeLine : Nat) := by exact_mod_cast hz
        rw [Int.natCast_mul, Int.toNat_of_nonneg (by omega)] at this
        exact this
      have hsl := sizeLine_eq
      have c4 : Builtin.Tuple.tupleTooMany (((its.toArray.size : Nat) : Int) * k) = false := by
        unfold Builtin.Tuple.tupleTooMany
        rw [sizeLine_eq]
        exact decide_eq_false (by omega)
      refine call_meets F.slot_tuple_mul ⟨_, ho, rfl⟩ F.entry_tuple_mul (F.args_tuple_mul_2 _ _) (tuple_mulW l its.toArray n dd sl k t c0 c1 c2 (by omega) c4 (by rw [size_rep, List.size_toArray]; exact flen)) ⟨ho, ?_⟩
      rw [size_rep]
      refine ⟨.ref s.heap.objs.size, _, I.laid (t' := s.toks) (o := .tup (List.replicate k.toNat xs).flatten) (fun b ob q => Heap.get?_push_of_some _ q) (Nat.le_refl _) ?_, rfl, q2 hw _ (I.hok.fresh (Nat.le_refl _))⟩
      exact ⟨by rw [PyProof.Rows.lm_len_rep_flat, Nat.mul_comm]; exact hz, _, r.rep k.toNat, IsTup.new _ _⟩
end
end R

set_option Elab.async false
set_option linter.all false
set_option maxRecDepth 100000
set_option maxHeartbeats 4000000
/-! R3b: operators by values -/
namespace R
open PySem PySem.Spec PyProof.Rows L2

def Bo.op : Bo → Operator
  | .add => .Add | .sub => .Sub | .mul => .Mult | .fdiv => .FloorDiv | .mod => .Mod | .pow => .Pow | .shl => .LShift | .shr => .RShift | .band => .BitAnd | .bor => .BitOr | .bxor => .BitXor
def Co.op : Co → CmpOp
  | .eq => .Eq | .ne => .NotEq | .lt => .Lt | .le => .LtE | .gt => .Gt | .ge => .GtE | .isin => .In | .notin => .NotIn | .is_ => .Is | .isnot => .IsNot

section
variable {X : Cx} {fa : Nat → Option Addr}
theorem binR (al : Bool) (op : Bo) : OpR X (binaryOp op.op) (rV2 X.K fa fun μ a b => evBin al μ op a b) := by
  intro pins s σ H x y v u Q I rx ry h
  obtain ⟨t, bs, m, μ, a, b, w, μ', M, ra, rb, h, k⟩ := h
  have hz := sz_line
  simp only [evBin] at h
  split at h
  · cases h; cases ra; cases rb; exact op_add pins s σ H _ _ v u Q I rx ry ⟨_, _, rfl, rfl, k.here M (.int _)⟩
  · cases h; cases ra; cases rb; exact op_sub pins s σ H _ _ v u Q I rx ry ⟨_, _, rfl, rfl, k.here M (.int _)⟩
  · split at h
    · rename_i hm
      cases h; cases ra; cases rb
      refine op_mul pins s σ H _ _ v u Q I rx ry ⟨_, _, rfl, rfl, ?_, k.here M (.int _)⟩
      simpa [mulOk, CMul] using hm
    · cases h
  · split at h
    · rename_i hm
      cases h; cases ra; cases rb
      exact op_fdiv pins s σ H _ _ v u Q I rx ry ⟨_, _, rfl, rfl, hm, k.here M (.int _)⟩
    · cases h
  · split at h
    · rename_i hm
      cases h; cases ra; cases rb
      exact op_mod pins s σ H _ _ v u Q I rx ry ⟨_, _, rfl, rfl, hm, k.here M (.int _)⟩
    · cases h
  · split at h
    · rename_i hm
      cases h; cases ra; cases rb
      exact op_pow pins s σ H _ _ v u Q I rx ry ⟨_, _, rfl, rfl, hm, k.here M (.int _)⟩
    · cases h
  · split at h
    · rename_i hm
      cases h; cases ra; cases rb
      exact op_shl pins s σ H _ _ v u Q I rx ry ⟨_, _, rfl, rfl, hm, k.here M (.int _)⟩
    · cases h
  · split at h
    · rename_i hm
      cases h; cases ra; cases rb
      exact op_shr pins s σ H _ _ v u Q I rx ry ⟨_, _, rfl, rfl, hm, k.here M (.int _)⟩
    · cases h
  · cases h; cases ra; cases rb; exact op_and pins s σ H _ _ v u Q I rx ry ⟨_, _, rfl, rfl, k.here M (.int _)⟩
  · cases h; cases ra; cases rb; exact op_or pins s σ H _ _ v u Q I rx ry ⟨_, _, rfl, rfl, k.here M (.int _)⟩
  · cases h; cases ra; cases rb; exact op_xor pins s σ H _ _ v u Q I rx ry ⟨_, _, rfl, rfl, k.here M (.int _)⟩
  · split at h
    · rename_i hm
      cases h; cases ra; cases rb
      exact op_add_str pins s σ H _ _ v u Q I rx ry ⟨_, _, rfl, rfl, by omega, k.here M (.str _)⟩
    · cases h
  · split at h
    · rename_i xs ys hm
      cases h
      cases ra with
      | tup f1 r1 =>
        cases rb with
        | tup f2 r2 =>
          have l1 := r1.length
          have l2 := r2.length
          refine op_catA pins s σ H _ _ v u Q I rx ry ⟨_, _, _, _, rfl, rfl, f1.sq, f2.sq, by omega, fun e => ?_, fun _ e => ?_, fun _ _ p hp => k.tup M hp (r1.append r2)⟩
          · subst e
            cases r1
            exact k.here M (.tup f2 r2)
          · subst e
            cases r2
            refine k.here M ?_
            rw [List.append_nil]
            exact .tup f1 r1
    · cases h
  · split at h
    · rename_i xs ys e1 e2
      split at h
      · rename_i hm
        obtain ⟨rfl, rfl⟩ := Prod.mk.inj (Option.some.inj h)
        obtain ⟨l, vs, rfl, hl, r1⟩ := asL_at M ra e1
        obtain ⟨l', ws, rfl, hl', r2⟩ := asL_at M rb e2
        have l1 := r1.length
        have l2 := r2.length
        exact op_cat pins s σ H _ _ v u Q I rx ry ⟨_, _, _, _, rfl, rfl, hl, hl', by omega, fun p hp => k.lst M hp (r1.append r2)⟩
      · cases h
    · cases h
  · split at h
    · rename_i xs kk hm
      cases h
      cases ra with
      | tup f1 r1 =>
        cases rb
        have l1 := r1.length
        refine op_mulT pins s σ H _ _ v u Q I rx ry ⟨_, _, _, rfl, rfl, f1.sq, hm.1, hm.2.1, by rw [← l1]; omega, fun e => ?_, fun _ p hp => k.tup M hp (r1.rep _)⟩
        refine k.here M ?_
        rcases e with e | e
        · subst e
          cases r1
          have : (List.replicate (Int.toNat kk) ([] : List U)).flatten = [] := List.flatten_replicate_nil
          rw [this]
          exact .tup f1 .nil
        · rw [e]
          have : (List.replicate (Int.toNat 1) xs).flatten = xs := by
            show (List.replicate 1 xs).flatten = xs
            simp
          rw [this]
          exact .tup f1 r1
    · cases h
  · split at h
    · rename_i xs e1
      split at h
      · rename_i hm
        obtain ⟨rfl, rfl⟩ := Prod.mk.inj (Option.some.inj h)
        obtain ⟨l, vs, rfl, hl, r1⟩ := asL_at M ra e1
        cases rb
        have l1 := r1.length
        exact op_rep pins s σ H _ _ v u Q I rx ry ⟨_, _, _, rfl, rfl, hl, hm.1, hm.2.1, by rw [← l1]; omega, fun p hp => k.lst M hp (r1.rep _)⟩
      · cases h
    · cases h
  · cases h

/-! ### comparisons -/
theorem room_eq {k : Nat} (r : Room k X.A) : X.A.units + 66 < cLine := by have := r.un; omega
def rC2 (K : PySem.W.Frag) (fa : Nat → Option Addr) (f : Mu → U → U → Option Bool) : R2 := fun x y H Q => ∃ t bs m μ a b c, Me K fa bs t m H μ ∧ Rp K fa t m m.length H a x ∧ Rp K fa t m m.length H b y ∧ f μ a b = some c ∧ Q (.bl c) H
theorem neg?_some {o : Option Bool} {c : Bool} (h : neg? o = some c) : ∃ d, o = some d ∧ c = !d := by
  cases o with
  | none => cases h
  | some d => exact ⟨d, rfl, (Option.some.inj h).symm⟩
theorem evEq_some {μ : Mu} {a b : U} {c : Bool} (h : evEq μ a b = some c) : ∃ d e, dat μ D0 a = some d ∧ dat μ D0 b = some e ∧ c = PyData.eqv d e := by
  simp only [evEq] at h
  split at h
  · rename_i d e h1 h2
    exact ⟨d, e, h1, h2, (Option.some.inj h).symm⟩
  · cases h
theorem evLt_some {μ : Mu} {a b : U} {c : Bool} (h : evLt μ a b = some c) : (∃ i j, a = .int i ∧ b = .int j ∧ c = decide (i < j)) ∨
    ∃ d e, dat μ D0 a = some d ∧ dat μ D0 b = some e ∧ d ≠ .none ∧ PySem.W.alike d e = true ∧ c = PySem.W.dataLt d e := by
  unfold evLt at h
  split at h
  · exact .inl ⟨_, _, rfl, rfl, (Option.some.inj h).symm⟩
  · cases h1 : dat μ D0 a with
    | none => rw [h1] at h; simp at h
    | some d =>
      cases h2 : dat μ D0 b with
      | none => rw [h1, h2] at h; cases d <;> simp at h
      | some e =>
        rw [h1, h2] at h
        by_cases hd : d = .none
        · subst hd; simp at h
        · have h' : (if PySem.W.alike d e = true then some (PySem.W.dataLt d e) else none) = some c := by
            cases d <;> first | exact absurd rfl hd | exact h
          by_cases ha : PySem.W.alike d e = true
          · rw [if_pos ha] at h'
            exact .inr ⟨d, e, rfl, rfl, hd, ha, (Option.some.inj h').symm⟩
          · rw [if_neg ha] at h'; cases h'
theorem d0 : D0 = 12 := rfl
theorem eqR (hu : X.A.units + 66 < cLine) : OpR X (compareOp .Eq) (rC2 X.K fa evEq) := by
  intro pins s σ H x y v u Q I rx ry h
  obtain ⟨t, bs, m, μ, a, b, c, M, ra, rb, h, q⟩ := h
  obtain ⟨d, e, h1, h2, rfl⟩ := evEq_some h
  obtain ⟨a1, a2, a3⟩ := Dp.of M D0 a x d ra h1
  obtain ⟨b1, b2, b3⟩ := Dp.of M D0 b y e rb h2
  obtain ⟨as, r1⟩ := Dp.reads I d x v a1 rx
  obtain ⟨bs, r2⟩ := Dp.reads I e y u b1 ry
  have hd := d0
  exact SeqAt.eq_plain r1 r2 a2 b2 (by omega) ⟨.bl _, H, I, rfl, q⟩
theorem neR (hu : X.A.units + 66 < cLine) : OpR X (compareOp .NotEq) (rC2 X.K fa fun μ a b => neg? (evEq μ a b)) := by
  intro pins s σ H x y v u Q I rx ry h
  obtain ⟨t, bs, m, μ, a, b, c, M, ra, rb, h, q⟩ := h
  obtain ⟨c', h0, rfl⟩ := neg?_some h
  obtain ⟨d, e, h1, h2, rfl⟩ := evEq_some h0
  obtain ⟨a1, a2, a3⟩ := Dp.of M D0 a x d ra h1
  obtain ⟨b1, b2, b3⟩ := Dp.of M D0 b y e rb h2
  obtain ⟨as, r1⟩ := Dp.reads I d x v a1 rx
  obtain ⟨bs, r2⟩ := Dp.reads I e y u b1 ry
  have hd := d0
  exact SeqAt.ne_plain r1 r2 a2 b2 (by omega) ⟨.bl _, H, I, rfl, q⟩
theorem ltR (hu : X.A.units + 66 < cLine) : OpR X (compareOp .Lt) (rC2 X.K fa evLt) := by
  intro pins s σ H x y v u Q I rx ry h
  obtain ⟨t, bs, m, μ, a, b, c, M, ra, rb, h, q⟩ := h
  have hd := d0
  rcases evLt_some h with ⟨i, j, rfl, rfl, rfl⟩ | ⟨d, e, h1, h2, hn, ha, rfl⟩
  · cases ra; cases rb
    exact op_lt pins s σ H _ _ v u Q I rx ry ⟨_, _, rfl, rfl, q⟩
  · obtain ⟨a1, a2, a3⟩ := Dp.of M D0 a x d ra h1
    obtain ⟨b1, b2, b3⟩ := Dp.of M D0 b y e rb h2
    obtain ⟨as, r1⟩ := Dp.reads I d x v a1 rx
    obtain ⟨bs, r2⟩ := Dp.reads I e y u b1 ry
    exact PySem.W.lt_data r1 r2 ha hn (by omega) ⟨.bl _, H, I, rfl, q⟩
theorem gtR (hu : X.A.units + 66 < cLine) : OpR X (compareOp .Gt) (rC2 X.K fa fun μ a b => evLt μ b a) := by
  intro pins s σ H x y v u Q I rx ry h
  obtain ⟨t, bs, m, μ, a, b, c, M, ra, rb, h, q⟩ := h
  have hd := d0
  rcases evLt_some h with ⟨i, j, rfl, rfl, rfl⟩ | ⟨d, e, h1, h2, hn, ha, rfl⟩
  · cases ra; cases rb
    exact op_gt pins s σ H _ _ v u Q I rx ry ⟨_, _, rfl, rfl, q⟩
  · obtain ⟨a1, a2, a3⟩ := Dp.of M D0 b y d rb h1
    obtain ⟨b1, b2, b3⟩ := Dp.of M D0 a x e ra h2
    obtain ⟨as, r1⟩ := Dp.reads I d y u a1 ry
    obtain ⟨bs, r2⟩ := Dp.reads I e x v b1 rx
    exact PySem.W.gt_data r2 r1 (by rw [PySem.W.alike_comm]; exact ha) (PySem.W.ne_none_both ha hn) (by omega) ⟨.bl _, H, I, rfl, q⟩
theorem leR (hu : X.A.units + 66 < cLine) : OpR X (compareOp .LtE) (rC2 X.K fa fun μ a b => neg? (evLt μ b a)) := by
  intro pins s σ H x y v u Q I rx ry h
  obtain ⟨t, bs, m, μ, a, b, c, M, ra, rb, h, q⟩ := h
  have hd := d0
  obtain ⟨c', h0, rfl⟩ := neg?_some h
  rcases evLt_some h0 with ⟨i, j, rfl, rfl, rfl⟩ | ⟨d, e, h1, h2, hn, ha, rfl⟩
  · cases ra; cases rb
    refine op_le pins s σ H _ _ v u Q I rx ry ⟨_, _, rfl, rfl, ?_⟩
    have e1 : (!decide (i < j)) = decide (j ≤ i) := by
      by_cases z : i < j
      · rw [decide_eq_true z, decide_eq_false (by omega)]; rfl
      · rw [decide_eq_false z, decide_eq_true (by omega)]; rfl
    rw [e1] at q; exact q
  · obtain ⟨a1, a2, a3⟩ := Dp.of M D0 b y d rb h1
    obtain ⟨b1, b2, b3⟩ := Dp.of M D0 a x e ra h2
    obtain ⟨as, r1⟩ := Dp.reads I d y u a1 ry
    obtain ⟨bs, r2⟩ := Dp.reads I e x v b1 rx
    exact PySem.W.le_data r2 r1 (by rw [PySem.W.alike_comm]; exact ha) (PySem.W.ne_none_both ha hn) (by omega) ⟨.bl _, H, I, rfl, q⟩
theorem geR (hu : X.A.units + 66 < cLine) : OpR X (compareOp .GtE) (rC2 X.K fa fun μ a b => neg? (evLt μ a b)) := by
  intro pins s σ H x y v u Q I rx ry h
  obtain ⟨t, bs, m, μ, a, b, c, M, ra, rb, h, q⟩ := h
  have hd := d0
  obtain ⟨c', h0, rfl⟩ := neg?_some h
  rcases evLt_some h0 with ⟨i, j, rfl, rfl, rfl⟩ | ⟨d, e, h1, h2, hn, ha, rfl⟩
  · cases ra; cases rb
    refine op_ge pins s σ H _ _ v u Q I rx ry ⟨_, _, rfl, rfl, ?_⟩
    have e1 : (!decide (i < j)) = decide (j ≤ i) := by
      by_cases z : i < j
      · rw [decide_eq_true z, decide_eq_false (by omega)]; rfl
      · rw [decide_eq_false z, decide_eq_true (by omega)]; rfl
    rw [e1] at q; exact q
  · obtain ⟨a1, a2, a3⟩ := Dp.of M D0 a x d ra h1
    obtain ⟨b1, b2, b3⟩ := Dp.of M D0 b y e rb h2
    obtain ⟨as, r1⟩ := Dp.reads I d x v a1 rx
    obtain ⟨bs, r2⟩ := Dp.reads I e y u b1 ry
    exact PySem.W.ge_data r1 r2 ha hn (by omega) ⟨.bl _, H, I, rfl, q⟩

/-! ### is None -/
theorem isN_ok {t m : List Addr} {n : Nat} {H : Hp} {u : U} {v : V} {K : PySem.W.Frag} (r : Rp K fa t m n H u v) : decide (v = .non) = isNon u := by
  cases r <;> rfl
theorem isR : OpR X (compareOp .Is) (rC2 X.K fa fun μ a b => evCmp μ .is_ a b) := by
  intro pins s σ H x y v u Q I rx ry h
  obtain ⟨t, bs, m, μ, a, b, c, M, ra, rb, h, q⟩ := h
  cases b <;> simp [evCmp] at h
  subst h
  cases rb
  exact op_isN pins s σ H _ _ v u Q I rx ry ⟨rfl, by rw [isN_ok ra]; exact q⟩
theorem isnotR : OpR X (compareOp .IsNot) (rC2 X.K fa fun μ a b => evCmp μ .isnot a b) := by
  intro pins s σ H x y v u Q I rx ry h
  obtain ⟨t, bs, m, μ, a, b, c, M, ra, rb, h, q⟩ := h
  cases b with
  | non =>
    have h' : some (!isNon a) = some c := h
    cases h'
    cases rb
    exact op_notN pins s σ H _ _ v u Q I rx ry ⟨rfl, by rw [isN_ok ra]; exact q⟩
  | _ => simp [evCmp] at h

/-! ### dicts -/
theorem lk_valV {κ : Type} [DecidableEq κ] {K : PySem.W.Frag} {t m : List Addr} {n : Nat} {H : Hp} : ∀ {kvs : List (κ × V)} {us : List U} (q : κ), RpA K fa t m n H us (kvs.map (·.2)) →
    (∃ u v, lk (kvs.map (·.1)) us q = some u ∧ valV kvs q = some v ∧ Rp K fa t m n H u v) ∨ (lk (kvs.map (·.1)) us q = none ∧ valV kvs q = none)
  | [], _, q, .nil => .inr ⟨rfl, rfl⟩
  | kv :: kvs, _, q, .cons (u := u) r ra => by
    by_cases hk : kv.1 = q
    · exact .inl ⟨u, kv.2, by simp [lk, hk], valV_pos hk, r⟩
    · rcases lk_valV q ra with ⟨u', v', e1, e2, r'⟩ | ⟨e1, e2⟩
      · exact .inl ⟨u', v', by simp [lk, hk, e1], by rw [valV_neg hk]; exact e2, r'⟩
      · exact .inr ⟨by simp [lk, hk, e1], by rw [valV_neg hk]; exact e2⟩
theorem sky_ok {K : PySem.W.Frag} {t m : List Addr} {n : Nat} {H : Hp} {u : U} {v : V} {q : Key} (r : Rp K fa t m n H u v) (h : sky u = some q) : v = kV q := by
  cases r <;> simp [sky] at h <;> subst h <;> rfl
theorem skys_ok {K : PySem.W.Frag} {t m : List Addr} {n : Nat} {H : Hp} : ∀ {us : List U} {vs : List V} {qs : List Key}, RpA K fa t m n H us vs → mapO sky us = some qs → vs = qs.map kV
  | _, _, _, .nil, h => by cases h; rfl
  | _, _, _, .cons r ra, h => by
    obtain ⟨z, zs, e1, e2, rfl⟩ := mapO_cons h
    rw [sky_ok r e1, skys_ok ra e2]; rfl
theorem tky_ok {K : PySem.W.Frag} {t m : List Addr} {n : Nat} {H : Hp} {u : U} {v : V} {q : List Key} (r : Rp K fa t m n H u v) (h : tky u = some q) : ∃ b, v = .ref b ∧ H b = some (.tup (q.map kV)) := by
  cases u <;> simp [tky] at h
  cases r with
  | tup f ra =>
    rw [← skys_ok ra h]
    exact ⟨_, rfl, f.1⟩
/-- the dict at v -/
theorem dk_at {K : PySem.W.Frag} {t m : List Addr} {H : Hp} {bs : List Nat} {μ : Mu} {u : U} {v : V} {ks : List Key} {us : List U} (M : Me K fa bs t m H μ) (r : Rp K fa t m m.length H u v) (h : cont μ u = some (.dk ks us)) :
    ∃ a kvs, v = .ref a ∧ H a = some (.dK kvs) ∧ kvs.map (·.1) = ks ∧ RpA K fa t m m.length H us (kvs.map (·.2)) := by
  cases u with
  | ob i =>
    simp only [cont] at h
    obtain ⟨a, rfl, ha, c⟩ := M.objF r h
    cases c with
    | dK hH ra => exact ⟨a, _, rfl, hH, rfl, ra⟩
  | dk ks' us' =>
    cases h
    cases r with
    | dK hH _ _ ra => exact ⟨_, _, rfl, hH, rfl, ra⟩
  | _ => simp [cont] at h
theorem dt_at {K : PySem.W.Frag} {t m : List Addr} {H : Hp} {bs : List Nat} {μ : Mu} {u : U} {v : V} {ks : List (List Key)} {us : List U} (M : Me K fa bs t m H μ) (r : Rp K fa t m m.length H u v) (h : cont μ u = some (.dt ks us)) :
    ∃ a kvs, v = .ref a ∧ H a = some (.dT kvs) ∧ kvs.map (·.1) = ks ∧ RpA K fa t m m.length H us (kvs.map (·.2)) := by
  cases u with
  | ob i =>
    simp only [cont] at h
    obtain ⟨a, rfl, ha, c⟩ := M.objF r h
    cases c with
    | dT hH ra => exact ⟨a, _, rfl, hH, rfl, ra⟩
  | dt ks' us' =>
    cases h
    cases r with
    | dT hH _ _ ra => exact ⟨_, _, rfl, hH, rfl, ra⟩
  | _ => simp [cont] at h
theorem dget_ok {K : PySem.W.Frag} {t m : List Addr} {H : Hp} {bs : List Nat} {μ : Mu} {d k : U} {x y : V} {o : Option U} (M : Me K fa bs t m H μ) (r : Rp K fa t m m.length H d x) (rk : Rp K fa t m m.length H k y) (h : dget μ d k = some o) :
    ∃ a, x = .ref a ∧ IsD H a ∧ ((∃ u v, o = some u ∧ DGet H a y (some v) ∧ Rp K fa t m m.length H u v) ∨ (o = none ∧ DGet H a y none)) := by
  simp only [dget] at h
  split at h
  · rename_i ks us hc
    obtain ⟨a, kvs, rfl, hH, rfl, ra⟩ := dk_at M r hc
    split at h
    · rename_i q hq
      cases h
      have ey := sky_ok rk hq
      subst ey
      refine ⟨a, rfl, .inl ⟨_, .inl hH⟩, ?_⟩
      rcases lk_valV q ra with ⟨u', v', e1, e2, r'⟩ | ⟨e1, e2⟩
      · exact .inl ⟨u', v', e1, .inl ⟨kvs, q, .inl hH, rfl, e2.symm⟩, r'⟩
      · exact .inr ⟨e1, .inl ⟨kvs, q, .inl hH, rfl, e2.symm⟩⟩
    · cases h
  · rename_i ks us hc
    obtain ⟨a, kvs, rfl, hH, rfl, ra⟩ := dt_at M r hc
    split at h
    · rename_i q hq
      cases h
      obtain ⟨b, rfl, hb⟩ := tky_ok rk hq
      refine ⟨a, rfl, .inr ⟨_, .inl hH⟩, ?_⟩
      rcases lk_valV q ra with ⟨u', v', e1, e2, r'⟩ | ⟨e1, e2⟩
      · exact .inl ⟨u', v', e1, .inr ⟨kvs, q, b, .inl hH, rfl, hb, e2.symm⟩, r'⟩
      · exact .inr ⟨e1, .inr ⟨kvs, q, b, .inl hH, rfl, hb, e2.symm⟩⟩
    · cases h
  · cases h

/-! ### in -/
theorem evIn_some {μ : Mu} {a b : U} {c : Bool} (h : evIn μ a b = some c) : (∃ o, dget μ b a = some o ∧ c = o.isSome) ∨
    ∃ x ys, dat μ D0 a = some x ∧ (dat μ D0 b = some (.tuple ys) ∨ dat μ D0 b = some (.list ys)) ∧ c = ys.any fun y => y.eqv x := by
  simp only [evIn] at h
  split at h
  · split at h
    · rename_i o ho; exact .inl ⟨o, ho, (Option.some.inj h).symm⟩
    · cases h
  · split at h
    · rename_i o ho; exact .inl ⟨o, ho, (Option.some.inj h).symm⟩
    · cases h
  · split at h
    · rename_i x ys h1 h2; exact .inr ⟨x, ys, h1, .inl h2, (Option.some.inj h).symm⟩
    · rename_i x ys h1 h2; exact .inr ⟨x, ys, h1, .inr h2, (Option.some.inj h).symm⟩
    · cases h
theorem inR (hu : X.A.units + 66 < cLine) : OpR X (compareOp .In) (rC2 X.K fa evIn) := by
  intro pins s σ H x y v u Q I rx ry h
  obtain ⟨t, bs, m, μ, a, b, c, M, ra, rb, h, q⟩ := h
  have hd := d0
  rcases evIn_some h with ⟨o, ho, rfl⟩ | ⟨d, ys, h1, h2, rfl⟩
  · obtain ⟨p, rfl, _, hg⟩ := dget_ok M rb ra ho
    cases ry
    rcases hg with ⟨u', v', rfl, g, _⟩ | ⟨rfl, g⟩
    · exact d_in (by omega) I g rx fun s' I' => ⟨.bl true, H, I', rfl, q⟩
    · exact d_in (by omega) I g rx fun s' I' => ⟨.bl false, H, I', rfl, q⟩
  · obtain ⟨a1, a2, a3⟩ := Dp.of M D0 a x d ra h1
    obtain ⟨as, r1⟩ := Dp.reads I d x v a1 rx
    rcases h2 with h2 | h2
    · obtain ⟨b1, b2, b3⟩ := Dp.of M D0 b y _ rb h2
      obtain ⟨bs, r2⟩ := Dp.reads I _ y u b1 ry
      exact SeqAt.in_tuple_data r2 r1 b2 a2 (by simp only [PyData.depth] at b3; omega) ⟨.bl _, H, I, rfl, q⟩
    · obtain ⟨b1, b2, b3⟩ := Dp.of M D0 b y _ rb h2
      obtain ⟨bs, r2⟩ := Dp.reads I _ y u b1 ry
      exact SeqAt.in_list_data r2 r1 b2 a2 (by simp only [PyData.depth] at b3; omega) ⟨.bl _, H, I, rfl, q⟩
theorem notinR (hu : X.A.units + 66 < cLine) : OpR X (compareOp .NotIn) (rC2 X.K fa fun μ a b => neg? (evIn μ a b)) := by
  intro pins s σ H x y v u Q I rx ry h
  obtain ⟨t, bs, m, μ, a, b, c, M, ra, rb, h, q⟩ := h
  have hd := d0
  obtain ⟨c', h0, rfl⟩ := neg?_some h
  rcases evIn_some h0 with ⟨o, ho, rfl⟩ | ⟨d, ys, h1, h2, rfl⟩
  · obtain ⟨p, rfl, _, hg⟩ := dget_ok M rb ra ho
    cases ry
    rcases hg with ⟨u', v', rfl, g, _⟩ | ⟨rfl, g⟩
    · exact d_notIn (by omega) I g rx fun s' I' => ⟨.bl false, H, I', rfl, q⟩
    · exact d_notIn (by omega) I g rx fun s' I' => ⟨.bl true, H, I', rfl, q⟩
  · obtain ⟨a1, a2, a3⟩ := Dp.of M D0 a x d ra h1
    obtain ⟨as, r1⟩ := Dp.reads I d x v a1 rx
    rcases h2 with h2 | h2
    · obtain ⟨b1, b2, b3⟩ := Dp.of M D0 b y _ rb h2
      obtain ⟨bs, r2⟩ := Dp.reads I _ y u b1 ry
      exact SeqAt.notIn_tuple_data r2 r1 b2 a2 (by simp only [PyData.depth] at b3; omega) ⟨.bl _, H, I, rfl, q⟩
    · obtain ⟨b1, b2, b3⟩ := Dp.of M D0 b y _ rb h2
      obtain ⟨bs, r2⟩ := Dp.reads I _ y u b1 ry
      exact SeqAt.notIn_list_data r2 r1 b2 a2 (by simp only [PyData.depth] at b3; omega) ⟨.bl _, H, I, rfl, q⟩
/-- any comparison -/
theorem cmpR (hu : X.A.units + 66 < cLine) (op : Co) : OpR X (compareOp op.op) (rC2 X.K fa fun μ a b => evCmp μ op a b) := by
  cases op
  · exact eqR hu
  · exact neR hu
  · exact ltR hu
  · exact leR hu
  · exact gtR hu
  · exact geR hu
  · exact inR hu
  · exact notinR hu
  · exact isR
  · exact isnotR
end
end R

set_option Elab.async false
set_option linter.all false
set_option maxRecDepth 100000
set_option maxHeartbeats 4000000
/-! R3c: subscripts, slices, builtins, isinstance, methods -/
namespace R
open PySem PySem.Spec PyProof.Rows L2

section
variable {X : Cx} {fa : Nat → Option Addr}
/-! ### what a value is, by its content -/
theorem cont_lst {K : PySem.W.Frag} {t m : List Addr} {H : Hp} {bs : List Nat} {μ : Mu} {u : U} {v : V} {xs : List U} (M : Me K fa bs t m H μ) (r : Rp K fa t m m.length H u v) (h : cont μ u = some (.lst xs)) :
    ∃ a vs, v = .ref a ∧ H a = some (.lst vs) ∧ RpA K fa t m m.length H xs vs := by
  have h' : asL μ u = some xs := by
    cases u <;> simp [cont] at h <;> simp [asL, h]
  exact asL_at M r h'
theorem ob_not {K : PySem.W.Frag} {t m : List Addr} {H : Hp} {bs : List Nat} {μ : Mu} {i : Nat} {v : V} {o : U} (M : Me K fa bs t m H μ) (r : Rp K fa t m m.length H (.ob i) v) (h : μ[i]? = some o) :
    (∃ xs, o = .lst xs) ∨ (∃ ks us, o = .dk ks us) ∨ ∃ ks us, o = .dt ks us := by
  obtain ⟨a, _, _, c⟩ := M.objF r h
  cases c with
  | lst _ _ => exact .inl ⟨_, rfl⟩
  | dK _ _ => exact .inr (.inl ⟨_, _, rfl⟩)
  | dT _ _ => exact .inr (.inr ⟨_, _, rfl⟩)
theorem cont_tup {K : PySem.W.Frag} {t m : List Addr} {H : Hp} {bs : List Nat} {μ : Mu} {u : U} {v : V} {xs : List U} (M : Me K fa bs t m H μ) (r : Rp K fa t m m.length H u v) (h : cont μ u = some (.tup xs)) : u = .tup xs := by
  cases u with
  | ob i => rcases ob_not M r h with ⟨_, e⟩ | ⟨_, _, e⟩ | ⟨_, _, e⟩ <;> cases e
  | tup ys => cases h; rfl
  | _ => simp [cont] at h
theorem cont_str {K : PySem.W.Frag} {t m : List Addr} {H : Hp} {bs : List Nat} {μ : Mu} {u : U} {v : V} {x : Str} (M : Me K fa bs t m H μ) (r : Rp K fa t m m.length H u v) (h : cont μ u = some (.str x)) : u = .str x := by
  cases u with
  | ob i => rcases ob_not M r h with ⟨_, e⟩ | ⟨_, _, e⟩ | ⟨_, _, e⟩ <;> cases e
  | str ys => cases h; rfl
  | _ => simp [cont] at h

theorem atI_ok {K : PySem.W.Frag} {t m : List Addr} {n : Nat} {H : Hp} {xs : List U} {vs : List V} {i : Int} {u : U} (r : RpA K fa t m n H xs vs) (h : atI xs i = some u) : ∃ v, atI vs i = some v ∧ Rp K fa t m n H u v := by
  unfold atI at h ⊢
  rw [r.length] at h
  cases e : ixN vs.length i with
  | none => rw [e] at h; cases h
  | some j =>
    rw [e] at h
    exact r.get h
def rIdx (K : PySem.W.Frag) (fa : Nat → Option Addr) : R2 := fun x y H Q => ∃ t bs m μ a b u, Me K fa bs t m H μ ∧ Rp K fa t m m.length H a x ∧ Rp K fa t m m.length H b y ∧ evIdx μ a b = some u ∧ ∀ v, Rp K fa t m m.length H u v → Q v H
theorem idxR (hu : X.A.units + 66 < cLine) : IxR X (rIdx X.K fa) := by
  intro value slice pins s σ H x y v u Q I rx ry h hs
  obtain ⟨t, bs, m, μ, a, b, w, M, ra, rb, h, q⟩ := h
  have dict : ∀ o, dget μ a b = some o → o = some w → wpAny (model X.prog X.w) X.A (subscriptTail value slice v u) (EP X pins σ Q) X.xe s := fun o ho eo => by
    obtain ⟨p, rfl, _, hg⟩ := dget_ok M ra rb ho
    cases rx
    rcases hg with ⟨u', v', rfl, g, r'⟩ | ⟨rfl, g⟩
    · cases eo
      exact tail_any (dict_typeIs I g) PySem.F.slot_dict_getitem.lookup (d_getItem (by omega) I g ry fun w' s3 I3 rw' => ⟨v', H, I3, rw', q v' r'⟩) (hs)
    · cases eo
  simp only [evIdx] at h
  split at h
  · cases ho : dget μ a b with
    | none => rw [ho] at h; cases h
    | some o => rw [ho] at h; exact dict o ho h
  · cases ho : dget μ a b with
    | none => rw [ho] at h; cases h
    | some o => rw [ho] at h; exact dict o ho h
  · rename_i z hc
    have ea := cont_str M ra hc
    subst ea
    split at h
    · rename_i j
      split at h
      · rename_i hz
        split at h
        · rename_i c hcc
          cases h
          cases ra; cases rb
          have hl := sz_line
          exact ix_seq value slice pins s σ H _ _ v u Q I rx ry (.inr (.inr ⟨z, j, c, rfl, rfl, by omega, hcc, q _ (.str _)⟩)) hs
        · cases h
      · cases h
    · cases h
  · rename_i xs hc
    have ea := cont_tup M ra hc
    subst ea
    split at h
    · rename_i j
      cases rb
      cases ra with
      | tup f r1 =>
        obtain ⟨w', e1, r'⟩ := atI_ok r1 h
        exact ix_seq value slice pins s σ H _ _ v u Q I rx ry (.inr (.inl ⟨_, _, j, w', rfl, rfl, f.sq, e1, q _ r'⟩)) hs
    · cases h
  · rename_i xs hc
    obtain ⟨p, vs, rfl, hH, r1⟩ := cont_lst M ra hc
    split at h
    · rename_i j
      cases rb
      obtain ⟨w', e1, r'⟩ := atI_ok r1 h
      exact ix_seq value slice pins s σ H _ _ v u Q I rx ry (.inl ⟨_, _, j, w', rfl, rfl, SqL.of hH, e1, q _ r'⟩) hs
    · cases h
  · cases h

/-! ### slices -/
def rSlU (K : PySem.W.Frag) (fa : Nat → Option Addr) (al : Bool) : V → Option Int → Option Int → Hp → VK → Prop := fun x lo hi H Q => ∃ t bs m μ a l h u μ', Me K fa bs t m H μ ∧ Rp K fa t m m.length H a x ∧ bnd l = some lo ∧ bnd h = some hi ∧ evSlc al μ a l h = some (u, μ') ∧ Kn K fa bs t m H u μ' Q
theorem cut_ok {K : PySem.W.Frag} {t m : List Addr} {n : Nat} {H : Hp} {xs : List U} {vs : List V} (lo hi : Option Int) (r : RpA K fa t m n H xs vs) : RpA K fa t m n H (cutU xs lo hi) (cutV vs lo hi) := by
  unfold cutU cutV
  rw [r.length]
  exact (r.drop _).take _
theorem cut_whole {xs : List U} {lo hi : Option Int} (h : HT.sIx xs.length 0 lo = 0 ∧ HT.sIx xs.length xs.length hi = xs.length) : cutU xs lo hi = xs := by
  unfold cutU
  rw [h.1, h.2, List.drop_zero, Nat.sub_zero, List.take_length]
theorem slR (al : Bool) : SlR X (rSlU X.K fa al) := by
  intro pins s σ H x v vl vu lo hi sl Q I rx hs pl pu h
  obtain ⟨t, bs, m, μ, a, l, hh, u, μ', M, ra, e1, e2, h, k⟩ := h
  simp only [evSlc, e1, e2] at h
  split at h
  · rename_i xs
    cases h
    cases ra with
    | tup f r1 =>
      refine sl_tupA pins s σ H _ v vl vu lo hi sl Q I rx hs pl pu ⟨_, _, rfl, f.sq, fun hw => ?_, fun _ p hp => k.tup M hp (cut_ok lo hi r1)⟩
      rw [← r1.length] at hw
      refine k.here M ?_
      rw [cut_whole hw]
      exact .tup f r1
  · rename_i z
    split at h
    · rename_i hz
      cases h
      cases ra
      have hl := sz_line
      exact C8.sl_txt pins s σ H _ v vl vu lo hi sl Q I rx hs pl pu ⟨z, rfl, by omega, k.here M (.str _)⟩
    · cases h
  · split at h
    · rename_i xs hx
      obtain ⟨rfl, rfl⟩ := Prod.mk.inj (Option.some.inj h)
      obtain ⟨p, vs, rfl, hH, r1⟩ := asL_at M ra hx
      exact sl_list pins s σ H _ v vl vu lo hi sl Q I rx hs pl pu ⟨_, _, rfl, SqL.of hH, fun p hp => k.lst M hp (cut_ok lo hi r1)⟩
    · cases h

/-! ### truth -/
def rTru (K : PySem.W.Frag) (fa : Nat → Option Addr) : V → Hp → (Bool → Hp → Prop) → Prop := fun x H Q => ∃ t bs m μ a b, Me K fa bs t m H μ ∧ Rp K fa t m m.length H a x ∧ truth μ a = some b ∧ Q b H
theorem truV_ok {K : PySem.W.Frag} {t m : List Addr} {H : Hp} {bs : List Nat} {μ : Mu} {a : U} {x : V} {b : Bool} (M : Me K fa bs t m H μ) (r : Rp K fa t m m.length H a x) (h : truth μ a = some b) : TruV K x H b := by
  have hl := sz_line
  cases a with
  | non => cases r; cases h; rfl
  | bl c => cases r; cases h; rfl
  | int i => cases r; cases h; rfl
  | str z =>
    cases r
    simp only [truth] at h
    split at h
    · rename_i hz; cases h; exact ⟨by omega, rfl⟩
    · cases h
  | tup xs =>
    cases h
    cases r with
    | tup f ra => exact .inr (.inl ⟨_, f.sq, by cases ra <;> rfl⟩)
  | lst xs =>
    cases h
    cases r with
    | lst f ra => exact .inl ⟨_, f.sq, by cases ra <;> rfl⟩
  | ob i =>
    simp only [truth] at h
    split at h
    · rename_i xs e
      cases h
      obtain ⟨p, rfl, _, c⟩ := M.objF r e
      cases c with
      | lst hH ra => exact .inl ⟨_, SqL.of hH, by cases ra <;> rfl⟩
    · rename_i ks us e
      cases h
      obtain ⟨p, rfl, _, c⟩ := M.objF r e
      cases c with
      | @dK kvs _ hH ra => exact .inr (.inr ⟨_, hH, by cases kvs <;> rfl⟩)
    · cases h
  | _ => simp [truth] at h
theorem truR : TruR X (rTru X.K fa) := by
  intro pins s σ H x v Q I rx h
  obtain ⟨t, bs, m, μ, a, b, M, ra, h, q⟩ := h
  exact tru_ok pins s σ H x v Q I rx ⟨b, truV_ok M ra h, q⟩
end
end R

set_option Elab.async false
set_option linter.all false
set_option maxRecDepth 100000
set_option maxHeartbeats 4000000
/-! R3d: builtin functions, isinstance, methods, stores, by values -/
namespace R
open PySem PySem.Spec PyProof.Rows L2

section
variable {X : Cx} {fa : Nat → Option Addr}
/-- values in, a value out -/
def rVs (K : PySem.W.Frag) (fa : Nat → Option Addr) (f : Mu → List U → Option (U × Mu)) : List V → Hp → VK → Prop := fun xs H Q => ∃ t bs m μ us u μ', Me K fa bs t m H μ ∧ RpA K fa t m m.length H us xs ∧ f μ us = some (u, μ') ∧ Kn K fa bs t m H u μ' Q
theorem rpa1 {K : PySem.W.Frag} {t m : List Addr} {n : Nat} {H : Hp} {u : U} {xs : List V} (r : RpA K fa t m n H [u] xs) : ∃ v, xs = [v] ∧ Rp K fa t m n H u v := by
  cases r with
  | cons h q => cases q; exact ⟨_, rfl, h⟩
theorem rpa2 {K : PySem.W.Frag} {t m : List Addr} {n : Nat} {H : Hp} {u w : U} {xs : List V} (r : RpA K fa t m n H [u, w] xs) : ∃ v z, xs = [v, z] ∧ Rp K fa t m n H u v ∧ Rp K fa t m n H w z := by
  cases r with
  | cons h q =>
    obtain ⟨z, rfl, h2⟩ := rpa1 q
    exact ⟨_, z, rfl, h, h2⟩
def biF (b : Bi) : Mu → List U → Option (U × Mu) := fun μ us => match evBi μ b us with
  | some u => some (u, μ)
  | none => none
theorem biF_some {b : Bi} {μ μ' : Mu} {us : List U} {u : U} (h : biF b μ us = some (u, μ')) : evBi μ b us = some u ∧ μ' = μ := by
  unfold biF at h
  split at h
  · rename_i u' e
    cases h
    exact ⟨e, rfl⟩
  · cases h
theorem intsRp {K : PySem.W.Frag} {t m : List Addr} {n : Nat} {H : Hp} : ∀ {us : List U} {vs : List V} {ns : List Int}, RpA K fa t m n H us vs → mapO asInt us = some ns → vs = ns.map V.int
  | _, _, _, .nil, h => by cases h; rfl
  | _, _, _, .cons r ra, h => by
    obtain ⟨z, zs, e1, e2, rfl⟩ := mapO_cons h
    rw [intsRp ra e2]
    cases r <;> simp [asInt] at e1
    subst e1; rfl
theorem blsRp {K : PySem.W.Frag} {t m : List Addr} {n : Nat} {H : Hp} : ∀ {us : List U} {vs : List V} {ns : List Bool}, RpA K fa t m n H us vs → mapO asBl us = some ns → vs = ns.map V.bl
  | _, _, _, .nil, h => by cases h; rfl
  | _, _, _, .cons r ra, h => by
    obtain ⟨z, zs, e1, e2, rfl⟩ := mapO_cons h
    rw [blsRp ra e2]
    cases r <;> simp [asBl] at e1
    subst e1; rfl
theorem lenR : CallR X (.builtin "len") (rVs X.K fa (biF .len)) := by
  intro pins s σ H xs us Q I rx h
  obtain ⟨t, bs, m, μ, as, u, μ', M, ra, h, k⟩ := h
  obtain ⟨h, rfl⟩ := biF_some h
  have hl := sz_line
  match as, h with
  | [a], h =>
    obtain ⟨v, rfl, r⟩ := rpa1 ra
    simp only [evBi] at h
    split at h
    · rename_i z hc
      have ea := cont_str M r hc
      subst ea
      split at h
      · rename_i hz
        cases h
        cases r
        exact call_len pins s σ H _ us Q I rx ⟨_, _, rfl, ⟨by omega, rfl⟩, k.here M (.int _)⟩
      · cases h
    · rename_i ys hc
      have ea := cont_tup M r hc
      subst ea
      cases h
      cases r with
      | tup f r1 => exact call_len pins s σ H _ us Q I rx ⟨_, _, rfl, .inr ⟨_, f.sq, rfl⟩, by rw [← r1.length]; exact k.here M (.int _)⟩
    · rename_i ys hc
      obtain ⟨p, vs, rfl, hH, r1⟩ := cont_lst M r hc
      cases h
      exact call_len pins s σ H _ us Q I rx ⟨_, _, rfl, .inl ⟨_, SqL.of hH, rfl⟩, by rw [← r1.length]; exact k.here M (.int _)⟩
    · rename_i ks ys hc
      obtain ⟨p, kvs, rfl, hH, rfl, r1⟩ := dk_at M r hc
      cases h
      exact call_lenD pins s σ H _ us Q I rx ⟨_, _, rfl, hH, by have q := k.here M (.int _); rw [List.length_map] at q; exact q⟩
    · rename_i ks ys hc
      obtain ⟨p, kvs, rfl, hH, rfl, r1⟩ := dt_at M r hc
      cases h
      exact call_len_dT pins s σ H _ us Q I rx ⟨_, _, rfl, hH, by have q := k.here M (.int _); rw [List.length_map] at q; exact q⟩
    · cases h
  | [], h => simp [evBi] at h
  | _ :: _ :: _, h => simp [evBi] at h
theorem intR : CallR X (.type "int") (rVs X.K fa (biF .int)) := by
  intro pins s σ H xs us Q I rx h
  obtain ⟨t, bs, m, μ, as, u, μ', M, ra, h, k⟩ := h
  obtain ⟨h, rfl⟩ := biF_some h
  match as, h with
  | [.int i], h =>
    obtain ⟨v, rfl, r⟩ := rpa1 ra
    cases h; cases r
    exact call_int1 pins s σ H _ us Q I rx (.inl ⟨i, rfl, k.here M (.int _)⟩)
  | [.bl b], h =>
    obtain ⟨v, rfl, r⟩ := rpa1 ra
    cases h; cases r
    exact call_int1 pins s σ H _ us Q I rx (.inr ⟨b, rfl, k.here M (.int _)⟩)
theorem absR : CallR X (.builtin "abs") (rVs X.K fa (biF .abs)) := by
  intro pins s σ H xs us Q I rx h
  obtain ⟨t, bs, m, μ, as, u, μ', M, ra, h, k⟩ := h
  obtain ⟨h, rfl⟩ := biF_some h
  match as, h with
  | [.int i], h =>
    obtain ⟨v, rfl, r⟩ := rpa1 ra
    cases h; cases r
    exact call_abs pins s σ H _ us Q I rx ⟨i, rfl, k.here M (.int _)⟩
theorem bls_ok {K : PySem.W.Frag} {t m : List Addr} {H : Hp} {bs : List Nat} {μ : Mu} {a : U} {v : V} {ns : List Bool} (M : Me K fa bs t m H μ) (r : Rp K fa t m m.length H a v) (h : bls μ a = some ns) : ∃ p, v = .ref p ∧ SqL K H p (ns.map V.bl) := by
  unfold bls at h
  split at h
  · rename_i xs e
    obtain ⟨p, vs, rfl, hH, r1⟩ := asL_at M r e
    have := blsRp r1 h
    subst this
    exact ⟨p, rfl, SqL.of hH⟩
  · cases h
theorem intL_ok {K : PySem.W.Frag} {t m : List Addr} {H : Hp} {bs : List Nat} {μ : Mu} {a : U} {v : V} {ns : List Int} (M : Me K fa bs t m H μ) (r : Rp K fa t m m.length H a v) (h : intL μ a = some ns) : ∃ p, v = .ref p ∧ SqL K H p (ns.map V.int) := by
  unfold intL at h
  split at h
  · rename_i xs e
    obtain ⟨p, vs, rfl, hH, r1⟩ := asL_at M r e
    have := intsRp r1 h
    subst this
    exact ⟨p, rfl, SqL.of hH⟩
  · cases h
theorem intT_ok {K : PySem.W.Frag} {t m : List Addr} {H : Hp} {bs : List Nat} {μ : Mu} {a : U} {v : V} {ns : List Int} (M : Me K fa bs t m H μ) (r : Rp K fa t m m.length H a v) (h : intT μ a = some ns) : ∃ p, v = .ref p ∧ (SqL K H p (ns.map V.int) ∨ SqT K H p (ns.map V.int)) := by
  unfold intT at h
  split at h
  · rename_i xs e
    obtain ⟨p, vs, rfl, hH, r1⟩ := asS_ok M r e
    have := intsRp r1 h
    subst this
    exact ⟨p, rfl, hH⟩
  · cases h
theorem allR (hc : X.calm = true) : CallR X (.builtin "all") (rVs X.K fa (biF .all)) := by
  intro pins s σ H xs us Q I rx h
  obtain ⟨t, bs, m, μ, as, u, μ', M, ra, h, k⟩ := h
  obtain ⟨h, rfl⟩ := biF_some h
  match as, h with
  | [a], h =>
    obtain ⟨v, rfl, r⟩ := rpa1 ra
    simp only [evBi, Option.map_eq_some_iff] at h
    obtain ⟨ns, e, rfl⟩ := h
    obtain ⟨p, rfl, hS⟩ := bls_ok M r e
    exact cr_all hc pins s σ H _ us Q I rx ⟨p, ns, rfl, hS, k.here M (.bl _)⟩
  | [], h => simp [evBi] at h
  | _ :: _ :: _, h => simp [evBi] at h
theorem anyR (hc : X.calm = true) : CallR X (.builtin "any") (rVs X.K fa (biF .any)) := by
  intro pins s σ H xs us Q I rx h
  obtain ⟨t, bs, m, μ, as, u, μ', M, ra, h, k⟩ := h
  obtain ⟨h, rfl⟩ := biF_some h
  match as, h with
  | [a], h =>
    obtain ⟨v, rfl, r⟩ := rpa1 ra
    simp only [evBi, Option.map_eq_some_iff] at h
    obtain ⟨ns, e, rfl⟩ := h
    obtain ⟨p, rfl, hS⟩ := bls_ok M r e
    exact cr_any hc pins s σ H _ us Q I rx ⟨p, ns, rfl, hS, k.here M (.bl _)⟩
  | [], h => simp [evBi] at h
  | _ :: _ :: _, h => simp [evBi] at h
theorem sumR (hc : X.calm = true) : CallR X (.builtin "sum") (rVs X.K fa (biF .sum)) := by
  intro pins s σ H xs us Q I rx h
  obtain ⟨t, bs, m, μ, as, u, μ', M, ra, h, k⟩ := h
  obtain ⟨h, rfl⟩ := biF_some h
  match as, h with
  | [a], h =>
    obtain ⟨v, rfl, r⟩ := rpa1 ra
    simp only [evBi, Option.map_eq_some_iff] at h
    obtain ⟨ns, e, rfl⟩ := h
    obtain ⟨p, rfl, hS⟩ := intL_ok M r e
    exact cr_sum hc pins s σ H _ us Q I rx ⟨p, ns, rfl, hS, k.here M (.int _)⟩
  | [], h => simp [evBi] at h
  | _ :: _ :: _, h => simp [evBi] at h
theorem min2R (hc : X.calm = true) : CallR X (.builtin "min") (rVs X.K fa (biF .min2)) := by
  intro pins s σ H xs us Q I rx h
  obtain ⟨t, bs, m, μ, as, u, μ', M, ra, h, k⟩ := h
  obtain ⟨h, rfl⟩ := biF_some h
  match as, h with
  | [.int i, .int j], h =>
    obtain ⟨v, z, rfl, r, r2⟩ := rpa2 ra
    cases h; cases r; cases r2
    exact call_min2 hc pins s σ H _ us Q I rx ⟨i, j, rfl, k.here M (.int _)⟩
theorem max2R (hc : X.calm = true) : CallR X (.builtin "max") (rVs X.K fa (biF .max2)) := by
  intro pins s σ H xs us Q I rx h
  obtain ⟨t, bs, m, μ, as, u, μ', M, ra, h, k⟩ := h
  obtain ⟨h, rfl⟩ := biF_some h
  match as, h with
  | [.int i, .int j], h =>
    obtain ⟨v, z, rfl, r, r2⟩ := rpa2 ra
    cases h; cases r; cases r2
    exact call_max2 hc pins s σ H _ us Q I rx ⟨i, j, rfl, k.here M (.int _)⟩
theorem reads_ints {h : Heap} : ∀ {vs : List Value} {ns : List Int}, Vals (ns.map V.int) vs → ReadsAll h vs (ns.map PyData.int) []
  | [], [], _ => ReadsAll.nil
  | v :: vs, n :: ns, .cons r t => by
    obtain ⟨k, rfl⟩ := r
    exact ReadsAll.cons (as := []) (bs := []) (Reads.int n k) (reads_ints t)
theorem alike_intsAll (ns : List Int) : PySem.W.AlikeAll (ns.map PyData.int) := by
  refine ⟨fun x hx y hy => ?_, fun x hx => ?_⟩
  · obtain ⟨i, _, rfl⟩ := List.mem_map.mp hx
    obtain ⟨j, _, rfl⟩ := List.mem_map.mp hy
    rfl
  · obtain ⟨i, _, rfl⟩ := List.mem_map.mp hx
    exact fun z => by cases z
theorem maxD_ints : ∀ (ns : List Int) (x : Int), PySem.W.maxD (.int x) (ns.map PyData.int) = .int (ns.foldl (fun a b => if a < b then b else a) x)
  | [], x => rfl
  | n :: ns, x => by
    have ih := maxD_ints ns (if x < n then n else x)
    unfold PySem.W.maxD at ih ⊢
    rw [List.map_cons, List.foldl_cons, List.foldl_cons, ← ih]
    congr 1
    rw [PySem.W.dataLt_int]
    by_cases h : x < n <;> simp [h]
theorem minD_ints : ∀ (ns : List Int) (x : Int), PySem.W.minD (.int x) (ns.map PyData.int) = .int (ns.foldl (fun a b => if b < a then b else a) x)
  | [], x => rfl
  | n :: ns, x => by
    have ih := minD_ints ns (if n < x then n else x)
    unfold PySem.W.minD at ih ⊢
    rw [List.map_cons, List.foldl_cons, List.foldl_cons, ← ih]
    congr 1
    rw [PySem.W.dataLt_int]
    by_cases h : n < x <;> simp [h]
theorem depth_intsAll (ns : List Int) : PyData.depthAll (ns.map PyData.int) = 0 := PySem.W.depth_ints ns
theorem max1R (hc : X.calm = true) (hu : X.A.units + 66 < cLine) : CallR X (.builtin "max") (rVs X.K fa (biF .max1)) := by
  intro pins s σ H xs us Q I rx h
  obtain ⟨t, bs, m, μ, as, u, μ', M, ra, h, k⟩ := h
  obtain ⟨h, rfl⟩ := biF_some h
  match as, h with
  | [a], h =>
    obtain ⟨v, rfl, r⟩ := rpa1 ra
    simp only [evBi, Option.map_eq_some_iff] at h
    obtain ⟨z, e, rfl⟩ := h
    cases e1 : intT μ' a with
    | none => rw [e1] at e; cases e
    | some ns =>
      rw [e1] at e
      obtain ⟨p, rfl, hS⟩ := intT_ok M r e1
      obtain ⟨uu, rfl, ru⟩ := vals1 rx
      cases ru
      match ns, e with
      | n :: ns, e =>
        cases e
        have dz : X.A.units + 1 + PyData.depthAll (PyData.int n :: ns.map PyData.int) < cLine := by
          have := depth_intsAll (n :: ns)
          rw [List.map_cons] at this
          rw [this]; omega
        rcases hS with hS | hS
        · obtain ⟨its, rv, pl, _⟩ := I.list hS
          refine PySem.W.max_list_data (I.ok.hd hc) pl.isList (reads_ints rv) (alike_intsAll (n :: ns)) dz fun i v h' tk bs hv hr hk => ?_
          rw [maxD_ints] at hr
          cases hr
          exact ⟨.int _, H, I.kept (t' := tk) hk, ⟨_, rfl⟩, k.here M (.int _)⟩
        · obtain ⟨its, rv, pl, _⟩ := I.tuple hS
          refine PySem.W.max_tuple_data (I.ok.hd hc) (show s.heap.IsTuple p its.toArray from pl) (reads_ints rv) (alike_intsAll (n :: ns)) dz fun i v h' tk bs hv hr hk => ?_
          rw [maxD_ints] at hr
          cases hr
          exact ⟨.int _, H, I.kept (t' := tk) hk, ⟨_, rfl⟩, k.here M (.int _)⟩
  | [], h => simp [evBi] at h
  | _ :: _ :: _, h => simp [evBi] at h
theorem min1R (hc : X.calm = true) (hu : X.A.units + 66 < cLine) : CallR X (.builtin "min") (rVs X.K fa (biF .min1)) := by
  intro pins s σ H xs us Q I rx h
  obtain ⟨t, bs, m, μ, as, u, μ', M, ra, h, k⟩ := h
  obtain ⟨h, rfl⟩ := biF_some h
  match as, h with
  | [a], h =>
    obtain ⟨v, rfl, r⟩ := rpa1 ra
    simp only [evBi, Option.map_eq_some_iff] at h
    obtain ⟨z, e, rfl⟩ := h
    cases e1 : intT μ' a with
    | none => rw [e1] at e; cases e
    | some ns =>
      rw [e1] at e
      obtain ⟨p, rfl, hS⟩ := intT_ok M r e1
      obtain ⟨uu, rfl, ru⟩ := vals1 rx
      cases ru
      match ns, e with
      | n :: ns, e =>
        cases e
        have dz : X.A.units + 1 + PyData.depthAll (PyData.int n :: ns.map PyData.int) < cLine := by
          have := depth_intsAll (n :: ns)
          rw [List.map_cons] at this
          rw [this]; omega
        rcases hS with hS | hS
        · obtain ⟨its, rv, pl, _⟩ := I.list hS
          refine PySem.W.min_list_data (I.ok.hd hc) pl.isList (reads_ints rv) (alike_intsAll (n :: ns)) dz fun i v h' tk bs hv hr hk => ?_
          rw [minD_ints] at hr
          cases hr
          exact ⟨.int _, H, I.kept (t' := tk) hk, ⟨_, rfl⟩, k.here M (.int _)⟩
        · obtain ⟨its, rv, pl, _⟩ := I.tuple hS
          refine PySem.W.min_tuple_data (I.ok.hd hc) (show s.heap.IsTuple p its.toArray from pl) (reads_ints rv) (alike_intsAll (n :: ns)) dz fun i v h' tk bs hv hr hk => ?_
          rw [minD_ints] at hr
          cases hr
          exact ⟨.int _, H, I.kept (t' := tk) hk, ⟨_, rfl⟩, k.here M (.int _)⟩
  | [], h => simp [evBi] at h
  | _ :: _ :: _, h => simp [evBi] at h

/-- the name, the value of each builtin -/
def Bi.nm : Bi → Str
  | .len => "len" | .int => "int" | .abs => "abs" | .all => "all" | .any => "any" | .sum => "sum" | .min1 => "min" | .max1 => "max" | .min2 => "min" | .max2 => "max"
end
end R

set_option Elab.async false
set_option linter.all false
set_option maxRecDepth 100000
set_option maxHeartbeats 4000000
/-! R3e: expressions -/
namespace R
open PySem PySem.Spec PyProof.Rows L2

theorem _root_.L2.PE.imp {X : Cx} {e : Expr} {t t' : TE} (h : PE X e t) (hi : ∀ σ H Q, t' σ H Q → t σ H Q) : PE X e t' := R.PE.imp h hi
theorem _root_.L2.PT.imp {X : Cx} {e : Expr} {t t' : TT} (h : PT X e t) (hi : ∀ σ H Q, t' σ H Q → t σ H Q) : PT X e t' := R.PT.imp h hi
theorem _root_.L2.PW.imp {X : Cx} {e : Expr} {t t' : TT} (h : PW X e t) (hi : ∀ σ H Q, t' σ H Q → t σ H Q) : PW X e t' := R.PW.imp h hi
theorem _root_.L2.PA.imp {X : Cx} {e : List Expr} {t t' : TA} (h : PA X e t) (hi : ∀ σ H Q, t' σ H Q → t σ H Q) : PA X e t' := R.PA.imp h hi
theorem _root_.L2.PS.imp {X : Cx} {e : Stmt} {t t' : TS} (h : PS X e t) (hi : ∀ D σ H, t' D σ H → t D σ H) : PS X e t' := R.PS.imp h hi
theorem _root_.L2.PSs.imp {X : Cx} {e : List Stmt} {t t' : TS} (h : PSs X e t) (hi : ∀ D σ H, t' D σ H → t D σ H) : PSs X e t' := R.PSs.imp h hi
/-- the forms that an expression of ours may have -/
def okh : Expr → Bool
  | .Name .. | .Constant .. | .BinOp .. | .UnaryOp .. | .Compare .. | .BoolOp .. | .IfExp .. | .Subscript .. | .Call .. | .Tuple .. | .List .. | .Dict .. | .ListComp .. => true
  | _ => false
theorem okh_star {e : Expr} {es : List Expr} {env : PySem.Env} (h : okh e = true) : starEach (e :: es) env = (false, eval e env) :: starEach es env := by
  cases e <;> first | rfl | cases h
theorem okh_back : ∀ {es : List Expr} {env : PySem.Env} {pos : Pos}, es.all okh = true → (backTo pos (starEach es env)).any (·.1) = false
  | [], _, _, _ => rfl
  | e :: es, env, pos, h => by
    simp only [List.all_cons, Bool.and_eq_true] at h
    rw [okh_star h.1]
    have ih := okh_back (env := env) (pos := pos) h.2
    show (false || (backTo pos (starEach es env)).any (·.1)) = false
    rw [ih] <;> rfl
theorem okh_all : ∀ {es : List Expr} {env : PySem.Env} {pos : Pos}, es.all okh = true → (backTo pos (starEach es env)).all (fun x => !x.1) = true
  | [], _, _, _ => rfl
  | e :: es, env, pos, h => by
    simp only [List.all_cons, Bool.and_eq_true] at h
    rw [okh_star h.1]
    have ih := okh_all (env := env) (pos := pos) h.2
    show (true && (backTo pos (starEach es env)).all (fun x => !x.1)) = true
    rw [ih] <;> rfl
theorem okh_ix {e : Expr} (h : okh e = true) : PlainIx e := by
  intro o i
  cases e <;> first | rfl | cases h
theorem okh_mark {e : Expr} {op : CmpOp} (h : okh e = true) : behindInMarks op e = false := by
  cases e <;> first | rfl | cases h
/-- a receiver of a method: no call without arguments -/
def okr : Expr → Bool
  | .Name .. | .Subscript .. => true
  | .Call _ (_ :: _) [] _ => true
  | _ => false
theorem okr_base {e : Expr} {m : Str} {env : PySem.Env} {w : Sem Value} (h : okr e = true) : attributeBase e m env w = w := by
  cases e with
  | Call f as kw pos =>
    cases as with
    | nil => cases h
    | cons a as => cases kw <;> first | (cases f <;> (unfold attributeBase; rfl)) | cases h
  | Name => unfold attributeBase; rfl
  | Subscript => unfold attributeBase; rfl
  | _ => cases h

section
variable {X : Cx} {fa : Nat → Option Addr} {cal : Nat → List U → Mu → Option (U × Mu)} {n0 : Nat}
abbrev PEv (X : Cx) (fa : Nat → Option Addr) (cal : Nat → List U → Mu → Option (U × Mu)) (n0 : Nat) (x : Expr) (e : E) : Prop := PE X x (tE X.K fa n0 (evalE cal n0 e))
abbrev PTv (X : Cx) (fa : Nat → Option Addr) (cal : Nat → List U → Mu → Option (U × Mu)) (n0 : Nat) (x : Expr) (e : E) : Prop := PT X x (tT X.K fa n0 (evalE cal n0 e))
abbrev PAv (X : Cx) (fa : Nat → Option Addr) (cal : Nat → List U → Mu → Option (U × Mu)) (n0 : Nat) (x : List Expr) (e : List E) : Prop := PA X x (tL X.K fa n0 (evalL cal n0 e))
variable {a b c : E} {xa xb xc : Expr} {pos : Pos}

/-- a test by its value -/
theorem t_of_e (h : PEv X fa cal n0 xa a) (he : ∀ whole, isTrue xa X.env whole = (do let v ← whole; standAt xa.pos; holding [v] (truthy v))) : PTv X fa cal n0 xa a :=
  (pt_truth h he).imp fun σV H Q q => by
    obtain ⟨t, bs, m, σ, μ, u, μ', d, hb, he, M, ev, tr, k⟩ := q
    exact ⟨t, bs, m, σ, μ, u, μ', hb, he, M, ev, fun m' H' v x1 M1 r1 => ⟨d, truV_ok M1 r1 tr, k m' H' x1 M1⟩⟩

theorem e_var {i : Nat} {x : Str} (hN : X.N[i]? = some x) (hv : Vis X.env.scope x) (hd : (x == ("__debug__" : Str)) = false) (hcd : (x == ("__classdict__" : Str)) = false) : PEv X fa cal n0 (.Name x pos) (.var i) :=
  (pe_var hN hv hd hcd).imp fun σV H Q q => by
    obtain ⟨t, bs, m, σ, μ, u, μ', hb, he, M, ev, k⟩ := q
    simp only [evalE] at ev
    split at ev
    · rename_i u' e
      cases ev
      obtain ⟨v, e1, r⟩ := he.at_ i _ e
      exact ⟨v, e1, k.here M r⟩
    · cases ev
theorem e_c {e : E} {x : Expr} {u : U} {v : V} (h : PE X x (tC v)) (he : ∀ σ μ, evalE cal n0 e σ μ = some (u, μ)) (r : ∀ t m n H, Rp X.K fa t m n H u v) : PEv X fa cal n0 x e :=
  h.imp fun σV H Q q => by
    obtain ⟨t, bs, m, σ, μ, u, μ', hb, hE, M, ev, k⟩ := q
    rw [he] at ev
    cases ev
    exact k.here M (r _ _ _ _)
theorem e_non {j} : PEv X fa cal n0 (.Constant .none j pos) .non := e_c pe_non (fun _ _ => rfl) fun _ _ _ _ => .non
theorem e_bl {j} {d : Bool} : PEv X fa cal n0 (.Constant (.bool d) j pos) (.bl d) := e_c pe_bl (fun _ _ => rfl) fun _ _ _ _ => .bl d
theorem e_int {j} {i : Int} : PEv X fa cal n0 (.Constant (.int i) j pos) (.int i) := e_c pe_int (fun _ _ => rfl) fun _ _ _ _ => .int i
theorem e_str {j} {z : Str} : PEv X fa cal n0 (.Constant (.str z) j pos) (.str z) := e_c pe_str (fun _ _ => rfl) fun _ _ _ _ => .str z
theorem e_gint {x : Str} {i : Int} (hg : Gl X x) (hm : ∃ t, X.mg x = some (.int i t)) (hd : (x == ("__debug__" : Str)) = false) : PEv X fa cal n0 (.Name x pos) (.gint i) := by
  obtain ⟨t, e⟩ := hm
  exact e_c (pe_glob hg e (v := .int i) ⟨t, rfl⟩ hd) (fun _ _ => rfl) fun _ _ _ _ => .int i
theorem e_fnv {x : Str} {f : Nat} {p : Addr} (hg : Gl X x) (hm : X.mg x = some (.ref p)) (hf : fa f = some p) (hd : (x == ("__debug__" : Str)) = false) : PEv X fa cal n0 (.Name x pos) (.fnv f) :=
  e_c (pe_glob hg hm (v := .ref p) rfl hd) (fun _ _ => rfl) fun _ _ _ _ => .fn hf

/-- one value, then something -/
theorem seq1 {K : PySem.W.Frag} {t m : List Addr} {bs : List Nat} {σ : Env} {σV : L2.St} {H : Hp} {μ μ1 : Mu} {u1 : U} {ev : Ev} (hb : bs.length = n0) (he : EnvR K fa t m H σ σV) (M : Me K fa bs t m H μ) (e1 : ev σ μ = some (u1, μ1))
    {R : V → Hp → Prop} (k : ∀ m1 H1 v1, Ex m H m1 H1 → Me K fa bs t m1 H1 μ1 → Rp K fa t m1 m1.length H1 u1 v1 → R v1 H1) : tE K fa n0 ev σV H R := ⟨t, bs, m, σ, μ, u1, μ1, hb, he, M, e1, k⟩
theorem seq2 {K : PySem.W.Frag} {t m : List Addr} {bs : List Nat} {σ : Env} {σV : L2.St} {H : Hp} {μ μ1 μ2 : Mu} {u1 u2 : U} {ev ev2 : Ev} (hb : bs.length = n0) (he : EnvR K fa t m H σ σV) (M : Me K fa bs t m H μ) (e1 : ev σ μ = some (u1, μ1)) (e2 : ev2 σ μ1 = some (u2, μ2))
    {R : V → V → Hp → Prop} (k : ∀ m2 H2 v1 v2, Ex m H m2 H2 → Me K fa bs t m2 H2 μ2 → Rp K fa t m2 m2.length H2 u1 v1 → Rp K fa t m2 m2.length H2 u2 v2 → R v1 v2 H2) :
    tE K fa n0 ev σV H fun x H1 => tE K fa n0 ev2 σV H1 fun y H2 => R x y H2 :=
  seq1 hb he M e1 fun m1 H1 v1 x1 M1 r1 => seq1 hb (he.ex x1) M1 e2 fun m2 H2 v2 x2 M2 r2 => k m2 H2 v1 v2 (x1.trans x2) M2 (r1.ex' x2) r2

theorem e_bin {al : Bool} {op : Bo} (ha : PEv X fa cal n0 xa a) (hb : PEv X fa cal n0 xb b) : PEv X fa cal n0 (.BinOp xa op.op xb pos) (.bin al op a b) :=
  (pe_op (binR al op) ha hb).imp fun σV H Q q => by
    obtain ⟨t, bs, m, σ, μ, u, μ', hb, he, M, ev, k⟩ := q
    simp only [evalE] at ev
    split at ev
    · rename_i u1 μ1 e1
      split at ev
      · rename_i u2 μ2 e2
        exact seq2 hb he M e1 e2 fun m2 H2 v1 v2 x M2 r1 r2 => ⟨t, bs, m2, μ2, u1, u2, u, μ', M2, r1, r2, ev, k.ex x⟩
      · cases ev
    · cases ev
theorem e_neg (ha : PEv X fa cal n0 xa a) : PEv X fa cal n0 (.UnaryOp .USub xa pos) (.neg a) :=
  (pe_un un_neg ha).imp fun σV H Q q => by
    obtain ⟨t, bs, m, σ, μ, u, μ', hb, he, M, ev, k⟩ := q
    simp only [evalE] at ev
    split at ev
    · rename_i i μ1 e1
      cases ev
      refine seq1 hb he M e1 fun m1 H1 v1 x M1 r1 => ?_
      cases r1
      exact ⟨i, rfl, k m1 H1 _ x M1 (.int _)⟩
    · cases ev
theorem cmp_rd {op : Co} {σV : L2.St} {H : Hp} {Q : VK} (q : tE X.K fa n0 (evalE cal n0 (.cmp op a b)) σV H Q) : tOp (rC2 X.K fa fun μ a b => evCmp μ op a b) (tE X.K fa n0 (evalE cal n0 a)) (tE X.K fa n0 (evalE cal n0 b)) σV H Q := by
  obtain ⟨t, bs, m, σ, μ, u, μ', hb, he, M, ev, k⟩ := q
  simp only [evalE] at ev
  split at ev
  · rename_i u1 μ1 e1
    split at ev
    · rename_i u2 μ2 e2
      split at ev
      · rename_i d e3
        cases ev
        exact seq2 hb he M e1 e2 fun m2 H2 v1 v2 x M2 r1 r2 => ⟨t, bs, m2, _, u1, u2, d, M2, r1, r2, e3, k m2 H2 _ x M2 (.bl _)⟩
      · cases ev
    · cases ev
  · cases ev
theorem e_cmp {op : Co} (hu : X.A.units + 66 < cLine) (ha : PEv X fa cal n0 xa a) (hb : PEv X fa cal n0 xb b) (hk : okh xb = true) : PEv X fa cal n0 (.Compare xa [op.op] [xb] pos) (.cmp op a b) :=
  (pe_cmpR (cmpR hu op) ha hb (okh_mark hk)).imp fun σV H Q q => cmp_rd q
theorem cmp_bl {op : Co} {σ : Env} {μ μ' : Mu} {u : U} (h : evalE cal n0 (.cmp op a b) σ μ = some (u, μ')) : ∃ d, u = .bl d := by
  simp only [evalE] at h
  split at h
  · split at h
    · split at h
      · cases h; exact ⟨_, rfl⟩
      · cases h
    · cases h
  · cases h
/-- a bool's test -/
theorem tT_bl {K : PySem.W.Frag} {ev : Ev} {σV : L2.St} {H : Hp} {Q : Bool → Hp → Prop} (hbl : ∀ σ μ u μ', ev σ μ = some (u, μ') → ∃ d, u = .bl d) (h : tT K fa n0 ev σV H Q) : tE K fa n0 ev σV H fun x H' => ∃ k, x = .bl k ∧ Q k H' := by
  obtain ⟨t, bs, m, σ, μ, u, μ', d, hb, he, M, ev, tr, k⟩ := h
  obtain ⟨e, rfl⟩ := hbl _ _ _ _ ev
  cases tr
  exact ⟨t, bs, m, σ, μ, _, μ', hb, he, M, ev, fun m1 H1 v x1 M1 r1 => by cases r1; exact ⟨d, rfl, k m1 H1 x1 M1⟩⟩
theorem t_cmp {op : Co} (hu : X.A.units + 66 < cLine) (ha : PEv X fa cal n0 xa a) (hb : PEv X fa cal n0 xb b) (hk : okh xb = true) : PTv X fa cal n0 (.Compare xa [op.op] [xb] pos) (.cmp op a b) :=
  (pt_cmpR (cmpR hu op) ha hb (okh_mark hk)).imp fun σV H Q q => cmp_rd (tT_bl (fun _ _ _ _ e => cmp_bl e) q)
theorem chain_rd {op op' : Co} {σV : L2.St} {H : Hp} {Q : VK} (q : tE X.K fa n0 (evalE cal n0 (.chain op op' a b c)) σV H Q) :
    tChain (rC2 X.K fa fun μ a b => evCmp μ op a b) (rC2 X.K fa fun μ a b => evCmp μ op' a b) (tE X.K fa n0 (evalE cal n0 a)) (tE X.K fa n0 (evalE cal n0 b)) (tE X.K fa n0 (evalE cal n0 c)) σV H Q := by
  obtain ⟨t, bs, m, σ, μ, u, μ', hb, he, M, ev, k⟩ := q
  simp only [evalE] at ev
  split at ev
  · rename_i u1 μ1 e1
    split at ev
    · rename_i u2 μ2 e2
      refine seq2 hb he M e1 e2 fun m2 H2 v1 v2 x M2 r1 r2 => ?_
      split at ev
      · rename_i e3
        cases ev
        refine ⟨t, bs, m2, _, u1, u2, false, M2, r1, r2, e3, false, rfl, ?_⟩
        rw [if_neg (by decide)]
        exact k m2 H2 _ x M2 (.bl _)
      · rename_i e3
        refine ⟨t, bs, m2, μ2, u1, u2, true, M2, r1, r2, e3, true, rfl, ?_⟩
        rw [if_pos rfl]
        split at ev
        · rename_i w μ3 e4
          split at ev
          · rename_i d e5
            cases ev
            refine seq1 hb (he.ex x) M2 e4 fun m3 H3 v3 x3 M3 r3 => ?_
            exact ⟨t, bs, m3, _, u2, w, d, M3, r2.ex' x3, r3, e5, k m3 H3 _ (x.trans x3) M3 (.bl _)⟩
          · cases ev
        · cases ev
      · cases ev
    · cases ev
  · cases ev
theorem chain_bl {op op' : Co} {σ : Env} {μ μ' : Mu} {u : U} (h : evalE cal n0 (.chain op op' a b c) σ μ = some (u, μ')) : ∃ d, u = .bl d := by
  simp only [evalE] at h
  split at h
  · split at h
    · split at h
      · cases h; exact ⟨_, rfl⟩
      · split at h
        · split at h
          · cases h; exact ⟨_, rfl⟩
          · cases h
        · cases h
      · cases h
    · cases h
  · cases h
theorem okh_last {op op' : CmpOp} {e f : Expr} (h : okh f = true) : lastMarks [op, op'] [e, f] = false := okh_mark (op := op') h
theorem e_chain {op op' : Co} (hu : X.A.units + 66 < cLine) (ha : PEv X fa cal n0 xa a) (hb : PEv X fa cal n0 xb b) (hc : PEv X fa cal n0 xc c) (hk : okh xc = true) : PEv X fa cal n0 (.Compare xa [op.op, op'.op] [xb, xc] pos) (.chain op op' a b c) :=
  (pe_chain (cmpR hu op) (cmpR hu op') ha hb hc (okh_last hk)).imp fun σV H Q q => chain_rd q
theorem t_chain {op op' : Co} (hu : X.A.units + 66 < cLine) (ha : PEv X fa cal n0 xa a) (hb : PEv X fa cal n0 xb b) (hc : PEv X fa cal n0 xc c) (hk : okh xc = true) : PTv X fa cal n0 (.Compare xa [op.op, op'.op] [xb, xc] pos) (.chain op op' a b c) :=
  (pt_chain (cmpR hu op) (cmpR hu op') ha hb hc (okh_last hk)).imp fun σV H Q q => chain_rd (tT_bl (fun _ _ _ _ e => chain_bl e) q)
theorem e_not (ha : PEv X fa cal n0 xa a) : PEv X fa cal n0 (.UnaryOp .Not xa pos) (.not a) :=
  (pe_notT ha).imp fun σV H Q q => by
    obtain ⟨t, bs, m, σ, μ, u, μ', hb, he, M, ev, k⟩ := q
    simp only [evalE] at ev
    split at ev
    · rename_i u1 μ1 e1
      split at ev
      · rename_i d e2
        cases ev
        exact seq1 hb he M e1 fun m1 H1 v1 x M1 r1 => ⟨d, truV_ok M1 r1 e2, k m1 H1 _ x M1 (.bl _)⟩
      · cases ev
    · cases ev
theorem t_not (ha : PTv X fa cal n0 xa a) : PTv X fa cal n0 (.UnaryOp .Not xa pos) (.not a) :=
  (pt_not ha).imp fun σV H Q q => by
    obtain ⟨t, bs, m, σ, μ, u, μ', d, hb, he, M, ev, tr, k⟩ := q
    simp only [evalE] at ev
    split at ev
    · rename_i u1 μ1 e1
      split at ev
      · rename_i d' e2
        cases ev
        cases tr
        exact ⟨t, bs, m, σ, μ, u1, _, d', hb, he, M, e1, e2, k⟩
      · cases ev
    · cases ev
theorem e_ite (hc : PTv X fa cal n0 xc c) (ha : PEv X fa cal n0 xa a) (hb : PEv X fa cal n0 xb b) : PEv X fa cal n0 (.IfExp xc xa xb pos) (.ite c a b) :=
  (pe_ifExp hc ha hb).imp fun σV H Q q => by
    obtain ⟨t, bs, m, σ, μ, u, μ', hb, he, M, ev, k⟩ := q
    simp only [evalE] at ev
    split at ev
    · rename_i u1 μ1 e1
      split at ev
      · rename_i e2
        refine ⟨t, bs, m, σ, μ, u1, μ1, true, hb, he, M, e1, e2, fun m1 H1 x1 M1 => ?_⟩
        simp only [↓reduceIte]
        exact ⟨t, bs, m1, σ, μ1, u, μ', hb, he.ex x1, M1, ev, k.ex x1⟩
      · rename_i e2
        refine ⟨t, bs, m, σ, μ, u1, μ1, false, hb, he, M, e1, e2, fun m1 H1 x1 M1 => ?_⟩
        simp only [↓reduceIte, Bool.false_eq_true]
        exact ⟨t, bs, m1, σ, μ1, u, μ', hb, he.ex x1, M1, ev, k.ex x1⟩
      · cases ev
    · cases ev
/-- a test of a if c else b -/
theorem pt_ifExp {tc ta tb : TT} (hc : PT X xc tc) (ha : PT X xa ta) (hb : PT X xb tb) : PT X (.IfExp xc xa xb pos) (fun σ H Q => tc σ H fun d H1 => if d = true then ta σ H1 Q else tb σ H1 Q) := by
  refine ⟨fun pins s σ H Q I h => ?_⟩
  unfold PySem.isTrue
  refine wpAny_bind (thn (hc.run pins s σ H _ I h) fun d s1 ⟨H1, I1, q1⟩ => ?_)
  cases d with
  | true => exact ha.run pins s1 σ H1 Q I1 q1
  | false => exact hb.run pins s1 σ H1 Q I1 q1
theorem t_ite (hc : PTv X fa cal n0 xc c) (ha : PTv X fa cal n0 xa a) (hb : PTv X fa cal n0 xb b) : PTv X fa cal n0 (.IfExp xc xa xb pos) (.ite c a b) :=
  (pt_ifExp hc ha hb).imp fun σV H Q q => by
    obtain ⟨t, bs, m, σ, μ, u, μ', d, hb, he, M, ev, tr, k⟩ := q
    simp only [evalE] at ev
    split at ev
    · rename_i u1 μ1 e1
      split at ev
      · rename_i e2
        refine ⟨t, bs, m, σ, μ, u1, μ1, true, hb, he, M, e1, e2, fun m1 H1 x1 M1 => ?_⟩
        simp only [↓reduceIte]
        exact ⟨t, bs, m1, σ, μ1, u, μ', d, hb, he.ex x1, M1, ev, tr, fun m2 H2 x2 M2 => k m2 H2 (x1.trans x2) M2⟩
      · rename_i e2
        refine ⟨t, bs, m, σ, μ, u1, μ1, false, hb, he, M, e1, e2, fun m1 H1 x1 M1 => ?_⟩
        simp only [↓reduceIte, Bool.false_eq_true]
        exact ⟨t, bs, m1, σ, μ1, u, μ', d, hb, he.ex x1, M1, ev, tr, fun m2 H2 x2 M2 => k m2 H2 (x1.trans x2) M2⟩
      · cases ev
    · cases ev
theorem e_idx (hu : X.A.units + 66 < cLine) (ha : PEv X fa cal n0 xa a) (hb : PEv X fa cal n0 xb b) (hk : okh xb = true) : PEv X fa cal n0 (.Subscript xa xb pos) (.idx a b) :=
  (pe_ix (idxR hu) ha hb (okh_ix hk)).imp fun σV H Q q => by
    obtain ⟨t, bs, m, σ, μ, u, μ', hb, he, M, ev, k⟩ := q
    simp only [evalE] at ev
    split at ev
    · rename_i u1 μ1 e1
      split at ev
      · rename_i u2 μ2 e2
        split at ev
        · rename_i w e3
          cases ev
          exact seq2 hb he M e1 e2 fun m2 H2 v1 v2 x M2 r1 r2 => ⟨t, bs, m2, _, u1, u2, _, M2, r1, r2, e3, fun v r => k m2 H2 v x M2 r⟩
        · cases ev
      · cases ev
    · cases ev
/-- arguments -/
theorem a_nil : PAv X fa cal n0 [] [] := pa_nil.imp fun σV H Q q => by
  obtain ⟨t, bs, m, σ, μ, us, μ', hb, he, M, ev, k⟩ := q
  simp only [evalL] at ev
  cases ev
  exact k m H [] (Ex.refl m H) M .nil
theorem a_cons {es : List E} {xs : List Expr} (ha : PEv X fa cal n0 xa a) (hr : PAv X fa cal n0 xs es) (hk : okh xa = true) : PAv X fa cal n0 (xa :: xs) (a :: es) :=
  (pa_cons ha hr (okh_star hk)).imp fun σV H Q q => by
    obtain ⟨t, bs, m, σ, μ, us, μ', hb, he, M, ev, k⟩ := q
    simp only [evalL] at ev
    split at ev
    · rename_i u1 μ1 e1
      split at ev
      · rename_i us2 μ2 e2
        cases ev
        exact seq1 hb he M e1 fun m1 H1 v1 x1 M1 r1 => ⟨t, bs, m1, σ, μ1, us2, _, hb, he.ex x1, M1, e2, fun m2 H2 vs x2 M2 ra => k m2 H2 _ (x1.trans x2) M2 (.cons (r1.ex' x2) ra)⟩
      · cases ev
    · cases ev
theorem e_tup {es : List E} {xs : List Expr} {j} (h : PAv X fa cal n0 xs es) : PEv X fa cal n0 (.Tuple xs j pos) (.tup es) :=
  (pe_tup h).imp fun σV H Q q => by
    obtain ⟨t, bs, m, σ, μ, u, μ', hb, he, M, ev, k⟩ := q
    simp only [evalE] at ev
    split at ev
    · rename_i us μ1 e1
      split at ev
      · rename_i hz
        cases ev
        have hl := sz_line
        exact ⟨t, bs, m, σ, μ, us, _, hb, he, M, e1, fun m1 H1 vs x1 M1 ra => ⟨by rw [← ra.length]; omega, fun p hp => (k.ex x1).tup M1 hp ra⟩⟩
      · cases ev
    · cases ev
theorem e_lst {al : Bool} {es : List E} {xs : List Expr} (h : PAv X fa cal n0 xs es) : PEv X fa cal n0 (.List xs pos) (.lst al es) :=
  (pe_lst h).imp fun σV H Q q => by
    obtain ⟨t, bs, m, σ, μ, u, μ', hb, he, M, ev, k⟩ := q
    simp only [evalE] at ev
    split at ev
    · rename_i us μ1 e1
      split at ev
      · rename_i hz
        obtain ⟨rfl, rfl⟩ := Prod.mk.inj (Option.some.inj ev)
        have hl := sz_line
        exact ⟨t, bs, m, σ, μ, us, _, hb, he, M, e1, fun m1 H1 vs x1 M1 ra => ⟨by rw [← ra.length]; omega, fun p hp => (k.ex x1).lst M1 hp ra⟩⟩
      · cases ev
    · cases ev
end
end R

set_option Elab.async false
set_option linter.all false
set_option maxRecDepth 100000
set_option maxHeartbeats 4000000
/-! R3f: temporaries that become values; slices, displays, and/or, builtins, methods -/
namespace R
open PySem PySem.Spec PyProof.Rows L2

section
variable {K : PySem.W.Frag} {fa : Nat → Option Addr} {t m m' : List Addr} {n n' : Nat} {H H' : Hp} {bs : List Nat} {μ : Mu} {D : Addr}
mutual
/-- the temporary becomes a mutable one -/
theorem Rp.ad : ∀ {u : U} {v : V}, Rp K fa (D :: t) m n H u v → Rp K fa t (m ++ [D]) n H u v
  | _, _, .non => .non
  | _, _, .bl b => .bl b
  | _, _, .int i => .int i
  | _, _, .str x => .str x
  | _, _, .tup h r => .tup ⟨h.1, fun z => by
      rcases List.mem_append.mp z with z | z
      · exact h.2.1 z
      · exact h.2.2 (by simp at z; simp [z]), fun z => h.2.2 (by simp [z])⟩ (RpA.ad r)
  | _, _, .lst h r => .lst ⟨h.1, fun z => by
      rcases List.mem_append.mp z with z | z
      · exact h.2.1 z
      · exact h.2.2 (by simp at z; simp [z]), fun z => h.2.2 (by simp [z])⟩ (RpA.ad r)
  | _, _, .dK h q z r => .dK h (fun y => by
      rcases List.mem_append.mp y with y | y
      · exact q y
      · exact z (by simp at y; simp [y])) (fun y => z (by simp [y])) (RpA.ad r)
  | _, _, .dT h q z r => .dT h (fun y => by
      rcases List.mem_append.mp y with y | y
      · exact q y
      · exact z (by simp at y; simp [y])) (fun y => z (by simp [y])) (RpA.ad r)
  | _, _, .ob hi h => .ob hi (by rw [List.getElem?_append_left (List.getElem?_eq_some_iff.mp h).1]; exact h)
  | _, _, .fn h => .fn h
  | _, _, .scr h => .scr (h.elim (fun q => .inl ⟨q.1, fun z => by
      rcases List.mem_append.mp z with z | z
      · exact q.2.1 z
      · exact q.2.2 (by simp at z; simp [z]), fun z => q.2.2 (by simp [z])⟩) .inr)
theorem RpA.ad : ∀ {us : List U} {vs : List V}, RpA K fa (D :: t) m n H us vs → RpA K fa t (m ++ [D]) n H us vs
  | _, _, .nil => .nil
  | _, _, .cons h r => .cons (Rp.ad h) (RpA.ad r)
end
mutual
theorem Rp.mono (hn : n ≤ n') : ∀ {u : U} {v : V}, Rp K fa t m n H u v → Rp K fa t m n' H u v
  | _, _, h => h.ex (Ex.refl m H) hn
/-- no mutable one within: any bound -/
theorem Rp.nomut : ∀ {u : U} {v : V}, Rp K fa t m n H u v → nomut u = true → Rp K fa t m n' H u v
  | _, _, .non, _ => .non
  | _, _, .bl b, _ => .bl b
  | _, _, .int i, _ => .int i
  | _, _, .str x, _ => .str x
  | _, _, .tup h r, z => .tup h (RpA.nomut r (by simpa [R.nomut] using z))
  | _, _, .lst h r, z => .lst h (RpA.nomut r (by simpa [R.nomut] using z))
  | _, _, .dK h q y r, z => .dK h q y (RpA.nomut r (by simpa [R.nomut] using z))
  | _, _, .dT h q y r, z => .dT h q y (RpA.nomut r (by simpa [R.nomut] using z))
  | _, _, .ob hi h, z => by simp [R.nomut] at z
  | _, _, .fn h, _ => .fn h
  | _, _, .scr h, _ => .scr h
theorem RpA.nomut : ∀ {us : List U} {vs : List V}, RpA K fa t m n H us vs → nomuts us = true → RpA K fa t m n' H us vs
  | _, _, .nil, _ => .nil
  | _, _, .cons h r, z => by
    simp only [nomuts, Bool.and_eq_true] at z
    exact .cons (Rp.nomut h z.1) (RpA.nomut r z.2)
end
theorem RpA.erase : ∀ {us : List U} {vs : List V} (i : Nat), RpA K fa t m n H us vs → RpA K fa t m n H (us.eraseIdx i) (vs.eraseIdx i)
  | _, _, _, .nil => .nil
  | _, _, 0, .cons _ r => r
  | _, _, i + 1, .cons h r => .cons h (RpA.erase i r)
theorem RpA.dropL {us : List U} {vs : List V} (r : RpA K fa t m n H us vs) : RpA K fa t m n H us.dropLast vs.dropLast := by
  rw [List.dropLast_eq_take, List.dropLast_eq_take, r.length]
  exact r.take _
theorem Ex.tmp (e : Ex m H m' H') (h : H D = none) {o : HO} : Ex m H m' (L2.upd H' D o) :=
  ⟨e.pre, fun a u q n => by rw [upd_ne (ne_of_none q h)]; exact e.keep a u q n, e.new⟩
theorem Ex.adopt (e : Ex m H m' H') (h : H D = none) : Ex m H (m' ++ [D]) H' :=
  ⟨by obtain ⟨t, rfl⟩ := e.pre; exact ⟨t ++ [D], by simp⟩, e.keep, fun a q n => by
    rcases List.mem_append.mp q with q | q
    · exact e.new a q n
    · simp at q; subst q; exact h⟩
theorem Me.adopt (M : Me K fa bs (D :: t) m H μ) (hD : D ∉ t) {o : U} (c : Ct K fa t (m ++ [D]) (m.length + 1) H D o) : Me K fa bs t (m ++ [D]) H (μ ++ [o]) := by
  have nm := (M.tt D (by simp)).1
  have e : Ex m H (m ++ [D]) H → True := fun _ => trivial
  refine ⟨by simp [M.len], by have := M.low; simp; omega, ?_, fun i a u h1 h2 => ?_, M.bd, fun a ha => ?_⟩
  · rw [List.nodup_append]
    refine ⟨M.nd, by simp, fun a ha b hb => ?_⟩
    simp at hb; subst hb
    exact fun z => nm (z ▸ ha)
  · by_cases hi : i < m.length
    · rw [List.getElem?_append_left hi] at h1
      rw [List.getElem?_append_left (by rw [← M.len]; exact hi)] at h2
      have q := M.ct i a u h1 h2
      have hb : (bs[i]?.getD m.length) ≤ (bs[i]?.getD (m ++ [D]).length) := by
        cases hb : bs[i]? with
        | none => simp
        | some b => simp
      cases q with
      | lst q r => exact .lst q (r.ad.ex (Ex.refl _ _) hb)
      | dK q r => exact .dK q (r.ad.ex (Ex.refl _ _) hb)
      | dT q r => exact .dT q (r.ad.ex (Ex.refl _ _) hb)
    · have hi' : i = m.length := by
        have := (List.getElem?_eq_some_iff.mp h1).1
        simp at this; omega
      subst hi'
      simp at h1
      rw [M.len] at h2
      simp at h2
      subst h1 h2
      have hb : bs[m.length]? = none := List.getElem?_eq_none_iff.mpr M.low
      rw [hb]
      simpa using c
  · obtain ⟨h1, o', h2, h3⟩ := M.tt a (by simp [ha])
    refine ⟨fun z => ?_, o', h2, h3⟩
    rcases List.mem_append.mp z with z | z
    · exact h1 z
    · simp at z; subst z; exact hD ha
/-- a temporary list becomes the value -/
theorem Kn.tmpL {m2 : List Addr} {H3 : Hp} {μ2 : Mu} {us : List U} {vs : List V} {al : Bool} {Q : VK} (k : Kn K fa bs t m H (fresh al (.lst us) μ2).1 (fresh al (.lst us) μ2).2 Q) (hD : H D = none) (hDt : D ∉ t) (e : Ex m H m2 H3)
    (M : Me K fa bs (D :: t) m2 H3 μ2) (hH : H3 D = some (.lst vs)) (ra : RpA K fa (D :: t) m2 m2.length H3 us vs) : Q (.ref D) H3 := by
  cases al with
  | false => exact k m2 H3 _ e (M.tw fun a ha => by simp [ha]) (.lst ⟨hH, (M.tt D (by simp)).1, hDt⟩ (ra.tw fun a ha => by simp [ha]))
  | true =>
    have ra' : RpA K fa t (m2 ++ [D]) (m2.length + 1) H3 us vs := ra.ad.ex (Ex.refl _ _) (by omega)
    exact k (m2 ++ [D]) H3 _ (e.adopt hD) (M.adopt hDt (.lst hH ra')) (.ob (by simp [← M.len]) (by simp [← M.len]))
theorem Kn.tmpK {m2 : List Addr} {H3 : Hp} {μ2 : Mu} {us : List U} {kvs : List (Key × V)} {al : Bool} {Q : VK} (k : Kn K fa bs t m H (fresh al (.dk (kvs.map (·.1)) us) μ2).1 (fresh al (.dk (kvs.map (·.1)) us) μ2).2 Q) (hD : H D = none) (hDt : D ∉ t) (e : Ex m H m2 H3)
    (M : Me K fa bs (D :: t) m2 H3 μ2) (hH : H3 D = some (.dK kvs)) (ra : RpA K fa (D :: t) m2 m2.length H3 us (kvs.map (·.2))) : Q (.ref D) H3 := by
  cases al with
  | false => exact k m2 H3 _ e (M.tw fun a ha => by simp [ha]) (.dK hH (M.tt D (by simp)).1 hDt (ra.tw fun a ha => by simp [ha]))
  | true =>
    have ra' : RpA K fa t (m2 ++ [D]) (m2.length + 1) H3 us (kvs.map (·.2)) := ra.ad.ex (Ex.refl _ _) (by omega)
    exact k (m2 ++ [D]) H3 _ (e.adopt hD) (M.adopt hDt (.dK hH ra')) (.ob (by simp [← M.len]) (by simp [← M.len]))
theorem EnvR.tn {σ : Env} {σV : L2.St} {o : HO} (h : EnvR K fa t m H σ σV) (hD : H D = none) : EnvR K fa (D :: t) m (L2.upd H D o) σ σV :=
  ⟨h.len, fun i u q => let ⟨v, a, b⟩ := h.at_ i u q; ⟨v, a, (b.tn hD).ex (Ex.upd hD) (Nat.le_refl _)⟩⟩
theorem EnvR.set {σ : Env} {σV : L2.St} {i : Nat} {u : U} {v : V} (h : EnvR K fa t m H σ σV) (r : Rp K fa t m m.length H u v) : EnvR K fa t m H (σ.set i (some u)) (σV.set i (some v)) := by
  refine ⟨by simp [h.len], fun j w q => ?_⟩
  by_cases hj : i = j
  · subst hj
    have hl : i < σ.length := by
      have := (List.getElem?_eq_some_iff.mp q).1
      simpa using this
    rw [List.getElem?_set_self hl] at q
    cases q
    exact ⟨v, by rw [List.getElem?_set_self (by rw [← h.len]; exact hl)], r⟩
  · rw [List.getElem?_set_ne hj] at q ⊢
    exact h.at_ j w q
theorem EnvR.setN {σ : Env} {σV : L2.St} {i : Nat} (h : EnvR K fa t m H σ σV) : EnvR K fa t m H (σ.set i none) (σV.set i none) := by
  refine ⟨by simp [h.len], fun j w q => ?_⟩
  by_cases hj : i = j
  · subst hj
    have hl : i < σ.length := by
      have := (List.getElem?_eq_some_iff.mp q).1
      simpa using this
    rw [List.getElem?_set_self hl] at q
    cases q
  · rw [List.getElem?_set_ne hj] at q ⊢
    exact h.at_ j w q
theorem EnvR.wipe {σ : Env} {σV : L2.St} (h : EnvR K fa t m H σ σV) : ∀ ws : List Nat, EnvR K fa t m H (wipeE σ ws) (L2.wipe σV ws)
  | [] => h
  | w :: ws => (EnvR.wipe h ws).setN
end

section
variable {X : Cx} {fa : Nat → Option Addr} {cal : Nat → List U → Mu → Option (U × Mu)} {n0 : Nat}
variable {a b c : E} {xa xb xc : Expr} {pos : Pos}
/-! ### slices -/
/-- a slice's part: left out, None or an int -/
def tPartU (te : TE) : TO := fun σ H Q => te σ H fun x H1 => ∃ o, (x = .non ∧ o = none ∨ ∃ i, x = .int i ∧ o = some i) ∧ Q o H1
theorem po_u {e : Expr} {te : TE} (h : PE X e te) : PO X (some e) (tPartU te) := by
  refine ⟨fun pins s σ H Q I hw => ?_⟩
  rw [evalPart_some]
  refine thn (h.run pins s σ H _ I hw) fun u s1 ⟨x, H1, I1, r1, o, hx, q⟩ => ?_
  rcases hx with ⟨rfl, rfl⟩ | ⟨i, rfl, rfl⟩
  · cases r1
    exact ⟨none, H1, I1, .none, q⟩
  · obtain ⟨t, rfl⟩ := r1
    exact ⟨some i, H1, I1, .int i t, q⟩
/-- a part in our language -/
def POv (X : Cx) (fa : Nat → Option Addr) (cal : Nat → List U → Mu → Option (U × Mu)) (n0 : Nat) (x : Option Expr) (e : E) : Prop :=
  PO X x (fun σV H Q => ∃ t bs m σ μ u μ' o, bs.length = n0 ∧ EnvR X.K fa t m H σ σV ∧ Me X.K fa bs t m H μ ∧ evalE cal n0 e σ μ = some (u, μ') ∧ bnd u = some o ∧ ∀ m' H', Ex m H m' H' → Me X.K fa bs t m' H' μ' → Q o H')
theorem PO.imp {e : Option Expr} {t t' : TO} (h : PO X e t) (hi : ∀ σ H Q, t' σ H Q → t σ H Q) : PO X e t' := ⟨fun pins s σ H Q I q => h.run pins s σ H Q I (hi _ _ _ q)⟩
theorem pov_none : POv X fa cal n0 none .non := PO.imp po_none fun σV H Q q => by
  obtain ⟨t, bs, m, σ, μ, u, μ', o, hb, he, M, ev, eb, k⟩ := q
  cases ev
  cases eb
  exact k m H (Ex.refl m H) M
theorem pov_some (h : PEv X fa cal n0 xa a) : POv X fa cal n0 (some xa) a := PO.imp (po_u h) fun σV H Q q => by
  obtain ⟨t, bs, m, σ, μ, u, μ', o, hb, he, M, ev, eb, k⟩ := q
  refine seq1 hb he M ev fun m1 H1 v1 x M1 r1 => ⟨o, ?_, k m1 H1 x M1⟩
  cases u with
  | non => cases r1; cases eb; exact .inl ⟨rfl, rfl⟩
  | int i => cases r1; cases eb; exact .inr ⟨i, rfl, rfl⟩
  | _ => cases eb
theorem e_slc {al : Bool} {lo hi : E} {xlo xhi : Option Expr} {p2 : Pos} (ha : PEv X fa cal n0 xa a) (hl : POv X fa cal n0 xlo lo) (hh : POv X fa cal n0 xhi hi) : PEv X fa cal n0 (.Subscript xa (.Slice xlo xhi none p2) pos) (.slc al a lo hi) :=
  (pe_slice (slR al) ha hl hh).imp fun σV H Q q => by
    obtain ⟨t, bs, m, σ, μ, u, μ', hb, he, M, ev, k⟩ := q
    simp only [evalE] at ev
    split at ev
    · rename_i u1 μ1 e1
      split at ev
      · rename_i u2 μ2 e2
        split at ev
        · rename_i u3 μ3 e3
          cases e4 : bnd u2 with
          | none => simp [evSlc, e4] at ev
          | some l =>
            cases e5 : bnd u3 with
            | none => simp [evSlc, e4, e5] at ev
            | some h =>
              refine seq1 hb he M e1 fun m1 H1 v1 x1 M1 r1 => ?_
              refine ⟨t, bs, m1, σ, μ1, u2, μ2, l, hb, he.ex x1, M1, e2, e4, fun m2 H2 x2 M2 => ?_⟩
              refine ⟨t, bs, m2, σ, μ2, u3, μ3, h, hb, (he.ex x1).ex x2, M2, e3, e5, fun m3 H3 x3 M3 => ?_⟩
              exact ⟨t, bs, m3, μ3, u1, u2, u3, u, μ', M3, (r1.ex' x2).ex' x3, e4, e5, ev, k.ex (x1.trans (x2.trans x3))⟩
        · cases ev
      · cases ev
    · cases ev
/-- xs[::-1] of a list, of a tuple -/
theorem e_revL {al : Bool} {j} {p1 p2 p3 : Pos} (ha : PEv X fa cal n0 xa a) : PEv X fa cal n0 (.Subscript xa (.Slice none none (some (.UnaryOp .USub (.Constant (.int 1) j p1) p2)) p3) pos) (.rev al a) :=
  (pe_revA ha).imp fun σV H Q q => by
    obtain ⟨t, bs, m, σ, μ, u, μ', hb, he, M, ev, k⟩ := q
    simp only [evalE] at ev
    split at ev
    · rename_i u1 μ1 e1
      refine seq1 hb he M e1 fun m1 H1 v1 x1 M1 r1 => ?_
      unfold evRev at ev
      split at ev
      · obtain ⟨rfl, rfl⟩ := Prod.mk.inj (Option.some.inj ev)
        cases r1 with
        | tup f ra => exact ⟨_, _, rfl, .inr ⟨f.sq, fun q hq => (k.ex x1).tup M1 hq ra.rev⟩⟩
      · split at ev
        · rename_i xs e2
          obtain ⟨rfl, rfl⟩ := Prod.mk.inj (Option.some.inj ev)
          obtain ⟨p, vs, rfl, hH, ra⟩ := asL_at M1 r1 e2
          exact ⟨p, vs, rfl, .inl ⟨SqL.of hH, fun q hq => (k.ex x1).lst M1 hq ra.rev⟩⟩
        · cases ev
    · cases ev
/-! ### and, or -/
def bop : Bool → BoolOp
  | true => .And
  | false => .Or
abbrev PBv (X : Cx) (fa : Nat → Option Addr) (cal : Nat → List U → Mu → Option (U × Mu)) (n0 : Nat) (x : Expr) (and : Bool) (es : List E) : Prop := PE X x (tE X.K fa n0 (evalB cal n0 and es))
abbrev PBw (X : Cx) (fa : Nat → Option Addr) (cal : Nat → List U → Mu → Option (U × Mu)) (n0 : Nat) (x : Expr) (and : Bool) (es : List E) : Prop := PW X x (tT X.K fa n0 (evalB cal n0 and es))
theorem b_one {and : Bool} (ha : PEv X fa cal n0 xa a) : PBv X fa cal n0 (.BoolOp (bop and) [xa] pos) and [a] := (pe_one ha).imp fun σV H Q q => by simpa only [evalB] using q
theorem b_cons {and : Bool} {e2 : E} {es : List E} {xs : List Expr} (ha : PEv X fa cal n0 xa a) (hr : PBv X fa cal n0 (.BoolOp (bop and) (xb :: xs) pos) and (e2 :: es)) : PBv X fa cal n0 (.BoolOp (bop and) (xa :: xb :: xs) pos) and (a :: e2 :: es) := by
  have rd : ∀ {σV : L2.St} {H : Hp} {Q : VK}, tE X.K fa n0 (evalB cal n0 and (a :: e2 :: es)) σV H Q → tE X.K fa n0 (evalE cal n0 a) σV H fun x H1 => ∃ k, TruV X.K x H1 k ∧ if k = and then tE X.K fa n0 (evalB cal n0 and (e2 :: es)) σV H1 Q else Q x H1 := by
    intro σV H Q q
    obtain ⟨t, bs, m, σ, μ, u, μ', hb, he, M, ev, k⟩ := q
    simp only [evalB] at ev
    split at ev
    · rename_i u1 μ1 e1
      split at ev
      · rename_i d e3
        refine seq1 hb he M e1 fun m1 H1 v1 x1 M1 r1 => ⟨d, truV_ok M1 r1 e3, ?_⟩
        by_cases hd : d = and
        · rw [if_pos hd] at ev ⊢
          exact ⟨t, bs, m1, σ, μ1, u, μ', hb, he.ex x1, M1, ev, k.ex x1⟩
        · rw [if_neg hd] at ev ⊢
          cases ev
          exact k m1 H1 v1 x1 M1 r1
      · cases ev
    · cases ev
  cases and with
  | true =>
    refine (pe_andT ha hr).imp fun σV H Q q => ?_
    exact rd q
  | false =>
    refine (pe_orT ha hr).imp fun σV H Q q => ?_
    obtain ⟨t, bs, m, σ, μ, u, μ', hb, he, M, ev, k⟩ := rd q
    refine ⟨t, bs, m, σ, μ, u, μ', hb, he, M, ev, fun m1 H1 v x1 M1 r1 => ?_⟩
    obtain ⟨d, td, z⟩ := k m1 H1 v x1 M1 r1
    refine ⟨d, td, ?_⟩
    cases d with
    | true => simpa using z
    | false => simpa using z
theorem w_one {and : Bool} (ha : PTv X fa cal n0 xa a) : PBw X fa cal n0 (.BoolOp (bop and) [xa] pos) and [a] := by
  cases and with
  | true => exact (pw_and1 ha).imp fun σV H Q q => by simpa only [evalB] using q
  | false => exact (pw_or1 ha).imp fun σV H Q q => by simpa only [evalB] using q
theorem w_cons {and : Bool} {e2 : E} {es : List E} {xs : List Expr} (ha : PTv X fa cal n0 xa a) (hr : PBw X fa cal n0 (.BoolOp (bop and) (xb :: xs) pos) and (e2 :: es)) : PBw X fa cal n0 (.BoolOp (bop and) (xa :: xb :: xs) pos) and (a :: e2 :: es) := by
  have rd : ∀ {σV : L2.St} {H : Hp} {Q : Bool → Hp → Prop}, tT X.K fa n0 (evalB cal n0 and (a :: e2 :: es)) σV H Q → tT X.K fa n0 (evalE cal n0 a) σV H fun k H1 => if k = and then tT X.K fa n0 (evalB cal n0 and (e2 :: es)) σV H1 Q else Q k H1 := by
    intro σV H Q q
    obtain ⟨t, bs, m, σ, μ, u, μ', w, hb, he, M, ev, tr, k⟩ := q
    simp only [evalB] at ev
    split at ev
    · rename_i u1 μ1 e1
      split at ev
      · rename_i d e3
        refine ⟨t, bs, m, σ, μ, u1, μ1, d, hb, he, M, e1, e3, fun m1 H1 x1 M1 => ?_⟩
        by_cases hd : d = and
        · rw [if_pos hd] at ev
          simp only [hd, if_true]
          exact ⟨t, bs, m1, σ, μ1, u, μ', w, hb, he.ex x1, M1, ev, tr, fun m2 H2 x2 M2 => k m2 H2 (x1.trans x2) M2⟩
        · rw [if_neg hd] at ev
          simp only [hd, if_false]
          cases ev
          rw [e3] at tr
          cases tr
          exact k m1 H1 x1 M1
      · cases ev
    · cases ev
  cases and with
  | true =>
    refine (pw_and ha hr).imp fun σV H Q q => ?_
    obtain ⟨t, bs, m, σ, μ, u, μ', w, hb, he, M, ev, tr, k⟩ := rd q
    refine ⟨t, bs, m, σ, μ, u, μ', w, hb, he, M, ev, tr, fun m1 H1 x1 M1 => ?_⟩
    have z := k m1 H1 x1 M1
    cases w with
    | true => simpa using z
    | false => simpa using z
  | false =>
    refine (pw_or ha hr).imp fun σV H Q q => ?_
    obtain ⟨t, bs, m, σ, μ, u, μ', w, hb, he, M, ev, tr, k⟩ := rd q
    refine ⟨t, bs, m, σ, μ, u, μ', w, hb, he, M, ev, tr, fun m1 H1 x1 M1 => ?_⟩
    have z := k m1 H1 x1 M1
    cases w with
    | true => simpa using z
    | false => simpa using z
theorem e_bool {and : Bool} {es : List E} {x : Expr} (h : PBv X fa cal n0 x and es) : PEv X fa cal n0 x (.bool and es) := h.imp fun σV H Q q => by simpa only [evalE] using q
theorem t_bool {and : Bool} {es : List E} {x : Expr} (h : PBw X fa cal n0 x and es) : PTv X fa cal n0 x (.bool and es) := h.pt.imp fun σV H Q q => by simpa only [evalE] using q
end
end R

set_option Elab.async false
set_option linter.all false
set_option maxRecDepth 100000
set_option maxHeartbeats 4000000
/-! R3g: dict stores and displays, builtins, isinstance, methods -/
namespace R
open PySem PySem.Spec PyProof.Rows L2

section
variable {K : PySem.W.Frag} {fa : Nat → Option Addr} {t m m' : List Addr} {n n' : Nat} {H H' : Hp} {bs : List Nat} {μ : Mu} {D : Addr}
theorem putK_keys {κ : Type} [DecidableEq κ] (kvs : List (κ × V)) (k : κ) (v : V) : (putK kvs k v).map (·.1) = ptk (kvs.map (·.1)) k := by
  unfold putK ptk
  have e : (kvs.any fun kv => decide (kv.1 = k)) = true ↔ k ∈ kvs.map (·.1) := by
    simp only [List.any_eq_true, decide_eq_true_eq, List.mem_map]
  by_cases h : k ∈ kvs.map (·.1)
  · rw [if_pos (e.mpr h), if_pos h, List.map_map]
    refine List.map_congr_left fun kv _ => ?_
    simp only [Function.comp]
    split <;> rfl
  · rw [if_neg (fun z => h (e.mp z)), if_neg h]
    simp
theorem rpl_ok {κ : Type} [DecidableEq κ] {u : U} {v : V} {q : κ} (hu : Rp K fa t m n H u v) : ∀ {kvs : List (κ × V)} {us : List U}, RpA K fa t m n H us (kvs.map (·.2)) →
    RpA K fa t m n H (rpl (kvs.map (·.1)) us q u) ((kvs.map fun kv => if kv.1 = q then (kv.1, v) else kv).map (·.2))
  | [], _, .nil => .nil
  | kv :: kvs, _, .cons r ra => by
    simp only [List.map_cons, rpl]
    refine .cons ?_ (rpl_ok hu ra)
    by_cases h : kv.1 = q
    · simp only [h, if_true]; exact hu
    · simp only [h, if_false]; exact r
theorem putK_ok {κ : Type} [DecidableEq κ] {u : U} {v : V} {q : κ} (hu : Rp K fa t m n H u v) {kvs : List (κ × V)} {us : List U} (ra : RpA K fa t m n H us (kvs.map (·.2))) :
    RpA K fa t m n H (pt (kvs.map (·.1)) us q u) ((putK kvs q v).map (·.2)) := by
  unfold putK pt
  have e : (kvs.any fun kv => decide (kv.1 = q)) = true ↔ q ∈ kvs.map (·.1) := by
    simp only [List.any_eq_true, decide_eq_true_eq, List.mem_map]
  by_cases h : q ∈ kvs.map (·.1)
  · rw [if_pos (e.mpr h), if_pos h]
    exact rpl_ok hu ra
  · rw [if_neg (fun z => h (e.mp z)), if_neg h]
    rw [List.map_append]
    exact ra.append (.one hu)
theorem okw_rp {n0 i : Nat} {u : U} {v : V} (hb : bs.length = n0) (h : okw n0 i u = true) (r : Rp K fa t m m.length H u v) : Rp K fa t m (bs[i]?.getD m.length) H u v := by
  unfold okw at h
  simp only [Bool.or_eq_true, decide_eq_true_eq] at h
  rcases h with h | h
  · rw [List.getElem?_eq_none_iff.mpr (by omega)]
    exact r
  · exact r.nomut h
/-- the pairs of a display -/
inductive RpP (K : PySem.W.Frag) (fa : Nat → Option Addr) (t m : List Addr) (n : Nat) (H : Hp) : List (U × U) → List (V × V) → Prop
  | nil : RpP K fa t m n H [] []
  | cons {p : U × U} {q : V × V} {ps : List (U × U)} {qs : List (V × V)} : Rp K fa t m n H p.1 q.1 → Rp K fa t m n H p.2 q.2 → RpP K fa t m n H ps qs → RpP K fa t m n H (p :: ps) (q :: qs)
theorem RpP.ex (e : Ex m H m' H') (hn : n ≤ n') : ∀ {ps : List (U × U)} {qs : List (V × V)}, RpP K fa t m n H ps qs → RpP K fa t m' n' H' ps qs
  | _, _, .nil => .nil
  | _, _, .cons a b r => .cons (a.ex e hn) (b.ex e hn) (RpP.ex e hn r)
theorem RpP.td {o : HO} (hD : D ∈ t) : ∀ {ps : List (U × U)} {qs : List (V × V)}, RpP K fa t m n H ps qs → RpP K fa t m n (L2.upd H D o) ps qs
  | _, _, .nil => .nil
  | _, _, .cons a b r => .cons (a.td hD) (b.td hD) (RpP.td hD r)
/-- merging pairs with plain keys -/
theorem mergeU_k {tk : Bool} : ∀ {ps : List (U × U)} {qs : List (V × V)} {kvs0 : List (Key × V)} {us : List U} {o : U}, RpP K fa t m n H ps qs → RpA K fa t m n H us (kvs0.map (·.2)) → mergeU tk ps (.dk (kvs0.map (·.1)) us) = some o →
    ∃ (kvs : List (Key × V)) (us' : List U), qs = kvs.map (fun kv => (kV kv.1, kv.2)) ∧ o = .dk ((mergeK kvs0 kvs).map (·.1)) us' ∧ RpA K fa t m n H us' ((mergeK kvs0 kvs).map (·.2))
  | _, _, kvs0, us, o, .nil, ra, h => by
    simp only [mergeU] at h
    cases h
    exact ⟨[], us, rfl, rfl, ra⟩
  | _, _, kvs0, us, o, .cons (p := p) (q := q) a b r, ra, h => by
    simp only [mergeU] at h
    split at h
    · rename_i o' e
      simp only [dput] at e
      split at e
      · rename_i k hk
        split at e
        · cases e
          have ek := sky_ok a hk
          rw [← putK_keys _ _ q.2] at h
          obtain ⟨kvs, us', e1, e2, e3⟩ := mergeU_k r (putK_ok b ra) h
          exact ⟨(k, q.2) :: kvs, us', by rw [e1, List.map_cons, ← ek], e2, e3⟩
        · cases e
      · cases e
    · cases h
/-- merging pairs with tuples for keys -/
def mergeT (kvs0 : List (List Key × V)) (ts : List (List Key × Addr × V)) : List (List Key × V) := ts.foldl (fun acc x => putK acc x.1 x.2.2) kvs0
theorem mergeU_t {tk : Bool} : ∀ {ps : List (U × U)} {qs : List (V × V)} {kvs0 : List (List Key × V)} {us : List U} {o : U}, RpP K fa t m n H ps qs → RpA K fa t m n H us (kvs0.map (·.2)) → mergeU tk ps (.dt (kvs0.map (·.1)) us) = some o →
    ∃ (ts : List (List Key × Addr × V)) (us' : List U), qs = ts.map (fun x => (V.ref x.2.1, x.2.2)) ∧ (∀ x ∈ ts, H x.2.1 = some (.tup (x.1.map kV))) ∧ o = .dt ((mergeT kvs0 ts).map (·.1)) us' ∧ RpA K fa t m n H us' ((mergeT kvs0 ts).map (·.2))
  | _, _, kvs0, us, o, .nil, ra, h => by
    simp only [mergeU] at h
    cases h
    exact ⟨[], us, rfl, (fun x z => nomatch z), rfl, ra⟩
  | _, _, kvs0, us, o, .cons (p := p) (q := q) a b r, ra, h => by
    simp only [mergeU] at h
    split at h
    · rename_i o' e
      simp only [dput] at e
      split at e
      · rename_i k hk
        split at e
        · cases e
          obtain ⟨c, ec, hc⟩ := tky_ok a hk
          rw [← putK_keys _ _ q.2] at h
          obtain ⟨ts, us', e1, e2, e3, e4⟩ := mergeU_t r (putK_ok b ra) h
          refine ⟨(k, c, q.2) :: ts, us', by rw [e1, List.map_cons, ← ec], fun x z => ?_, e3, e4⟩
          rcases List.mem_cons.mp z with z | z
          · rw [z]; exact hc
          · exact e2 x z
        · cases e
      · cases e
    · cases h
theorem pairUp_cons {es : List U} {k v : U} {ps : List (U × U)} (h : pairUp (k :: v :: es) = some ps) : ∃ qs, pairUp es = some qs ∧ ps = (k, v) :: qs := by
  simp only [pairUp] at h
  split at h
  · rename_i qs e
    cases h
    exact ⟨qs, e, rfl⟩
  · cases h
end

section
variable {X : Cx} {fa : Nat → Option Addr} {cal : Nat → List U → Mu → Option (U × Mu)} {n0 : Nat}
variable {a b c : E} {xa xb xc : Expr} {pos : Pos}
/-! ### displays of dicts -/
def trsOf (X : Cx) (fa : Nat → Option Addr) (cal : Nat → List U → Mu → Option (U × Mu)) (n0 : Nat) : List E → List (TE × TE)
  | k :: v :: es => (tE X.K fa n0 (evalE cal n0 k), tE X.K fa n0 (evalE cal n0 v)) :: trsOf X fa cal n0 es
  | _ => []
theorem pairs_rd {R : List (V × V) → Hp → Prop} : ∀ (es : List E) (ps : List (U × U)) {t m : List Addr} {bs : List Nat} {σ : Env} {σV : L2.St} {H : Hp} {μ μ' : Mu} {us : List U}, bs.length = n0 → EnvR X.K fa t m H σ σV → Me X.K fa bs t m H μ →
    evalL cal n0 es σ μ = some (us, μ') → pairUp us = some ps → (∀ m' H' qs, Ex m H m' H' → Me X.K fa bs t m' H' μ' → RpP X.K fa t m' m'.length H' ps qs → R qs H') → tPairs (trsOf X fa cal n0 es) σV H R
  | [], ps, t, m, bs, σ, σV, H, μ, μ', us, hb, he, M, ev, ep, k => by
    simp only [evalL] at ev
    cases ev
    cases ep
    exact k m H [] (Ex.refl m H) M .nil
  | [e], ps, t, m, bs, σ, σV, H, μ, μ', us, hb, he, M, ev, ep, k => by
    simp only [evalL] at ev
    split at ev
    · cases ev
      cases ep
    · cases ev
  | e :: f :: es, ps, t, m, bs, σ, σV, H, μ, μ', us, hb, he, M, ev, ep, k => by
    simp only [evalL] at ev
    split at ev
    · rename_i u1 μ1 e1
      split at ev
      · rename_i us2 μ2 e2
        split at e2
        · rename_i u2 μ3 e3
          split at e2
          · rename_i us3 μ4 e4
            cases e2
            cases ev
            obtain ⟨qs, ep', rfl⟩ := pairUp_cons ep
            refine seq2 hb he M e1 e3 fun m2 H2 v1 v2 x M2 r1 r2 => ?_
            exact pairs_rd es qs hb (he.ex x) M2 e4 ep' fun m' H' pq x' M' rp => k m' H' _ (x.trans x') M' (.cons (r1.ex' x') (r2.ex' x') rp)
          · cases e2
        · cases e2
      · cases ev
    · cases ev
/-- keys and values of a display, flat -/
def flatE : List (Option Expr) → List Expr → Option (List Expr)
  | some k :: ks, v :: vs => match flatE ks vs with
    | some r => some (k :: v :: r)
    | none => none
  | [], [] => some []
  | _, _ => none
theorem flat_ok : ∀ {keys : List (Option Expr)} {vals : List Expr} {es : List E} {r : List Expr}, flatE keys vals = some r → (∀ (i : Nat) x e, r[i]? = some x → es[i]? = some e → PEv X fa cal n0 x e) → r.length = es.length →
    PPs X pos keys vals (trsOf X fa cal n0 es) ∧ keys.all (·.isSome) = true ∧ keys.length = vals.length
  | [], [], es, r, h, hp, hl => by
    cases h
    cases es with
    | nil => exact ⟨pps_nil, rfl, rfl⟩
    | cons => simp at hl
  | some k :: ks, v :: vs, es, r, h, hp, hl => by
    simp only [flatE] at h
    split at h
    · rename_i r' e
      cases h
      match es, hl, hp with
      | e1 :: e2 :: es, hl, hp =>
        obtain ⟨h1, h2, h3⟩ := flat_ok (es := es) e (fun i x f a b => hp (i + 2) x f (by simpa using a) (by simpa using b)) (by simpa using hl)
        exact ⟨pps_cons (hp 0 k e1 rfl rfl) (hp 1 v e2 rfl rfl) h1, by simpa using h2, by simp [h3]⟩
    · cases h
  | [], _ :: _, _, _, h, _, _ => by cases h
  | none :: _, _, _, _, h, _, _ => by simp [flatE] at h
  | some _ :: _, [], _, _, h, _, _ => by simp [flatE] at h
theorem e_dct {al : Bool} {es : List E} {keys : List (Option Expr)} {vals : List Expr} {r : List Expr} (h : flatE keys vals = some r) (hp : ∀ (i : Nat) x e, r[i]? = some x → es[i]? = some e → PEv X fa cal n0 x e) (hl : r.length = es.length) (h0 : keys ≠ []) (h15 : keys.length ≤ 15) :
    PEv X fa cal n0 (.Dict keys vals pos) (.dct al false es) := by
  obtain ⟨h1, h2, h3⟩ := flat_ok (pos := pos) h hp hl
  refine (pe_disp h1 h2 h3 h0 h15).imp fun σV H Q q => ?_
  obtain ⟨t, bs, m, σ, μ, u, μ', hb, he, M, ev, k⟩ := q
  simp only [evalE] at ev
  split at ev
  · rename_i us μ1 e1
    split at ev
    · rename_i ps e2
      split at ev
      · rename_i h15
        split at ev
        · rename_i o e3
          obtain ⟨rfl, rfl⟩ := Prod.mk.inj (Option.some.inj ev)
          intro p hp
          obtain ⟨pm, pt'⟩ := M.fresh hp
          refine pairs_rd es ps (t := p :: t) (bs := bs) hb (he.tn hp) (M.tn hp) e1 e2 fun m2 H2 qs x M2 rp => ?_
          have hp2 : H2 p = some (.dK []) := x.keep p _ upd_same pm
          have e3' : mergeU false ps (.dk (([] : List (Key × V)).map (·.1)) []) = some o := by simpa using e3
          obtain ⟨kvs, us', rfl, rfl, ra⟩ := mergeU_k (kvs0 := []) rp .nil e3'
          refine ⟨hp2, kvs, rfl, ?_, ?_⟩
          · have : ps.length = kvs.length := by
              have : ∀ {ps : List (U × U)} {qs : List (V × V)}, RpP X.K fa (p :: t) m2 m2.length H2 ps qs → ps.length = qs.length := by
                intro ps qs r
                induction r with
                | nil => rfl
                | cons _ _ _ ih => simp [ih]
              have := this rp
              simpa using this
            omega
          · have x0 : Ex m H m2 (upd H2 p (.dK (mergeK [] kvs))) := ((Ex.upd hp).trans x).tmp hp
            exact k.tmpK hp pt' x0 (M2.td (by simp)) upd_same (ra.td (by simp))
        · cases ev
      · cases ev
    · cases ev
  · cases ev
theorem e_dnew {al tk : Bool} : PEv X fa cal n0 (.Dict [] [] pos) (.dct al tk []) := by
  cases tk with
  | false =>
    refine pe_dnewK.imp fun σV H Q q => ?_
    obtain ⟨t, bs, m, σ, μ, u, μ', hb, he, M, ev, k⟩ := q
    simp only [evalE, evalL, pairUp, mergeU] at ev
    rw [if_pos (by decide)] at ev
    obtain ⟨rfl, rfl⟩ := Prod.mk.inj (Option.some.inj ev)
    intro p hp
    exact k.dk (kvs := []) M hp .nil
  | true =>
    refine pe_dnewT.imp fun σV H Q q => ?_
    obtain ⟨t, bs, m, σ, μ, u, μ', hb, he, M, ev, k⟩ := q
    simp only [evalE, evalL, pairUp, mergeU] at ev
    rw [if_pos (by decide)] at ev
    obtain ⟨rfl, rfl⟩ := Prod.mk.inj (Option.some.inj ev)
    intro p hp
    exact k.dt (kvs := []) M hp .nil

/-! ### builtin functions -/
theorem vs_rd {f : Mu → List U → Option (U × Mu)} {ev : Ev} {es : List E} {σV : L2.St} {H : Hp} {Q : VK} (he : ∀ σ μ u μ', ev σ μ = some (u, μ') → ∃ us μ1, evalL cal n0 es σ μ = some (us, μ1) ∧ f μ1 us = some (u, μ'))
    (q : tE X.K fa n0 ev σV H Q) : tL X.K fa n0 (evalL cal n0 es) σV H fun vs H1 => rVs X.K fa f vs H1 Q := by
  obtain ⟨t, bs, m, σ, μ, u, μ', hb, hE, M, e, k⟩ := q
  obtain ⟨us, μ1, e1, e2⟩ := he _ _ _ _ e
  exact ⟨t, bs, m, σ, μ, us, μ1, hb, hE, M, e1, fun m1 H1 vs x1 M1 ra => ⟨t, bs, m1, μ1, us, u, μ', M1, ra, e2, k.ex x1⟩⟩
theorem bi_ev {b : Bi} {es : List E} {σ : Env} {μ μ' : Mu} {u : U} (h : evalE cal n0 (.bi b es) σ μ = some (u, μ')) : ∃ us μ1, evalL cal n0 es σ μ = some (us, μ1) ∧ biF b μ1 us = some (u, μ') := by
  simp only [evalE] at h
  split at h
  · rename_i us μ1 e1
    exact ⟨us, μ1, e1, h⟩
  · cases h
/-- what a builtin function is -/
def Bi.val : Bi → Value
  | .int => .type "int"
  | .len => .builtin "len" | .abs => .builtin "abs" | .all => .builtin "all" | .any => .builtin "any" | .sum => .builtin "sum" | .min1 => .builtin "min" | .max1 => .builtin "max" | .min2 => .builtin "min" | .max2 => .builtin "max"
theorem Bi.boot (b : Bi) : bootBuiltins b.nm = some b.val := by cases b <;> decide +kernel
theorem Bi.main (b : Bi) : b.nm ≠ "__name__" := by cases b <;> decide +kernel
theorem Bi.dbg (b : Bi) : (b.nm == ("__debug__" : Str)) = false := by cases b <;> decide +kernel
theorem biR (hc : X.calm = true) (hu : X.A.units + 66 < cLine) : ∀ b : Bi, (b = .int ∧ CallR X (.type "int") (rVs X.K fa (biF b))) ∨ ∃ id, b.val = .builtin id ∧ CallR X (.builtin id) (rVs X.K fa (biF b))
  | .int => .inl ⟨rfl, intR⟩
  | .len => .inr ⟨_, rfl, lenR⟩
  | .abs => .inr ⟨_, rfl, absR⟩
  | .all => .inr ⟨_, rfl, allR hc⟩
  | .any => .inr ⟨_, rfl, anyR hc⟩
  | .sum => .inr ⟨_, rfl, sumR hc⟩
  | .min1 => .inr ⟨_, rfl, min1R hc hu⟩
  | .max1 => .inr ⟨_, rfl, max1R hc hu⟩
  | .min2 => .inr ⟨_, rfl, min2R hc⟩
  | .max2 => .inr ⟨_, rfl, max2R hc⟩
theorem e_bi {b : Bi} {es : List E} {x : Expr} {xs : List Expr} {p : Pos} (hc : X.calm = true) (hu : X.A.units + 66 < cLine) (hg : Gl X b.nm) (hm : X.mg b.nm = none) (ha : PAv X fa cal n0 (x :: xs) es) (hk : okh x = true) (hks : xs.all okh = true) :
    PEv X fa cal n0 (.Call (.Name b.nm p) (x :: xs) [] pos) (.bi b es) := by
  rcases biR (fa := fa) hc hu b with ⟨rfl, h⟩ | ⟨id, e, h⟩
  · exact (pe_callTy h hg hm boot_int ha (Bi.main _) (Bi.dbg _) (okh_star hk) (okh_back hks)).imp fun σV H Q q => vs_rd (fun _ _ _ _ => bi_ev) q
  · exact (pe_callB h hg hm (by rw [Bi.boot, e]) ha (Bi.main _) (Bi.dbg _) (okh_star hk) (okh_back hks)).imp fun σV H Q q => vs_rd (fun _ _ _ _ => bi_ev) q

/-! ### isinstance -/
def Ty.nm : Ty → String
  | .int => "int" | .bool => "bool" | .str => "str" | .tuple => "tuple" | .list => "list" | .dict => "dict"
def Ty.st : Ty → Str
  | .int => "int" | .bool => "bool" | .str => "str" | .tuple => "tuple" | .list => "list" | .dict => "dict"
theorem Ty.boot (t : Ty) : bootBuiltins t.st = some (.type t.nm) := by cases t <;> decide +kernel
theorem Ty.main (t : Ty) : t.st ≠ "__name__" := by cases t <;> decide +kernel
theorem Ty.dbg (t : Ty) : (t.st == ("__debug__" : Str)) = false := by cases t <;> decide +kernel
theorem isi_ok {K : PySem.W.Frag} {t m : List Addr} {H : Hp} {bs : List Nat} {μ : Mu} {u : U} {v : V} {b : Bool} {ty : Ty} (M : Me K fa bs t m H μ) (r : Rp K fa t m m.length H u v) (h : evIsi μ u ty = some b) :
    ∃ T : String, TyX K H v (.type T) ∧ PySem.W.kitOne K (.type T) (.type ty.nm) = some b := by
  have kk : ∀ {T : String} {b : Bool}, kitB T ty.nm = some b → PySem.W.kitOne K (.type T) (.type ty.nm) = some b := fun h => kit_ty h
  simp only [evIsi] at h
  split at h
  · rename_i hc
    cases u with
    | ob i => rcases ob_not M r hc with ⟨_, e⟩ | ⟨_, _, e⟩ | ⟨_, _, e⟩ <;> cases e
    | non => cases r; cases h; exact ⟨_, .base .non, kk (by cases ty <;> decide +kernel)⟩
    | _ => simp [cont] at hc
  · rename_i x hc
    cases u with
    | ob i => rcases ob_not M r hc with ⟨_, e⟩ | ⟨_, _, e⟩ | ⟨_, _, e⟩ <;> cases e
    | bl y => cases r; cases h; exact ⟨_, .base (.bl _), kk (by cases ty <;> decide +kernel)⟩
    | _ => simp [cont] at hc
  · rename_i x hc
    cases u with
    | ob i => rcases ob_not M r hc with ⟨_, e⟩ | ⟨_, _, e⟩ | ⟨_, _, e⟩ <;> cases e
    | int y => cases r; cases h; exact ⟨_, .base (.int _), kk (by cases ty <;> decide +kernel)⟩
    | _ => simp [cont] at hc
  · rename_i x hc
    have e := cont_str M r hc
    subst e
    cases r; cases h; exact ⟨_, .base (.str _), kk (by cases ty <;> decide +kernel)⟩
  · rename_i x hc
    have e := cont_tup M r hc
    subst e
    cases h
    cases r with
    | tup f _ => exact ⟨_, .base (.tup f.1), kk (by cases ty <;> decide +kernel)⟩
  · rename_i x hc
    obtain ⟨p, vs, rfl, hH, _⟩ := cont_lst M r hc
    cases h; exact ⟨_, .base (.lst hH), kk (by cases ty <;> decide +kernel)⟩
  · rename_i x y hc
    obtain ⟨p, vs, rfl, hH, _⟩ := dk_at M r hc
    cases h; exact ⟨_, .base (.dK hH), kk (by cases ty <;> decide +kernel)⟩
  · rename_i x y hc
    obtain ⟨p, vs, rfl, hH, _⟩ := dt_at M r hc
    cases h; exact ⟨_, .base (.dT hH), kk (by cases ty <;> decide +kernel)⟩
  · cases h
theorem e_isi {ty : Ty} {p p2 : Pos} (hg : Gl X "isinstance") (hm : X.mg "isinstance" = none) (hg2 : Gl X ty.st) (hm2 : X.mg ty.st = none) (ha : PEv X fa cal n0 xa a) (hk : okh xa = true) :
    PEv X fa cal n0 (.Call (.Name "isinstance" p) [xa, .Name ty.st p2] [] pos) (.isi a ty) := by
  have hcls : PE X (.Name ty.st p2) (tC (.ty ty.nm)) := pe_bltn hg2 hm2 ty.boot rfl ty.main ty.dbg
  have h := pe_callB (p := p) (pos := pos) (call_isi (X := X)) hg hm boot_isinstance (pa_cons ha (pa_cons hcls pa_nil (okh_star rfl)) (okh_star hk)) (by decide) (by decide) (okh_star hk) (okh_back (es := [.Name ty.st p2]) rfl)
  refine h.imp fun σV H Q q => ?_
  obtain ⟨t, bs, m, σ, μ, u, μ', hb, hE, M, ev, k⟩ := q
  simp only [evalE] at ev
  split at ev
  · rename_i u1 μ1 e1
    split at ev
    · rename_i d e2
      cases ev
      refine seq1 hb hE M e1 fun m1 H1 v1 x1 M1 r1 => ?_
      obtain ⟨T, ht, hk'⟩ := isi_ok M1 r1 e2
      exact ⟨v1, .ty ty.nm, .type T, .type ty.nm, d, rfl, .ty _, ht, hk', k m1 H1 _ x1 M1 (.bl _)⟩
    · cases ev
  · cases ev

/-! ### methods -/
def rMe (K : PySem.W.Frag) (fa : Nat → Option Addr) (n0 : Nat) (al : Bool) (me : Mt) : V → List V → Hp → VK → Prop := fun x vs H Q => ∃ t bs m μ u us w μ', bs.length = n0 ∧ Me K fa bs t m H μ ∧ Rp K fa t m m.length H u x ∧ RpA K fa t m m.length H us vs ∧ evMe n0 al μ me u us = some (w, μ') ∧ Kn K fa bs t m H w μ' Q
def Mt.T : Mt → String
  | .get2 => "dict"
  | _ => "list"
theorem okm_ty {K : PySem.W.Frag} {t m : List Addr} {H : Hp} {bs : List Nat} {μ : Mu} {u : U} {v : V} {me : Mt} (M : Me K fa bs t m H μ) (r : Rp K fa t m m.length H u v) (h : okm μ me u = true) : tyV K me.T v H := by
  have L : (asL μ u).isSome = true → tyV K "list" v H := fun z => by
    obtain ⟨xs, e⟩ := Option.isSome_iff_exists.mp z
    obtain ⟨p, vs, rfl, q, _⟩ := asL_ok M r e
    exact .inl ⟨rfl, vs, q⟩
  cases me with
  | get2 =>
    simp only [okm] at h
    split at h
    · rename_i e
      obtain ⟨p, kvs, rfl, hH, _⟩ := dk_at M r e
      exact .inr (.inr (.inl ⟨rfl, .inl ⟨_, hH⟩⟩))
    · rename_i e
      obtain ⟨p, kvs, rfl, hH, _⟩ := dt_at M r e
      exact .inr (.inr (.inl ⟨rfl, .inr ⟨_, hH⟩⟩))
    · cases h
  | _ => exact L h
theorem me_rd {al : Bool} {me : Mt} {es : List E} {σV : L2.St} {H : Hp} {Q : VK} (q : tE X.K fa n0 (evalE cal n0 (.me al me a es)) σV H Q) : tBM X.K me.T (rMe X.K fa n0 al me) (tE X.K fa n0 (evalE cal n0 a)) (tL X.K fa n0 (evalL cal n0 es)) σV H Q := by
  obtain ⟨t, bs, m, σ, μ, u, μ', hb, he, M, ev, k⟩ := q
  simp only [evalE] at ev
  split at ev
  · rename_i u1 μ1 e1
    split at ev
    · rename_i e2
      split at ev
      · rename_i us μ2 e3
        refine seq1 hb he M e1 fun m1 H1 v1 x1 M1 r1 => ⟨okm_ty M1 r1 e2, ?_⟩
        exact ⟨t, bs, m1, σ, μ1, us, μ2, hb, he.ex x1, M1, e3, fun m2 H2 vs x2 M2 ra => ⟨t, bs, m2, μ2, u1, us, u, μ', hb, M2, r1.ex' x2, ra, ev, k.ex (x1.trans x2)⟩⟩
      · cases ev
    · cases ev
  · cases ev
theorem mtAppend {al : Bool} : MtR X "list.append" (rMe X.K fa n0 al .append) := by
  intro pins s σ H x vs v us Q I rx rv h
  obtain ⟨t, bs, m, μ, u, ws, w, μ', hb, M, r, ra, ev, k⟩ := h
  simp only [evMe] at ev
  match u, ws, ev, r, ra with
  | .ob i, [y], ev, r, ra =>
    simp only at ev
    split at ev
    · rename_i xs e
      split at ev
      · rename_i hz
        cases ev
        obtain ⟨p, rfl, hp, c⟩ := M.obj r e
        obtain ⟨z, rfl, rz⟩ := rpa1 ra
        have hl := sz_line
        generalize hn : bs[i]?.getD m.length = nn at c
        cases c with
        | @lst vx _ hH rl =>
          refine mt_append pins s σ H _ _ v us Q I rx rv ⟨p, _, z, rfl, rfl, hH, by rw [← rl.length]; omega, ?_⟩
          have ex : Ex m H m (upd H p (.lst (vx ++ [z]))) := Ex.write (List.mem_of_getElem? hp)
          have rz' := okw_rp hb hz.2 rz
          refine k m _ _ ex (M.write hp (.lst upd_same ?_)) .non
          rw [hn] at rz' ⊢
          exact (rl.append (.one rz')).ex ex (Nat.le_refl _)
      · cases ev
    · cases ev
theorem mtPop0 {al : Bool} : MtR X "list.pop" (rMe X.K fa n0 al .pop0) := by
  intro pins s σ H x vs v us Q I rx rv h
  obtain ⟨t, bs, m, μ, u, ws, w, μ', hb, M, r, ra, ev, k⟩ := h
  simp only [evMe] at ev
  match u, ws, ev, r, ra with
  | .ob i, [], ev, r, ra =>
    simp only at ev
    split at ev
    · rename_i xs e
      split at ev
      · rename_i y hy
        cases ev
        cases ra
        obtain ⟨p, rfl, hp, c⟩ := M.obj r e
        have hbn := M.bnd i
        generalize hn : bs[i]?.getD m.length = nn at c hbn
        cases c with
        | @lst vx _ hH rl =>
          have hy' := hy
          rw [rl.length] at hy'
          obtain ⟨z, hz, rz⟩ := rl.get hy'
          refine mt_pop pins s σ H _ _ v us Q I rx rv ⟨p, _, z, rfl, rfl, hH, hz, ?_⟩
          have ex : Ex m H m (upd H p (.lst vx.dropLast)) := Ex.write (List.mem_of_getElem? hp)
          refine k m _ _ ex (M.write hp (.lst upd_same ?_)) ((rz.ex (Ex.refl m H) hbn).ex' ex)
          rw [hn]
          exact rl.dropL.ex ex (Nat.le_refl _)
      · cases ev
    · cases ev
theorem mtPop1 {al : Bool} : MtR X "list.pop" (rMe X.K fa n0 al .pop1) := by
  intro pins s σ H x vs v us Q I rx rv h
  obtain ⟨t, bs, m, μ, u, ws, w, μ', hb, M, r, ra, ev, k⟩ := h
  simp only [evMe] at ev
  match u, ws, ev, r, ra with
  | .ob i, [.int j], ev, r, ra =>
    simp only at ev
    split at ev
    · rename_i xs e
      split at ev
      · rename_i hj
        split at ev
        · rename_i kk hk
          split at ev
          · rename_i y hy
            cases ev
            obtain ⟨z0, rfl, rz0⟩ := rpa1 ra
            cases rz0
            obtain ⟨p, rfl, hp, c⟩ := M.obj r e
            have hbn := M.bnd i
            generalize hn : bs[i]?.getD m.length = nn at c hbn
            cases c with
            | @lst vx _ hH rl =>
              obtain ⟨z, hz, rz⟩ := rl.get hy
              rw [rl.length] at hk
              refine mt_popAt pins s σ H _ _ v us Q I rx rv ⟨p, _, j, kk, z, rfl, rfl, hH, hj.1, hj.2, (ixN_seq hk).1, hz, ?_⟩
              have ex : Ex m H m (upd H p (.lst (vx.eraseIdx kk))) := Ex.write (List.mem_of_getElem? hp)
              refine k m _ _ ex (M.write hp (.lst upd_same ?_)) ((rz.ex (Ex.refl m H) hbn).ex' ex)
              rw [hn]
              exact (rl.erase kk).ex ex (Nat.le_refl _)
          · cases ev
        · cases ev
      · cases ev
    · cases ev
theorem mtGet2 {al : Bool} (hu : X.A.units + 66 < cLine) : MtR X "dict.get" (rMe X.K fa n0 al .get2) := by
  intro pins s σ H x vs v us Q I rx rv h
  obtain ⟨t, bs, m, μ, u, ws, w, μ', hb, M, r, ra, ev, k⟩ := h
  match ws, ev, ra with
  | [y, d], ev, ra =>
    simp only [evMe] at ev
    split at ev
    · rename_i o ho
      cases ev
      obtain ⟨y', d', rfl, ry, rd⟩ := rpa2 ra
      obtain ⟨u1, u2, rfl, ru1, ru2⟩ := rv.two
      obtain ⟨p, rfl, _, hg⟩ := dget_ok M r ry ho
      cases rx
      rcases hg with ⟨u', v', rfl, g, r'⟩ | ⟨rfl, g⟩
      · exact d_get2 (by omega) I g ru1 ru2 fun w' s3 I3 rw' => ⟨v', H, I3, rw', k.here M r'⟩
      · exact d_get2 (by omega) I g ru1 ru2 fun w' s3 I3 rw' => ⟨d', H, I3, rw', k.here M rd⟩
    · cases ev
  | [], ev, _ => cases u <;> simp [evMe] at ev
  | [_], ev, _ => cases u <;> simp [evMe] at ev
  | _ :: _ :: _ :: _, ev, _ => cases u <;> simp [evMe] at ev
theorem few_ok {e : Expr} {es : List Expr} {env : PySem.Env} {cpos : Pos} (hk : (e :: es).all okh = true) (hl : es.length < 20) :
    ((backTo cpos (starEach (e :: es) env)).all (fun x => !x.1) && (backToKw cpos (keywordEach [] env)).all (fun x => x.1.isSome)
      && decide ((e :: es).length + ([] : List Keyword).length + (if ([] : List Keyword).isEmpty then 0 else 1) < 30)) = true := by
  rw [okh_all hk]
  simp only [Bool.true_and, Bool.and_eq_true, decide_eq_true_eq]
  refine ⟨rfl, ?_⟩
  simp
  omega
theorem e_append {al : Bool} {es : List E} {x : Expr} {xs : List Expr} {apos : Pos} (ha : PEv X fa cal n0 xa a) (hs : PAv X fa cal n0 (x :: xs) es) (hr : okr xa = true) (hk : okh x = true) (hks : xs.all okh = true) (hl : xs.length < 20) (hline : (apos.endLine == pos.line) = true) :
    PEv X fa cal n0 (.Call (.Attribute xa "append" apos) (x :: xs) [] pos) (.me al .append a es) :=
  (pe_bm F.plainAttrs_list F.slot_list_append F.type_list_append (mtAppend (al := al)) ha hs (okr_base hr) (few_ok (by simp [hk, hks]) hl) hline (okh_star hk) (okh_back hks)).imp fun σV H Q q => me_rd q
theorem e_pop1 {al : Bool} {es : List E} {x : Expr} {xs : List Expr} {apos : Pos} (ha : PEv X fa cal n0 xa a) (hs : PAv X fa cal n0 (x :: xs) es) (hr : okr xa = true) (hk : okh x = true) (hks : xs.all okh = true) (hl : xs.length < 20) (hline : (apos.endLine == pos.line) = true) :
    PEv X fa cal n0 (.Call (.Attribute xa "pop" apos) (x :: xs) [] pos) (.me al .pop1 a es) :=
  (pe_bm F.plainAttrs_list F.slot_list_pop F.type_list_pop (mtPop1 (al := al)) ha hs (okr_base hr) (few_ok (by simp [hk, hks]) hl) hline (okh_star hk) (okh_back hks)).imp fun σV H Q q => me_rd q
theorem e_get2 {al : Bool} {es : List E} {x : Expr} {xs : List Expr} {apos : Pos} (hu : X.A.units + 66 < cLine) (ha : PEv X fa cal n0 xa a) (hs : PAv X fa cal n0 (x :: xs) es) (hr : okr xa = true) (hk : okh x = true) (hks : xs.all okh = true) (hl : xs.length < 20) (hline : (apos.endLine == pos.line) = true) :
    PEv X fa cal n0 (.Call (.Attribute xa "get" apos) (x :: xs) [] pos) (.me al .get2 a es) :=
  (pe_bm F.plainAttrs_dict F.slot_dict_get F.type_dict_get (mtGet2 (al := al) hu) ha hs (okr_base hr) (few_ok (by simp [hk, hks]) hl) hline (okh_star hk) (okh_back hks)).imp fun σV H Q q => me_rd q
theorem e_pop0 {al : Bool} {apos : Pos} (ha : PEv X fa cal n0 xa a) (hr : okr xa = true) (hline : (apos.endLine == pos.line) = true) :
    PEv X fa cal n0 (.Call (.Attribute xa "pop" apos) [] [] pos) (.me al .pop0 a []) :=
  (pe_bm0 F.plainAttrs_list F.slot_list_pop F.type_list_pop (mtPop0 (al := al)) ha (okr_base hr) hline).imp fun σV H Q q => by
    obtain ⟨t, bs, m, σ, μ, u, μ', hb, he, M, ev, k⟩ := me_rd q
    refine ⟨t, bs, m, σ, μ, u, μ', hb, he, M, ev, fun m1 H1 v1 x1 M1 r1 => ?_⟩
    obtain ⟨ty, t2, bs2, m2, σ2, μ2, us2, μ2', hb2, he2, M2, ev2, k2⟩ := k m1 H1 v1 x1 M1 r1
    simp only [evalL] at ev2
    cases ev2
    exact ⟨ty, k2 m2 H1 [] (Ex.refl _ _) M2 .nil⟩
end
end R

set_option Elab.async false
set_option linter.all false
set_option maxRecDepth 100000
set_option maxHeartbeats 4000000
/-! R3h: targets, statements -/
namespace R
open PySem PySem.Spec PyProof.Rows L2

theorem _root_.L2.PG.imp {X : Cx} {e : Expr} {t t' : TG} (h : PG X e t) (hi : ∀ v σ H Q, t' v σ H Q → t v σ H Q) : PG X e t' := ⟨fun pins s σ H v u Q I r q => h.run pins s σ H v u Q I r (hi _ _ _ _ q)⟩
theorem _root_.L2.PGs.imp {X : Cx} {e : List Expr} {t t' : TGs} (h : PGs X e t) (hi : ∀ v σ H Q, t' v σ H Q → t v σ H Q) : PGs X e t' := ⟨fun pins s σ H v u Q I r q => h.run pins s σ H v u Q I r (hi _ _ _ _ q)⟩
def okt : Expr → Bool
  | .Name .. | .Tuple .. | .Subscript .. => true
  | _ => false
theorem okt_each {e : Expr} {es : List Expr} {env : PySem.Env} (h : okt e = true) : assignEach (e :: es) env = (false, assign e env) :: assignEach es env := by
  cases e <;> first | rfl | cases h
theorem okt_none : ∀ {es : List Expr} {env : PySem.Env}, es.all okt = true → (assignEach es env).findIdx? (·.1) = none
  | [], _, _ => rfl
  | e :: es, env, h => by
    simp only [List.all_cons, Bool.and_eq_true] at h
    rw [okt_each h.1, List.findIdx?_cons]
    simp [okt_none (env := env) h.2]
theorem okt_len : ∀ {es : List Expr} {env : PySem.Env}, es.all okt = true → (assignEach es env).length = es.length
  | [], _, _ => rfl
  | e :: es, env, h => by
    simp only [List.all_cons, Bool.and_eq_true] at h
    rw [okt_each h.1, List.length_cons, okt_len h.2, List.length_cons]

/-! ### the order of the stores -/
def isStar : Expr → Bool
  | .Starred .. => true
  | _ => false
/-- what swappedStores answers; none: not told -/
def swF (sc : Scope) (ts vs : List Expr) : Option (Option (List Str)) :=
  if (!(ts.length == 2 || ts.length == 3) || vs.length != ts.length) = true then some none
  else if vs.any (fun | .Starred .. => true | _ => false) = true then some none
  else
    let line := (ts.head?.map (·.pos.line)).getD 0
    let names := ts.filterMap fun
      | .Name id pos => if (sc.names.lookup id == some .local && pos.line == line) = true then some id else none
      | _ => none
    if (names.length != ts.length || names.eraseDups.length != names.length) = true then some none
    else if vs.all (foldedForSure 8) = true then some none
    else if vs.all (constantsAlone 8) = true then none
    else some (some names)
theorem sw_ok {env : PySem.Env} {ts vs : List Expr} {k k2 : Nat} {p p2 : Pos} {r : Option (List Str)} (hk : env.scope.kind = .function) (h : swF env.scope ts vs = some r) :
    swappedStores [.Tuple ts k p] (.Tuple vs k2 p2) env = pure r := by
  have hb : env.blockKind = .function := by unfold PySem.Env.blockKind; rw [hk]; rfl
  unfold swF at h
  unfold swappedStores
  simp only [hb]
  have hne : (ScopeKind.function != ScopeKind.function) = false := by decide
  rw [hne, Bool.or_false]
  split at h
  · rename_i c; cases h; exact (if_pos c).trans rfl
  · rename_i c
    refine (if_neg c).trans ?_
    split at h
    · rename_i c; cases h; exact (if_pos c).trans rfl
    · rename_i c
      refine (if_neg c).trans ?_
      simp only at h
      unfold PySem.Env.kindOf
      split at h
      · rename_i c; cases h; exact (if_pos c).trans rfl
      · rename_i c
        refine (if_neg c).trans ?_
        split at h
        · rename_i c; cases h; exact (if_pos c).trans rfl
        · rename_i c
          refine (if_neg c).trans ?_
          split at h
          · cases h
          · rename_i c
            cases h
            refine (if_neg c).trans ?_
            rfl
/-- no pair of targets with a tuple -/
def noSw : Expr → Expr → Bool
  | .Tuple .., .Tuple .. => false
  | .List .., _ => false
  | _, _ => true
theorem noSw_ok {t v : Expr} {env : PySem.Env} (h : noSw t v = true) : swappedStores [t] v env = pure none := by
  cases t <;> first | rfl | (cases v <;> first | rfl | cases h)
/-- no list comprehension -/
def noLc : Expr → Bool
  | .ListComp .. => false
  | _ => true
theorem noLc_sw {v : Expr} {t : Option Expr} {l : Nat} {env : PySem.Env} (h : noLc v = true) (hk : okh v = true) : swapsWith v t l env = pure false := by
  cases v <;> first | rfl | (simp [okh] at hk; done) | (simp [noLc] at h; done)

section
variable {X : Cx} {fa : Nat → Option Addr} {cal : Nat → List U → Mu → Option (U × Mu)} {n0 : Nat}
variable {a b c : E} {xa xb xc : Expr} {pos : Pos}
/-! ### targets -/
mutual
def ptSlots : Pt → List Nat
  | .slot i => [i]
  | .tup ps => ptsSlots ps
def ptsSlots : List Pt → List Nat
  | [] => []
  | p :: ps => ptSlots p ++ ptsSlots ps
end
/-- only those slots changed -/
def Same (is : List Nat) (σV σV' : L2.St) : Prop := ∀ ws : List Nat, (∀ i ∈ is, i ∈ ws) → L2.wipe σV' ws = L2.wipe σV ws
theorem wipe_get (σ : L2.St) (j : Nat) : ∀ ws : List Nat, (L2.wipe σ ws)[j]? = if j ∈ ws then (σ[j]?).map (fun _ => none) else σ[j]?
  | [] => by simp [L2.wipe]
  | w :: ws => by
    unfold L2.wipe
    by_cases h : w = j
    · subst h
      rw [List.getElem?_set]
      simp only [if_true, wipe_length, List.mem_cons, true_or, if_true]
      by_cases hl : w < σ.length
      · simp [hl]
      · simp [hl]
    · rw [List.getElem?_set_ne h, wipe_get σ j ws]
      have : j ∈ w :: ws ↔ j ∈ ws := by
        constructor
        · intro z
          rcases List.mem_cons.mp z with z | z
          · exact absurd z.symm h
          · exact z
        · exact fun z => List.mem_cons_of_mem _ z
      simp only [this]
theorem wipe_set {σ : L2.St} {i : Nat} {x : Option V} {ws : List Nat} (h : i ∈ ws) : L2.wipe (σ.set i x) ws = L2.wipe σ ws := by
  apply List.ext_getElem?
  intro j
  rw [wipe_get, wipe_get]
  by_cases hj : j ∈ ws
  · rw [if_pos hj, if_pos hj, List.getElem?_set]
    by_cases hi : i = j
    · subst hi
      by_cases hl : i < σ.length
      · simp [hl]
      · simp [hl]
    · simp [hi]
  · rw [if_neg hj, if_neg hj, List.getElem?_set_ne (fun z => hj (by rw [← z]; exact h))]
theorem wipe_wipe {σ : L2.St} {ws : List Nat} : L2.wipe (L2.wipe σ ws) ws = L2.wipe σ ws := by
  apply List.ext_getElem?
  intro j
  rw [wipe_get, wipe_get]
  by_cases hj : j ∈ ws
  · rw [if_pos hj, if_pos hj]
    cases σ[j]? <;> rfl
  · rw [if_neg hj, if_neg hj]
theorem Same.trans {a b : List Nat} {σ σ' σ'' : L2.St} (h : Same a σ σ') (h' : Same b σ' σ'') : Same (a ++ b) σ σ'' := fun ws hw => (h' ws fun i hi => hw i (List.mem_append_right _ hi)).trans (h ws fun i hi => hw i (List.mem_append_left _ hi))
def tGp (K : PySem.W.Frag) (fa : Nat → Option Addr) (p : Pt) : TG := fun v σV H Q => ∃ t bs m μ σ u σ', EnvR K fa t m H σ σV ∧ Me K fa bs t m H μ ∧ Rp K fa t m m.length H u v ∧ bindP μ p u σ = some σ' ∧ ∀ σV', EnvR K fa t m H σ' σV' → Same (ptSlots p) σV σV' → Q σV' H
def tGs (K : PySem.W.Frag) (fa : Nat → Option Addr) (ps : List Pt) : TGs := fun vs σV H Q => ∃ t bs m μ σ us σ', EnvR K fa t m H σ σV ∧ Me K fa bs t m H μ ∧ RpA K fa t m m.length H us vs ∧ bindPs μ ps us σ = some σ' ∧ ∀ σV', EnvR K fa t m H σ' σV' → Same (ptsSlots ps) σV σV' → Q σV' H
theorem g_slot {i : Nat} {x : Str} (hN : X.N.Nodup) (hi : X.N[i]? = some x) (hx : Loc X.env.scope x) (hf : X.fn x = true ∨ X.env.scope.names.lookup x = some .local) : PG X (.Name x pos) (tGp X.K fa (.slot i)) :=
  (pg_name hN hi hx hf).imp fun v σV H Q q => by
    obtain ⟨t, bs, m, μ, σ, u, σ', he, M, r, e, k⟩ := q
    simp only [bindP] at e
    cases e
    exact k _ (he.set r) fun ws hw => wipe_set (hw i (by simp [ptSlots]))
theorem gs_nil : PGs X [] (tGs X.K fa []) := pgs_nil.imp fun vs σV H Q q => by
  obtain ⟨t, bs, m, μ, σ, us, σ', he, M, r, e, k⟩ := q
  match us, e, r with
  | [], e, r =>
    simp only [bindPs] at e
    cases e
    cases r
    exact ⟨rfl, k _ he fun _ _ => rfl⟩
theorem gs_cons {p : Pt} {ps : List Pt} {x : Expr} {xs : List Expr} (h : PG X x (tGp X.K fa p)) (hs : PGs X xs (tGs X.K fa ps)) (hk : okt x = true) : PGs X (x :: xs) (tGs X.K fa (p :: ps)) :=
  (pgs_cons h hs (by rw [okt_each hk] <;> rfl)).imp fun vs σV H Q q => by
    obtain ⟨t, bs, m, μ, σ, us, σ', he, M, r, e, k⟩ := q
    match us, e, r with
    | u :: us, e, .cons r ra =>
      simp only [bindPs] at e
      split at e
      · rename_i σ1 e1
        exact ⟨_, _, rfl, t, bs, m, μ, σ, u, σ1, he, M, r, e1, fun σV1 he1 s1 => ⟨t, bs, m, μ, σ1, us, σ', he1, M, ra, e, fun σV2 he2 s2 => k σV2 he2 (by simpa [ptsSlots] using s1.trans s2)⟩⟩
      · cases e
theorem g_tup {ps : List Pt} {xs : List Expr} {j : Nat} (hc : X.calm = true) (h : PGs X xs (tGs X.K fa ps)) (hk : xs.all okt = true) (hl : xs.length = ps.length) : PG X (.Tuple xs j pos) (tGp X.K fa (.tup ps)) :=
  (pg_tup hc h (okt_len hk) (okt_none hk)).imp fun v σV H Q q => by
    obtain ⟨t, bs, m, μ, σ, u, σ', he, M, r, e, k⟩ := q
    cases u with
    | tup us =>
      simp only [bindP] at e
      split at e
      · rename_i hl'
        cases r with
        | tup f ra => exact ⟨_, _, rfl, f.sq, by rw [← ra.length, hl, hl'], t, bs, m, μ, σ, us, σ', he, M, ra, e, fun σV' he' s' => k σV' he' (by simpa [ptSlots] using s')⟩
      · cases e
    | _ => simp [bindP] at e

/-! ### statements -/
def KnO (K : PySem.W.Frag) (fa : Nat → Option Addr) (bs : List Nat) (t m : List Addr) (H : Hp) : Out → Ends → Prop
  | .nx σ' μ', D => ∀ m' H' σV', Ex m H m' H' → Me K fa bs t m' H' μ' → EnvR K fa t m' H' σ' σV' → D.nx σV' H'
  | .rt u μ', D => Kn K fa bs t m H u μ' D.rt
  | .bk σ' μ', D => ∀ m' H' σV', Ex m H m' H' → Me K fa bs t m' H' μ' → EnvR K fa t m' H' σ' σV' → D.bk σV' H'
  | .ct σ' μ', D => ∀ m' H' σV', Ex m H m' H' → Me K fa bs t m' H' μ' → EnvR K fa t m' H' σ' σV' → D.ct σV' H'
theorem KnO.ex {K : PySem.W.Frag} {bs : List Nat} {t m m' : List Addr} {H H' : Hp} {o : Out} {D : Ends} (k : KnO K fa bs t m H o D) (e : Ex m H m' H') : KnO K fa bs t m' H' o D := by
  cases o with
  | nx σ μ => exact fun m2 H2 σV2 x M h => k m2 H2 σV2 (e.trans x) M h
  | rt u μ => exact Kn.ex k e
  | bk σ μ => exact fun m2 H2 σV2 x M h => k m2 H2 σV2 (e.trans x) M h
  | ct σ μ => exact fun m2 H2 σV2 x M h => k m2 H2 σV2 (e.trans x) M h
def tSv (K : PySem.W.Frag) (fa : Nat → Option Addr) (n0 : Nat) (ex : Env → Mu → Option Out) : TS := fun D σV H => ∃ t bs m σ μ o, bs.length = n0 ∧ EnvR K fa t m H σ σV ∧ Me K fa bs t m H μ ∧ ex σ μ = some o ∧ KnO K fa bs t m H o D
abbrev PSv (X : Cx) (fa : Nat → Option Addr) (cal : Nat → List U → Mu → Option (U × Mu)) (n0 : Nat) (x : Stmt) (s : S) : Prop := PS X x (tSv X.K fa n0 (exS cal n0 s))
abbrev PLv (X : Cx) (fa : Nat → Option Addr) (cal : Nat → List U → Mu → Option (U × Mu)) (n0 : Nat) (x : List Stmt) (s : List S) : Prop := PSs X x (tSv X.K fa n0 (exL cal n0 s))
theorem l_nil : PLv X fa cal n0 [] [] := pss_nil.imp fun D σV H q => by
  obtain ⟨t, bs, m, σ, μ, o, hb, he, M, ev, k⟩ := q
  simp only [exL] at ev
  cases ev
  exact k m H σV (Ex.refl _ _) M he
theorem l_cons {s : S} {ss : List S} {x : Stmt} {xs : List Stmt} (h : PSv X fa cal n0 x s) (hs : PLv X fa cal n0 xs ss) : PLv X fa cal n0 (x :: xs) (s :: ss) :=
  (pss_cons h hs).imp fun D σV H q => by
    obtain ⟨t, bs, m, σ, μ, o, hb, he, M, ev, k⟩ := q
    simp only [exL] at ev
    split at ev
    · rename_i σ1 μ1 e1
      exact ⟨t, bs, m, σ, μ, _, hb, he, M, e1, fun m1 H1 σV1 x1 M1 he1 => ⟨t, bs, m1, σ1, μ1, o, hb, he1, M1, ev, k.ex x1⟩⟩
    · rename_i o' hno
      refine ⟨t, bs, m, σ, μ, o, hb, he, M, ev, ?_⟩
      cases o with
      | nx σ1 μ1 => exact absurd ev (hno σ1 μ1)
      | rt u μ => exact k
      | bk σ μ => exact k
      | ct σ μ => exact k
theorem s_pass : PSv X fa cal n0 (.Pass pos) .pass := ps_pass.imp fun D σV H q => by
  obtain ⟨t, bs, m, σ, μ, o, hb, he, M, ev, k⟩ := q
  simp only [exS] at ev
  cases ev
  exact k m H σV (Ex.refl _ _) M he
theorem s_brk : PSv X fa cal n0 (.Break pos) .brk := ps_break.imp fun D σV H q => by
  obtain ⟨t, bs, m, σ, μ, o, hb, he, M, ev, k⟩ := q
  simp only [exS] at ev
  cases ev
  exact k m H σV (Ex.refl _ _) M he
theorem s_cont : PSv X fa cal n0 (.Continue pos) .cont := ps_continue.imp fun D σV H q => by
  obtain ⟨t, bs, m, σ, μ, o, hb, he, M, ev, k⟩ := q
  simp only [exS] at ev
  cases ev
  exact k m H σV (Ex.refl _ _) M he
theorem s_doc {x : Str} {j : Nat} {p2 : Pos} : PSv X fa cal n0 (.Expr (.Constant (.str x) j p2) pos) .pass := ps_doc.imp fun D σV H q => by
  obtain ⟨t, bs, m, σ, μ, o, hb, he, M, ev, k⟩ := q
  simp only [exS] at ev
  cases ev
  exact k m H σV (Ex.refl _ _) M he
theorem s_never {x : Stmt} : PSv X fa cal n0 x .stuck := ps_never.imp fun D σV H q => by
  obtain ⟨t, bs, m, σ, μ, o, hb, he, M, ev, k⟩ := q
  simp only [exS] at ev
  cases ev
theorem s_ex (h : PEv X fa cal n0 xa a) (hk : okh xa = true) (hl : noLc xa = true) : PSv X fa cal n0 (.Expr xa pos) (.ex a) :=
  (ps_expr h (noLc_sw hl hk)).imp fun D σV H q => by
    obtain ⟨t, bs, m, σ, μ, o, hb, he, M, ev, k⟩ := q
    simp only [exS] at ev
    split at ev
    · rename_i u μ1 e1
      cases ev
      exact seq1 hb he M e1 fun m1 H1 v1 x1 M1 r1 => k m1 H1 σV x1 M1 (he.ex x1)
    · cases ev
theorem s_ret (h : PEv X fa cal n0 xa a) : PSv X fa cal n0 (.Return (some xa) pos) (.ret a) :=
  (ps_ret h).imp fun D σV H q => by
    obtain ⟨t, bs, m, σ, μ, o, hb, he, M, ev, k⟩ := q
    simp only [exS] at ev
    split at ev
    · rename_i u μ1 e1
      cases ev
      exact ⟨t, bs, m, σ, μ, u, _, hb, he, M, e1, k⟩
    · cases ev
theorem s_retN : PSv X fa cal n0 (.Return none pos) (.ret .non) := ps_retN.imp fun D σV H q => by
  obtain ⟨t, bs, m, σ, μ, o, hb, he, M, ev, k⟩ := q
  simp only [exS, evalE] at ev
  cases ev
  exact k m H .non (Ex.refl _ _) M .non
theorem s_if {p q : List S} {xp xq : List Stmt} (hc : PTv X fa cal n0 xc c) (hp : PLv X fa cal n0 xp p) (hq : PLv X fa cal n0 xq q) : PSv X fa cal n0 (.If xc xp xq pos) (.iff c p q) :=
  (ps_if hc hp hq).imp fun D σV H q => by
    obtain ⟨t, bs, m, σ, μ, o, hb, he, M, ev, k⟩ := q
    simp only [exS] at ev
    split at ev
    · rename_i u1 μ1 e1
      split at ev
      · rename_i e2
        refine ⟨t, bs, m, σ, μ, u1, μ1, true, hb, he, M, e1, e2, fun m1 H1 x1 M1 => ?_⟩
        simp only [↓reduceIte]
        exact ⟨t, bs, m1, σ, μ1, o, hb, he.ex x1, M1, ev, k.ex x1⟩
      · rename_i e2
        refine ⟨t, bs, m, σ, μ, u1, μ1, false, hb, he, M, e1, e2, fun m1 H1 x1 M1 => ?_⟩
        simp only [↓reduceIte, Bool.false_eq_true]
        exact ⟨t, bs, m1, σ, μ1, o, hb, he.ex x1, M1, ev, k.ex x1⟩
      · cases ev
    · cases ev
/-- name = value -/
theorem s_set {i : Nat} {x : Str} {pos' : Pos} (hN : X.N.Nodup) (hi : X.N[i]? = some x) (hx : Loc X.env.scope x) (hf : X.fn x = true ∨ X.env.scope.names.lookup x = some .local) (h : PEv X fa cal n0 xa a) (hs : swapsWith xa (some (.Name x pos')) pos.line X.env = pure false) :
    PSv X fa cal n0 (.Assign [.Name x pos'] xa pos) (.set i a) :=
  (ps_set hN hi hx h hs hf).imp fun D σV H q => by
    obtain ⟨t, bs, m, σ, μ, o, hb, he, M, ev, k⟩ := q
    simp only [exS] at ev
    split at ev
    · rename_i u μ1 e1
      cases ev
      exact seq1 hb he M e1 fun m1 H1 v1 x1 M1 r1 => k m1 H1 _ x1 M1 ((he.ex x1).set r1)
    · cases ev
theorem s_asg {p : Pt} {tg : Expr} (hg : PG X tg (tGp X.K fa p)) (h : PEv X fa cal n0 xa a) (hk : okh xa = true) (ht : okt tg = true) (hl : noLc xa = true) (hw : swappedStores [tg] xa X.env = pure none) :
    PSv X fa cal n0 (.Assign [tg] xa pos) (.asg p a) :=
  (ps_asg h hg (noLc_sw hl hk) hw (by rw [okt_each ht] <;> rfl)).imp fun D σV H q => by
    obtain ⟨t, bs, m, σ, μ, o, hb, he, M, ev, k⟩ := q
    simp only [exS] at ev
    split at ev
    · rename_i u μ1 e1
      split at ev
      · rename_i σ1 e2
        cases ev
        exact seq1 hb he M e1 fun m1 H1 v1 x1 M1 r1 => ⟨t, bs, m1, _, σ, u, σ1, he.ex x1, M1, r1, e2, fun σV' he' _ => k m1 H1 σV' x1 M1 he'⟩
      · cases ev
    · cases ev
/-- a tuple's items, then the stores from the right -/
theorem s_par2 {i j : Nat} {x y : Str} {es : List E} {px py pt : Pos} {kt k2 : Nat} {pt2 : Pos} (hc : X.calm = true) (hN : X.N.Nodup) (hi : X.N[i]? = some x) (hj : X.N[j]? = some y) (hij : i ≠ j)
    (hx : X.env.scope.names.lookup x = some .local) (hy : X.env.scope.names.lookup y = some .local) (ha : PAv X fa cal n0 [xa, xb] es)
    (hw : swappedStores [.Tuple [.Name x px, .Name y py] kt pt] (.Tuple [xa, xb] k2 pt2) X.env = pure (some [x, y])) :
    PSv X fa cal n0 (.Assign [.Tuple [.Name x px, .Name y py] kt pt] (.Tuple [xa, xb] k2 pt2) pos) (.par [i, j] es) :=
  (ps_par hc hN hi hj hij hx hy ha hw).imp fun D σV H q => by
    obtain ⟨t, bs, m, σ, μ, o, hb, he, M, ev, k⟩ := q
    simp only [exS] at ev
    split at ev
    · rename_i us μ1 e1
      split at ev
      · rename_i σ1 e2
        cases ev
        match us, e2 with
        | [u1, u2], e2 =>
          simp only [bindI] at e2
          cases e2
          refine ⟨t, bs, m, σ, μ, _, _, hb, he, M, e1, fun m1 H1 vs x1 M1 ra => ?_⟩
          obtain ⟨v, w, rfl, r1, r2⟩ := rpa2 ra
          exact ⟨v, w, rfl, k m1 H1 _ x1 M1 (((he.ex x1).set r1).set r2)⟩
      · cases ev
    · cases ev
theorem rpa3 {K : PySem.W.Frag} {t m : List Addr} {n : Nat} {H : Hp} {u w z : U} {xs : List V} (r : RpA K fa t m n H [u, w, z] xs) : ∃ v y q, xs = [v, y, q] ∧ Rp K fa t m n H u v ∧ Rp K fa t m n H w y ∧ Rp K fa t m n H z q := by
  cases r with
  | cons h q =>
    obtain ⟨y, z, rfl, h2, h3⟩ := rpa2 q
    exact ⟨_, y, z, rfl, h, h2, h3⟩
theorem s_par3 {i j l : Nat} {x y z : Str} {es : List E} {px py pz pt : Pos} {kt k2 : Nat} {pt2 : Pos} (hc : X.calm = true) (hN : X.N.Nodup) (hi : X.N[i]? = some x) (hj : X.N[j]? = some y) (hl : X.N[l]? = some z) (hij : i ≠ j) (hil : i ≠ l) (hjl : j ≠ l)
    (hx : X.env.scope.names.lookup x = some .local) (hy : X.env.scope.names.lookup y = some .local) (hz : X.env.scope.names.lookup z = some .local) (ha : PAv X fa cal n0 [xa, xb, xc] es)
    (hw : swappedStores [.Tuple [.Name x px, .Name y py, .Name z pz] kt pt] (.Tuple [xa, xb, xc] k2 pt2) X.env = pure (some [x, y, z])) :
    PSv X fa cal n0 (.Assign [.Tuple [.Name x px, .Name y py, .Name z pz] kt pt] (.Tuple [xa, xb, xc] k2 pt2) pos) (.par [i, j, l] es) :=
  (ps_par3 hc hN hi hj hl hij hil hjl hx hy hz ha hw).imp fun D σV H q => by
    obtain ⟨t, bs, m, σ, μ, o, hb, he, M, ev, k⟩ := q
    simp only [exS] at ev
    split at ev
    · rename_i us μ1 e1
      split at ev
      · rename_i σ1 e2
        cases ev
        match us, e2 with
        | [u1, u2, u3], e2 =>
          simp only [bindI] at e2
          cases e2
          refine ⟨t, bs, m, σ, μ, _, _, hb, he, M, e1, fun m1 H1 vs x1 M1 ra => ?_⟩
          obtain ⟨v, w, q, rfl, r1, r2, r3⟩ := rpa3 ra
          exact ⟨v, w, q, rfl, k m1 H1 _ x1 M1 ((((he.ex x1).set r1).set r2).set r3)⟩
      · cases ev
    · cases ev
/-! ### o[i] = v -/
def rSetU (K : PySem.W.Frag) (fa : Nat → Option Addr) (n0 : Nat) : TSet := fun o i v H Q => ∃ t bs m μ d j u μ', bs.length = n0 ∧ Me K fa bs t m H μ ∧ Rp K fa t m m.length H d o ∧ Rp K fa t m m.length H j i ∧ Rp K fa t m m.length H u v ∧ storeSub n0 μ d j u = some μ' ∧ ∀ m' H', Ex m H m' H' → Me K fa bs t m' H' μ' → Q H'
theorem setR (hu : X.A.units + 66 < cLine) : PSet X (rSetU X.K fa n0) := by
  intro pins s σ H o i v ov iv u Q I ro ri rv h
  obtain ⟨t, bs, m, μ, d, j, w, μ', hb, M, rd, rj, rw', ev, k⟩ := h
  have hl := sz_line
  simp only [storeSub] at ev
  split at ev
  · rename_i kk
    split at ev
    · rename_i xs e
      split at ev
      · rename_i z
        split at ev
        · rename_i q hq
          split at ev
          · rename_i ho
            cases ev
            obtain ⟨p, rfl, hp, c⟩ := M.obj rd e
            have rw2 := okw_rp hb ho rw'
            cases rj
            generalize hn : bs[kk]?.getD m.length = nn at c rw2
            cases c with
            | @lst vx _ hH rl =>
              rw [rl.length] at hq
              refine set_list pins s σ H _ _ _ ov iv u Q I ro ri rv ⟨p, vx, z, q, rfl, rfl, hH, hq, ?_⟩
              have ex : Ex m H m (upd H p (.lst (vx.set q v))) := Ex.write (List.mem_of_getElem? hp)
              refine k m _ ex (M.write hp (.lst upd_same ?_))
              rw [hn]
              exact (rl.set rw2 q).ex ex (Nat.le_refl _)
          · cases ev
        · cases ev
      · cases ev
    · rename_i o hno e
      split at ev
      · rename_i o' e2
        split at ev
        · rename_i ho
          cases ev
          obtain ⟨p, rfl, hp, c⟩ := M.obj rd e
          have rw2 := okw_rp hb ho rw'
          generalize hn : bs[kk]?.getD m.length = nn at c rw2
          cases c with
          | lst hH rl => simp [dput] at e2
          | @dK kvs us hH rl =>
            simp only [dput] at e2
            split at e2
            · rename_i q hq
              split at e2
              · rename_i hz
                cases e2
                have ek := sky_ok rj hq
                subst ek
                rw [List.length_map] at hz
                cases ro
                refine d_setItem (by omega) I (DPut.k hH (by omega)) ri rv fun s' I' => ⟨_, I', ?_⟩
                have ex : Ex m H m (upd H p (.dK (putK kvs q v))) := Ex.write (List.mem_of_getElem? hp)
                refine k m _ ex (M.write hp ?_)
                rw [← putK_keys _ _ v]
                refine .dK upd_same ?_
                rw [hn]
                exact (putK_ok rw2 rl).ex ex (Nat.le_refl _)
              · cases e2
            · cases e2
          | @dT kvs us hH rl =>
            simp only [dput] at e2
            split at e2
            · rename_i q hq
              split at e2
              · rename_i hz
                cases e2
                obtain ⟨b, rfl, hbb⟩ := tky_ok rj hq
                rw [List.length_map] at hz
                cases ro
                refine d_setItem (by omega) I (DPut.t hH hbb (by omega)) ri rv fun s' I' => ⟨_, I', ?_⟩
                have ex : Ex m H m (upd H p (.dT (putK kvs q v))) := Ex.write (List.mem_of_getElem? hp)
                refine k m _ ex (M.write hp ?_)
                rw [← putK_keys _ _ v]
                refine .dT upd_same ?_
                rw [hn]
                exact (putK_ok rw2 rl).ex ex (Nat.le_refl _)
              · cases e2
            · cases e2
        · cases ev
      · cases ev
    · cases ev
  · cases ev
theorem okh_asg {o i : Expr} {p : Pos} {env : PySem.Env} (h : okh i = true) (v : Value) : assign (.Subscript o i p) env v = (do
      let ov ← holding [v] (eval o env)
      let iv ← holding [v, ov] (eval i env)
      standAt p
      holding [v, ov, iv] (setItem ov iv v)
      release [v, ov, iv] []) := by
  cases i <;> first | rfl | cases h
theorem s_sub {p2 : Pos} (hu : X.A.units + 66 < cLine) (ha : PEv X fa cal n0 xa a) (hb : PEv X fa cal n0 xb b) (hc : PEv X fa cal n0 xc c) (hkb : okh xb = true) (hkc : okh xc = true) (hl : noLc xc = true) :
    PSv X fa cal n0 (.Assign [.Subscript xa xb p2] xc pos) (.sub a b c) :=
  have hs : swapsWithSole [.Subscript xa xb p2] xc pos.line X.env = pure false := noLc_sw (t := some (.Subscript xa xb p2)) (l := pos.line) (env := X.env) hl hkc
  (ps_asg hc (pg_sub ha hb (setR (fa := fa) (n0 := n0) hu) (okh_asg hkb)) hs (noSw_ok rfl) rfl).imp fun D σV H q => by
    obtain ⟨t, bs, m, σ, μ, o, hb, he, M, ev, k⟩ := q
    simp only [exS] at ev
    split at ev
    · rename_i u μ1 e1
      split at ev
      · rename_i d μ2 e2
        split at ev
        · rename_i j μ3 e3
          split at ev
          · rename_i μ4 e4
            cases ev
            refine seq1 hb he M e1 fun m1 H1 v1 x1 M1 r1 => ?_
            refine seq2 hb (he.ex x1) M1 e2 e3 fun m3 H3 v2 v3 x3 M3 r2 r3 => ?_
            exact ⟨t, bs, m3, _, d, j, u, _, hb, M3, r2, r3, r1.ex' x3, e4, fun m4 H4 x4 M4 => k m4 H4 σV (x1.trans (x3.trans x4)) M4 ((he.ex (x1.trans x3)).ex x4)⟩
          · cases ev
        · cases ev
      · cases ev
    · cases ev
/-! ### two stores -/
def tGS (K : PySem.W.Frag) (fa : Nat → Option Addr) (cal : Nat → List U → Mu → Option (U × Mu)) (n0 : Nat) (a i : E) : TG := fun v σV H Q => ∃ t bs m σ μ u μ', bs.length = n0 ∧ EnvR K fa t m H σ σV ∧ Me K fa bs t m H μ ∧ Rp K fa t m m.length H u v ∧ storeTo cal n0 a i u σ μ = some μ' ∧ ∀ m' H', Ex m H m' H' → Me K fa bs t m' H' μ' → Q σV H'
theorem g_sub {p2 : Pos} (hu : X.A.units + 66 < cLine) (ha : PEv X fa cal n0 xa a) (hb : PEv X fa cal n0 xb b) (hkb : okh xb = true) : PG X (.Subscript xa xb p2) (tGS X.K fa cal n0 a b) :=
  (pg_sub ha hb (setR (fa := fa) (n0 := n0) hu) (okh_asg hkb)).imp fun v σV H Q q => by
    obtain ⟨t, bs, m, σ, μ, u, μ', hb, he, M, r, ev, k⟩ := q
    unfold storeTo at ev
    split at ev
    · rename_i d μ2 e2
      split at ev
      · rename_i j μ3 e3
        exact seq2 hb he M e2 e3 fun m3 H3 v2 v3 x3 M3 r2 r3 => ⟨t, bs, m3, _, d, j, u, _, hb, M3, r2, r3, r.ex' x3, ev, fun m4 H4 x4 M4 => k m4 H4 (x3.trans x4) M4⟩
      · cases ev
    · cases ev
theorem s_asg2 {a' b' : E} {xa' xb' : Expr} {p2 p3 : Pos} (hu : X.A.units + 66 < cLine) (ha : PEv X fa cal n0 xa a) (hb : PEv X fa cal n0 xb b) (ha' : PEv X fa cal n0 xa' a') (hb' : PEv X fa cal n0 xb' b') (hc : PEv X fa cal n0 xc c) (hkb : okh xb = true) (hkb' : okh xb' = true) :
    PSv X fa cal n0 (.Assign [.Subscript xa xb p2, .Subscript xa' xb' p3] xc pos) (.asg2 a b a' b' c) :=
  (ps_asg2 hc (g_sub hu ha hb hkb) (g_sub hu ha' hb' hkb') (by rw [okt_each rfl, okt_each rfl] <;> rfl) rfl).imp fun D σV H q => by
    obtain ⟨t, bs, m, σ, μ, o, hb, he, M, ev, k⟩ := q
    simp only [exS] at ev
    split at ev
    · rename_i u μ1 e1
      split at ev
      · rename_i μ2 e2
        split at ev
        · rename_i μ3 e3
          cases ev
          exact seq1 hb he M e1 fun m1 H1 v1 x1 M1 r1 => ⟨t, bs, m1, σ, μ1, u, μ2, hb, he.ex x1, M1, r1, e2, fun m2 H2 x2 M2 => ⟨t, bs, m2, σ, μ2, u, μ3, hb, (he.ex x1).ex x2, M2, r1.ex' x2, e3, fun m3 H3 x3 M3 => k m3 H3 σV (x1.trans (x2.trans x3)) M3 (((he.ex x1).ex x2).ex x3)⟩⟩
        · cases ev
      · cases ev
    · cases ev
theorem s_sub2 {a' b' d : E} {xa' xb' xd : Expr} {p2 p3 pt qt : Pos} {kt k2 : Nat} (hcm : X.calm = true) (hu : X.A.units + 66 < cLine) (ha : PEv X fa cal n0 xa a) (hb : PEv X fa cal n0 xb b) (ha' : PEv X fa cal n0 xa' a') (hb' : PEv X fa cal n0 xb' b') (hcd : PAv X fa cal n0 [xc, xd] [c, d]) (hkb : okh xb = true) (hkb' : okh xb' = true)
    (hw : swappedStores [.Tuple [.Subscript xa xb p2, .Subscript xa' xb' p3] kt pt] (.Tuple [xc, xd] k2 qt) X.env = pure none) :
    PSv X fa cal n0 (.Assign [.Tuple [.Subscript xa xb p2, .Subscript xa' xb' p3] kt pt] (.Tuple [xc, xd] k2 qt) pos) (.sub2 a b a' b' c d) :=
  have hs : swapsWithSole [.Tuple [.Subscript xa xb p2, .Subscript xa' xb' p3] kt pt] (.Tuple [xc, xd] k2 qt) pos.line X.env = pure false := noLc_sw (v := .Tuple [xc, xd] k2 qt) (t := some (.Tuple [.Subscript xa xb p2, .Subscript xa' xb' p3] kt pt)) (l := pos.line) (env := X.env) rfl rfl
  (ps_asg (e_tup hcd) (pg_tup hcm (pgs_cons (g_sub hu ha hb hkb) (pgs_cons (g_sub hu ha' hb' hkb') pgs_nil (by rw [okt_each rfl] <;> rfl)) (by rw [okt_each rfl] <;> rfl)) (okt_len rfl) (okt_none rfl)) hs hw (by rw [okt_each rfl] <;> rfl)).imp fun D σV H q => by
    obtain ⟨t, bs, m, σ, μ, o, hb, he, M, ev, k⟩ := q
    simp only [exS] at ev
    split at ev
    · rename_i u μ1 e1
      split at ev
      · rename_i u' μ2 e2
        split at ev
        · rename_i μ3 e3
          split at ev
          · rename_i μ4 e4
            cases ev
            have et : evalE cal n0 (.tup [c, d]) σ μ = some (.tup [u, u'], μ2) := by
              simp only [evalE, evalL, e1, e2]
              rw [if_pos (by simp [SZ])]
            refine ⟨t, bs, m, σ, μ, _, μ2, hb, he, M, et, fun m1 H1 v1 x1 M1 r1 => ?_⟩
            cases r1 with
            | tup f ra =>
              obtain ⟨v, w, rfl, r1, r2⟩ := rpa2 ra
              exact ⟨_, _, rfl, f.sq, rfl, v, [w], rfl, t, bs, m1, σ, μ2, u, μ3, hb, he.ex x1, M1, r1, e3, fun m2 H2 x2 M2 => ⟨w, [], rfl, t, bs, m2, σ, μ3, u', μ4, hb, (he.ex x1).ex x2, M2, r2.ex' x2, e4, fun m3 H3 x3 M3 => ⟨rfl, k m3 H3 σV (x1.trans (x2.trans x3)) M3 (((he.ex x1).ex x2).ex x3)⟩⟩⟩
          · cases ev
        · cases ev
      · cases ev
    · cases ev
end
end R

set_option Elab.async false
set_option linter.all false
set_option maxRecDepth 100000
set_option maxHeartbeats 4000000
/-! R3i: walks, while, for, comprehensions -/
namespace R
open PySem PySem.Spec PyProof.Rows L2

section
variable {K : PySem.W.Frag} {fa : Nat → Option Addr} {t t' m m' : List Addr} {n n' : Nat} {H H' : Hp} {bs : List Nat} {μ : Mu} {D : Addr}
mutual
/-- other temporaries to be avoided: known ones or none at this heap -/
theorem Rp.tt (ht : ∀ a ∈ t', a ∈ t ∨ H a = none) : ∀ {u : U} {v : V}, Rp K fa t m n H u v → Rp K fa t' m n H u v
  | _, _, .non => .non
  | _, _, .bl b => .bl b
  | _, _, .int i => .int i
  | _, _, .str x => .str x
  | _, _, .tup h r => .tup ⟨h.1, h.2.1, fun z => (ht _ z).elim h.2.2 fun q => by have := h.1; rw [q] at this; cases this⟩ (RpA.tt ht r)
  | _, _, .lst h r => .lst ⟨h.1, h.2.1, fun z => (ht _ z).elim h.2.2 fun q => by have := h.1; rw [q] at this; cases this⟩ (RpA.tt ht r)
  | _, _, .dK h n z r => .dK h n (fun q => (ht _ q).elim z fun q => by rw [q] at h; cases h) (RpA.tt ht r)
  | _, _, .dT h n z r => .dT h n (fun q => (ht _ q).elim z fun q => by rw [q] at h; cases h) (RpA.tt ht r)
  | _, _, .ob hi h => .ob hi h
  | _, _, .fn h => .fn h
  | _, _, .scr h => .scr (h.elim (fun q => .inl ⟨q.1, q.2.1, fun z => (ht _ z).elim q.2.2 fun w => by obtain ⟨u, e⟩ := Rd.some q.1; rw [w] at e; cases e⟩) .inr)
theorem RpA.tt (ht : ∀ a ∈ t', a ∈ t ∨ H a = none) : ∀ {us : List U} {vs : List V}, RpA K fa t m n H us vs → RpA K fa t' m n H us vs
  | _, _, .nil => .nil
  | _, _, .cons h r => .cons (Rp.tt ht h) (RpA.tt ht r)
end
theorem Ex.of_keep (k : ∀ a o, H a = some o → H' a = some o) : Ex m H m H' := ⟨⟨[], by simp⟩, fun a o h _ => k a o h, fun a h n => absurd h n⟩

/-- an iterator over known items -/
structure WkL (K : PySem.W.Frag) (fa : Nat → Option Addr) (t m : List Addr) (H : Hp) (J : It) (xs : List U) : Prop where
  go : ∀ i m' H', Ex m H m' H' → i < xs.length → J.go i H'
  stop : ∀ i m' H', Ex m H m' H' → xs.length ≤ i → J.stop i H'
  yld : ∀ i m' H' t' bs μ v H'', i < xs.length → Ex m H m' H' → (∀ a ∈ t', a ∈ t ∨ H a = none) → Me K fa bs t' m' H' μ → J.yld i H' v H'' →
    ∃ u, xs[i]? = some u ∧ (∀ a o, H' a = some o → H'' a = some o) ∧ Rp K fa t' m' m'.length H'' u v
def WkJ (K : PySem.W.Frag) (fa : Nat → Option Addr) (t m : List Addr) (H : Hp) (J : It) : List U ⊕ Nat → Prop
  | .inl xs => WkL K fa t m H J xs
  | .inr i => ∃ a, m[i]? = some a ∧ J = Itl K a
def tI (K : PySem.W.Frag) (fa : Nat → Option Addr) (n0 : Nat) (ev : Env → Mu → Option (List U × Mu)) (ik : Ik) : TI := fun σV H R => ∃ t bs m σ μ us μ' w, bs.length = n0 ∧ EnvR K fa t m H σ σV ∧ Me K fa bs t m H μ ∧ ev σ μ = some (us, μ') ∧ walk μ' ik us = some w ∧
  ∀ m1 H1 J, Ex m H m1 H1 → Me K fa bs t m1 H1 μ' → WkJ K fa t m1 H1 J w → R J H1
end

section
variable {X : Cx} {fa : Nat → Option Addr} {cal : Nat → List U → Mu → Option (U × Mu)} {n0 : Nat}
variable {a b c : E} {xa xb xc : Expr} {pos : Pos}
/-! ### while -/
theorem s_wh {p : List S} {xp : List Stmt} (hp : PassesOwn (model X.prog X.w) X.A X.env X.xe) (hc : PTv X fa cal n0 xc c) (hb : PLv X fa cal n0 xp p) : PSv X fa cal n0 (.While xc xp [] pos) (.wh c p) :=
  (ps_while hp hc hb).imp fun D σV H q => by
    obtain ⟨t, bs, m0, σ0, μ0, o, hbl, he0, M0, ev, k⟩ := q
    simp only [exS] at ev
    generalize hcond : (fun (σ : Env) (μ : Mu) => match evalE cal n0 c σ μ with
      | some (u, μ) => match truth μ u with
        | some t => some (t, μ)
        | none => none
      | none => none) = cond at ev
    generalize hbody : (fun (σ : Env) (μ : Mu) => exL cal n0 p σ μ) = body at ev
    refine ⟨fun f σV' H' => ∃ m σ μ, Ex m0 H m H' ∧ EnvR X.K fa t m H' σ σV' ∧ Me X.K fa bs t m H' μ ∧ whL cond body f σ μ = some o, ⟨FU, m0, σ0, μ0, Ex.refl _ _, he0, M0, ev⟩, ?_⟩
    rintro f σV1 H1 ⟨m1, σ1, μ1, x1, he1, M1, ev1⟩
    cases f with
    | zero => simp [whL] at ev1
    | succ g =>
      simp only [whL] at ev1
      split at ev1
      · rename_i μ2 e2
        rw [← hcond] at e2
        simp only at e2
        split at e2
        · rename_i u μ3 e3
          split at e2
          · rename_i d e4
            cases e2
            refine ⟨t, bs, m1, σ1, μ1, u, _, true, hbl, he1, M1, e3, e4, fun m2 H2 x2 M2 => ?_⟩
            simp only [↓reduceIte]
            refine ⟨fun σV' H' => ∃ m σ μ, Ex m0 H m H' ∧ EnvR X.K fa t m H' σ σV' ∧ Me X.K fa bs t m H' μ ∧ whL cond body g σ μ = some o, fun σV' H' w => ⟨g, Nat.lt_succ_self g, w⟩, ?_⟩
            have x12 := x1.trans x2
            split at ev1
            · rename_i σ4 μ4 e5
              rw [← hbody] at e5
              exact ⟨t, bs, m2, σ1, _, _, hbl, he1.ex x2, M2, e5, fun m3 H3 σV3 x3 M3 he3 => ⟨m3, σ4, μ4, x12.trans x3, he3, M3, ev1⟩⟩
            · rename_i σ4 μ4 e5
              rw [← hbody] at e5
              exact ⟨t, bs, m2, σ1, _, _, hbl, he1.ex x2, M2, e5, fun m3 H3 σV3 x3 M3 he3 => ⟨m3, σ4, μ4, x12.trans x3, he3, M3, ev1⟩⟩
            · rename_i σ4 μ4 e5
              cases ev1
              rw [← hbody] at e5
              exact ⟨t, bs, m2, σ1, _, _, hbl, he1.ex x2, M2, e5, fun m3 H3 σV3 x3 M3 he3 => k m3 H3 σV3 (x12.trans x3) M3 he3⟩
            · rename_i o1 h1 h2 h3
              rw [← hbody] at ev1
              refine ⟨t, bs, m2, σ1, _, o, hbl, he1.ex x2, M2, ev1, ?_⟩
              rw [← hbody] at h1 h2 h3
              cases o with
              | nx σ μ => exact absurd ev1 (h1 σ μ)
              | ct σ μ => exact absurd ev1 (h2 σ μ)
              | bk σ μ => exact absurd ev1 (h3 σ μ)
              | rt u μ => exact Kn.ex (show Kn X.K fa bs t m0 H u μ D.rt from k) x12
          · cases e2
        · cases e2
      · rename_i μ2 e2
        rw [← hcond] at e2
        simp only at e2
        split at e2
        · rename_i u μ3 e3
          split at e2
          · rename_i d e4
            cases e2
            cases ev1
            refine ⟨t, bs, m1, σ1, μ1, u, _, false, hbl, he1, M1, e3, e4, fun m2 H2 x2 M2 => ?_⟩
            simp only [↓reduceIte, Bool.false_eq_true]
            exact k m2 H2 σV1 (x1.trans x2) M2 (he1.ex x2)
          · cases e2
        · cases e2
      · cases ev1

/-! ### for -/
theorem okh_fold {e : Expr} {env : PySem.Env} (h : okh e = true) (x : Value) : foldedSetIterable e env x = pure x := by
  cases e <;> first | rfl | cases h
theorem s_for {p : Pt} {ik : Ik} {its : List E} {tg iter : Expr} {body : List Stmt} {bd : List S} (hp : PassesOwn (model X.prog X.w) X.A X.env X.xe) (hc : X.calm = true) (hi : PI X tg iter (tI X.K fa n0 (evalL cal n0 its) ik)) (hg : PG X tg (tGp X.K fa p)) (hb : PLv X fa cal n0 body bd) (hk : okh iter = true) :
    PSv X fa cal n0 (.For tg iter body [] pos) (.for_ p ik its bd) :=
  (ps_for hp hc hi hg hb (okh_fold hk)).imp fun D σV H q => by
    obtain ⟨t, bs, m0, σ0, μ0, o, hbl, he0, M0, ev, k⟩ := q
    simp only [exS] at ev
    split at ev
    · rename_i us μ1 e1
      generalize hstep : (fun (x : U) (σ : Env) (μ : Mu) => match bindP μ p x σ with
        | some σ => exL cal n0 bd σ μ
        | none => none) = step at ev
      split at ev
      · rename_i xs e2
        refine ⟨t, bs, m0, σ0, μ0, us, μ1, .inl xs, hbl, he0, M0, e1, e2, fun m1 H1 J x1 M1 wk => ?_⟩
        have wk : WkL X.K fa t m1 H1 J xs := wk
        refine ⟨fun i mm σV' H' => mm = xs.length - i ∧ i ≤ xs.length ∧ ∃ m σ μ, Ex m1 H1 m H' ∧ EnvR X.K fa t m H' σ σV' ∧ Me X.K fa bs t m H' μ ∧ forL step (xs.drop i) σ μ = some o, ⟨xs.length, by simp, Nat.zero_le _, m1, σ0, μ1, Ex.refl _ _, he0.ex x1, M1, by simpa using ev⟩, ?_⟩
        rintro i mm σV2 H2 ⟨rfl, hle, m2, σ2, μ2, x2, he2, M2, ev2⟩
        by_cases hlt : i < xs.length
        · refine .inr ⟨wk.go i m2 H2 x2 hlt, fun σV' H' => i + 1 ≤ xs.length ∧ ∃ m σ μ, Ex m1 H1 m H' ∧ EnvR X.K fa t m H' σ σV' ∧ Me X.K fa bs t m H' μ ∧ forL step (xs.drop (i + 1)) σ μ = some o, fun σV' H' w => ⟨xs.length - (i + 1), by omega, rfl, w.1, w.2⟩, fun x H3 y => ?_⟩
          obtain ⟨u, hu, kp, r⟩ := wk.yld i m2 H2 t bs μ2 x H3 hlt x2 (fun a h => .inl h) M2 y
          have x3 : Ex m2 H2 m2 H3 := Ex.of_keep kp
          have hd : xs.drop i = u :: xs.drop (i + 1) := by
            rw [List.drop_eq_getElem_cons hlt]
            rw [List.getElem?_eq_getElem hlt] at hu
            cases hu; rfl
          rw [hd] at ev2
          simp only [forL] at ev2
          have bnd : ∀ o1, step u σ2 μ2 = some o1 → ∃ σ3, bindP μ2 p u σ2 = some σ3 ∧ exL cal n0 bd σ3 μ2 = some o1 := by
            intro o1 h
            rw [← hstep] at h
            simp only at h
            split at h
            · rename_i σ3 e; exact ⟨σ3, e, h⟩
            · cases h
          have M3 := M2.ext kp
          have x23 := x2.trans x3
          have run : ∀ o1, step u σ2 μ2 = some o1 → KnO X.K fa bs t m2 H3 o1 { D with nx := fun σV' H' => i + 1 ≤ xs.length ∧ ∃ m σ μ, Ex m1 H1 m H' ∧ EnvR X.K fa t m H' σ σV' ∧ Me X.K fa bs t m H' μ ∧ forL step (xs.drop (i + 1)) σ μ = some o, ct := fun σV' H' => i + 1 ≤ xs.length ∧ ∃ m σ μ, Ex m1 H1 m H' ∧ EnvR X.K fa t m H' σ σV' ∧ Me X.K fa bs t m H' μ ∧ forL step (xs.drop (i + 1)) σ μ = some o, bk := D.nx } →
              tGp X.K fa p x σV2 H3 fun σV3 H4 => tSv X.K fa n0 (exL cal n0 bd) { D with nx := fun σV' H' => i + 1 ≤ xs.length ∧ ∃ m σ μ, Ex m1 H1 m H' ∧ EnvR X.K fa t m H' σ σV' ∧ Me X.K fa bs t m H' μ ∧ forL step (xs.drop (i + 1)) σ μ = some o, ct := fun σV' H' => i + 1 ≤ xs.length ∧ ∃ m σ μ, Ex m1 H1 m H' ∧ EnvR X.K fa t m H' σ σV' ∧ Me X.K fa bs t m H' μ ∧ forL step (xs.drop (i + 1)) σ μ = some o, bk := D.nx } σV3 H4 := by
            intro o1 h ko
            obtain ⟨σ3, e3, e4⟩ := bnd o1 h
            exact ⟨t, bs, m2, μ2, σ2, u, σ3, he2.ex x3, M3, r, e3, fun σV3 he3 _ => ⟨t, bs, m2, σ3, μ2, o1, hbl, he3, M3, e4, ko⟩⟩
          split at ev2
          · rename_i σ4 μ4 e5
            exact run _ e5 fun m3 H4 σV3 x4 M4 he4 => ⟨hlt, m3, σ4, μ4, x23.trans x4, he4, M4, ev2⟩
          · rename_i σ4 μ4 e5
            exact run _ e5 fun m3 H4 σV3 x4 M4 he4 => ⟨hlt, m3, σ4, μ4, x23.trans x4, he4, M4, ev2⟩
          · rename_i σ4 μ4 e5
            cases ev2
            exact run _ e5 fun m3 H4 σV3 x4 M4 he4 => k m3 H4 σV3 (x1.trans (x23.trans x4)) M4 he4
          · rename_i o1 h1 h2 h3
            refine run _ ev2 ?_
            cases o with
            | nx σ μ => exact absurd ev2 (h1 σ μ)
            | ct σ μ => exact absurd ev2 (h2 σ μ)
            | bk σ μ => exact absurd ev2 (h3 σ μ)
            | rt u μ => exact Kn.ex (show Kn X.K fa bs t m0 H u μ D.rt from k) (x1.trans x23)
        · have e : i = xs.length := by omega
          subst e
          rw [List.drop_length] at ev2
          simp only [forL] at ev2
          cases ev2
          exact .inl ⟨wk.stop _ m2 H2 x2 (Nat.le_refl _), k m2 H2 σV2 (x1.trans x2) M2 he2⟩
      · rename_i iob e2
        refine ⟨t, bs, m0, σ0, μ0, us, μ1, .inr iob, hbl, he0, M0, e1, e2, fun m1 H1 J x1 M1 wk => ?_⟩
        obtain ⟨ad, had, rfl⟩ := (show ∃ a, m1[iob]? = some a ∧ J = Itl X.K a from wk)
        refine ⟨fun i f σV' H' => ∃ m σ μ, Ex m1 H1 m H' ∧ EnvR X.K fa t m H' σ σV' ∧ Me X.K fa bs t m H' μ ∧ forV step iob f i σ μ = some o, ⟨FU, m1, σ0, μ1, Ex.refl _ _, he0.ex x1, M1, ev⟩, ?_⟩
        rintro i f σV2 H2 ⟨m2, σ2, μ2, x2, he2, M2, ev2⟩
        cases f with
        | zero => simp [forV] at ev2
        | succ g =>
          simp only [forV] at ev2
          split at ev2
          · rename_i xs e3
            obtain ⟨ad', e4, hm2, c⟩ := M2.objF (v := .ref ad) (.ob (by have := (List.getElem?_eq_some_iff.mp (x2.at_ had)).1; exact this) (x2.at_ had)) e3
            cases e4
            cases c with
            | @lst vx _ hH rl =>
              have hS : SqL X.K H2 ad vx := SqL.of hH
              split at ev2
              · rename_i hnone
                cases ev2
                exact .inl ⟨⟨vx, hS, by rw [← rl.length]; exact List.getElem?_eq_none_iff.mp hnone⟩, k m2 H2 σV2 (x1.trans x2) M2 he2⟩
              · rename_i u hu
                obtain ⟨v, hv, r⟩ := rl.get hu
                refine .inr ⟨⟨vx, v, hS, hv⟩, fun σV' H' => ∃ m σ μ, Ex m1 H1 m H' ∧ EnvR X.K fa t m H' σ σV' ∧ Me X.K fa bs t m H' μ ∧ forV step iob g (i + 1) σ μ = some o, fun σV' H' w => ⟨g, Nat.lt_succ_self g, w⟩, fun x H3 y => ?_⟩
                obtain ⟨rfl, y⟩ := y
                have := y vx hS
                rw [hv] at this
                cases this
                have bnd : ∀ o1, step u σ2 μ2 = some o1 → ∃ σ3, bindP μ2 p u σ2 = some σ3 ∧ exL cal n0 bd σ3 μ2 = some o1 := by
                  intro o1 h
                  rw [← hstep] at h
                  simp only at h
                  split at h
                  · rename_i σ3 e; exact ⟨σ3, e, h⟩
                  · cases h
                have run : ∀ o1, step u σ2 μ2 = some o1 → KnO X.K fa bs t m2 H3 o1 { D with nx := fun σV' H' => ∃ m σ μ, Ex m1 H1 m H' ∧ EnvR X.K fa t m H' σ σV' ∧ Me X.K fa bs t m H' μ ∧ forV step iob g (i + 1) σ μ = some o, ct := fun σV' H' => ∃ m σ μ, Ex m1 H1 m H' ∧ EnvR X.K fa t m H' σ σV' ∧ Me X.K fa bs t m H' μ ∧ forV step iob g (i + 1) σ μ = some o, bk := D.nx } →
                    tGp X.K fa p v σV2 H3 fun σV3 H4 => tSv X.K fa n0 (exL cal n0 bd) { D with nx := fun σV' H' => ∃ m σ μ, Ex m1 H1 m H' ∧ EnvR X.K fa t m H' σ σV' ∧ Me X.K fa bs t m H' μ ∧ forV step iob g (i + 1) σ μ = some o, ct := fun σV' H' => ∃ m σ μ, Ex m1 H1 m H' ∧ EnvR X.K fa t m H' σ σV' ∧ Me X.K fa bs t m H' μ ∧ forV step iob g (i + 1) σ μ = some o, bk := D.nx } σV3 H4 := by
                  intro o1 h ko
                  obtain ⟨σ3, e5, e6⟩ := bnd o1 h
                  exact ⟨t, bs, m2, μ2, σ2, u, σ3, he2, M2, r, e5, fun σV3 he3 _ => ⟨t, bs, m2, σ3, μ2, o1, hbl, he3, M2, e6, ko⟩⟩
                split at ev2
                · rename_i σ4 μ4 e5
                  exact run _ e5 fun m3 H4 σV3 x4 M4 he4 => ⟨m3, σ4, μ4, x2.trans x4, he4, M4, ev2⟩
                · rename_i σ4 μ4 e5
                  exact run _ e5 fun m3 H4 σV3 x4 M4 he4 => ⟨m3, σ4, μ4, x2.trans x4, he4, M4, ev2⟩
                · rename_i σ4 μ4 e5
                  cases ev2
                  exact run _ e5 fun m3 H4 σV3 x4 M4 he4 => k m3 H4 σV3 (x1.trans (x2.trans x4)) M4 he4
                · rename_i o1 h1 h2 h3
                  refine run _ ev2 ?_
                  cases o with
                  | nx σ μ => exact absurd ev2 (h1 σ μ)
                  | ct σ μ => exact absurd ev2 (h2 σ μ)
                  | bk σ μ => exact absurd ev2 (h3 σ μ)
                  | rt u μ => exact Kn.ex (show Kn X.K fa bs t m0 H u μ D.rt from k) (x1.trans x2)
          · cases ev2
      · cases ev
    · cases ev
end
end R

set_option Elab.async false
set_option linter.all false
set_option maxRecDepth 100000
set_option maxHeartbeats 4000000
/-! R3j: iterators; list comprehensions -/
namespace R
open PySem PySem.Spec PyProof.Rows L2

section
variable {K : PySem.W.Frag} {fa : Nat → Option Addr} {t t' m m' : List Addr} {n n' : Nat} {H H' : Hp} {bs : List Nat} {μ : Mu} {D : Addr}
theorem wk_list {a : Addr} {vs : List V} {xs : List U} (hS : ∀ m' H', Ex m H m' H' → SqL K H' a vs) (ra : RpA K fa t m m.length H xs vs) : WkL K fa t m H (Itl K a) xs where
  go := fun i m' H' e hl => by
    have hl' : i < vs.length := by rw [← ra.length]; exact hl
    exact ⟨vs, vs[i], hS m' H' e, List.getElem?_eq_getElem hl'⟩
  stop := fun i m' H' e hl => ⟨vs, hS m' H' e, by rw [← ra.length]; exact hl⟩
  yld := fun i m' H' t' bs μ v H'' hl e ht M y => by
    obtain ⟨rfl, y⟩ := y
    obtain ⟨u, hu, r⟩ := ra.getV (y vs (hS m' _ e))
    exact ⟨u, hu, fun _ _ h => h, (r.tt ht).ex' e⟩
theorem wk_tup {a : Addr} {vs : List V} {xs : List U} (f : FT t m H a vs) (ra : RpA K fa t m m.length H xs vs) : WkL K fa t m H (Itt K a) xs where
  go := fun i m' H' e hl => by
    have hl' : i < vs.length := by rw [← ra.length]; exact hl
    exact ⟨vs, vs[i], (f.ex e).sq, List.getElem?_eq_getElem hl'⟩
  stop := fun i m' H' e hl => ⟨vs, (f.ex e).sq, by rw [← ra.length]; exact hl⟩
  yld := fun i m' H' t' bs μ v H'' hl e ht M y => by
    obtain ⟨rfl, y⟩ := y
    obtain ⟨u, hu, r⟩ := ra.getV (y vs (f.ex e).sq)
    exact ⟨u, hu, fun _ _ h => h, (r.tt ht).ex' e⟩
theorem wk_str {x : Str} : WkL K fa t m H (Its x) (x.cps.toList.map fun c => .str ⟨#[c]⟩) where
  go := fun i m' H' e hl => by simpa [Its] using hl
  stop := fun i m' H' e hl => by simpa [Its] using hl
  yld := fun i m' H' t' bs μ v H'' hl e ht M y => by
    obtain ⟨rfl, c, hc, rfl⟩ := y
    exact ⟨.str ⟨#[c]⟩, by simp [hc], fun _ _ h => h, .str _⟩
theorem rgn_len (lo hi : Int) : (rgn lo hi).length = (hi - lo).toNat := by simp [rgn]
theorem wk_rng {lo hi : Int} : WkL K fa t m H (Itr lo (hi - lo).toNat) (rgn lo hi) where
  go := fun i m' H' e hl => by rw [rgn_len] at hl; exact hl
  stop := fun i m' H' e hl => by rw [rgn_len] at hl; exact hl
  yld := fun i m' H' t' bs μ v H'' hl e ht M y => by
    obtain ⟨rfl, rfl⟩ := y
    rw [rgn_len] at hl
    exact ⟨.int (lo + i), by simp [rgn, hl], fun _ _ h => h, .int _⟩
theorem wk_enm {a : Addr} {vs : List V} {xs : List U} (f : FL t m H a vs) (ra : RpA K fa t m m.length H xs vs) : WkL K fa t m H (Ite K a) (enum xs) where
  go := fun i m' H' e hl => by
    have hl' : i < vs.length := by rw [← ra.length]; simpa [enum] using hl
    exact ⟨vs, vs[i], (f.ex e).sq, List.getElem?_eq_getElem hl'⟩
  stop := fun i m' H' e hl => ⟨vs, (f.ex e).sq, by rw [← ra.length]; simpa [enum] using hl⟩
  yld := fun i m' H' t' bs μ v H'' hl e ht M y => by
    obtain ⟨T, x, rfl, hT, rfl, y⟩ := y
    obtain ⟨u, hu, r⟩ := ra.getV (y vs (f.ex e).sq)
    have hl' : i < xs.length := by simpa [enum] using hl
    obtain ⟨n1, n2⟩ := M.fresh hT
    have r' : Rp K fa t' m' m'.length (upd H' T (.tup [.int (i : Nat), x])) u x := ((r.tt ht).ex' e).ex' (Ex.upd hT)
    refine ⟨.tup [.int (i : Nat), u], ?_, fun b o h => by rw [upd_ne (ne_of_none h hT)]; exact h, .tup ⟨upd_same, n1, n2⟩ (.cons (.int _) (.one r'))⟩
    have hu' : xs[i] = u := by rw [List.getElem?_eq_getElem hl'] at hu; exact Option.some.inj hu
    simp [enum, List.getElem?_map, List.getElem?_zip_eq_some, hl', hu']
theorem wk_enmT {a : Addr} {vs : List V} {xs : List U} (f : FT t m H a vs) (ra : RpA K fa t m m.length H xs vs) : WkL K fa t m H (IteT K a) (enum xs) where
  go := fun i m' H' e hl => by
    have hl' : i < vs.length := by rw [← ra.length]; simpa [enum] using hl
    exact ⟨vs, vs[i], (f.ex e).sq, List.getElem?_eq_getElem hl'⟩
  stop := fun i m' H' e hl => ⟨vs, (f.ex e).sq, by rw [← ra.length]; simpa [enum] using hl⟩
  yld := fun i m' H' t' bs μ v H'' hl e ht M y => by
    obtain ⟨T, x, rfl, hT, rfl, y⟩ := y
    obtain ⟨u, hu, r⟩ := ra.getV (y vs (f.ex e).sq)
    have hl' : i < xs.length := by simpa [enum] using hl
    obtain ⟨n1, n2⟩ := M.fresh hT
    have r' : Rp K fa t' m' m'.length (upd H' T (.tup [.int (i : Nat), x])) u x := ((r.tt ht).ex' e).ex' (Ex.upd hT)
    refine ⟨.tup [.int (i : Nat), u], ?_, fun b o h => by rw [upd_ne (ne_of_none h hT)]; exact h, .tup ⟨upd_same, n1, n2⟩ (.cons (.int _) (.one r'))⟩
    have hu' : xs[i] = u := by rw [List.getElem?_eq_getElem hl'] at hu; exact Option.some.inj hu
    simp [enum, List.getElem?_map, List.getElem?_zip_eq_some, hl', hu']
theorem wk_zipL {a b : Addr} {vs ws : List V} {xs ys : List U} (f : FL t m H a vs) (g : FL t m H b ws) (ra : RpA K fa t m m.length H xs vs) (rb : RpA K fa t m m.length H ys ws) : WkL K fa t m H (Itz K a b) (zips xs ys) where
  go := fun i m' H' e hl => by
    simp [zips] at hl
    have h1 : i < vs.length := by rw [← ra.length]; omega
    have h2 : i < ws.length := by rw [← rb.length]; omega
    exact ⟨vs, ws, vs[i], ws[i], (f.ex e).sq, (g.ex e).sq, List.getElem?_eq_getElem h1, List.getElem?_eq_getElem h2⟩
  stop := fun i m' H' e hl => ⟨vs, ws, (f.ex e).sq, (g.ex e).sq, by
    simp [zips] at hl
    rw [← ra.length, ← rb.length]; omega⟩
  yld := fun i m' H' t' bs μ v H'' hl e ht M y => by
    obtain ⟨T, x, z, rfl, hT, rfl, y1, y2⟩ := y
    obtain ⟨u, hu, r⟩ := ra.getV (y1 vs (f.ex e).sq)
    obtain ⟨w, hw, r2⟩ := rb.getV (y2 ws (g.ex e).sq)
    obtain ⟨n1, n2⟩ := M.fresh hT
    refine ⟨.tup [u, w], by simp [zips, List.getElem?_map, List.getElem?_zip_eq_some, hu, hw], fun b o h => by rw [upd_ne (ne_of_none h hT)]; exact h, .tup ⟨upd_same, n1, n2⟩ (.cons (((r.tt ht).ex' e).ex' (Ex.upd hT)) (.one (((r2.tt ht).ex' e).ex' (Ex.upd hT))))⟩
theorem wk_zipT {a b : Addr} {vs ws : List V} {xs ys : List U} (f : FT t m H a vs) (g : FT t m H b ws) (ra : RpA K fa t m m.length H xs vs) (rb : RpA K fa t m m.length H ys ws) : WkL K fa t m H (RZ.ItzT K a b) (zips xs ys) where
  go := fun i m' H' e hl => by
    simp [zips] at hl
    have h1 : i < vs.length := by rw [← ra.length]; omega
    have h2 : i < ws.length := by rw [← rb.length]; omega
    exact ⟨vs, ws, vs[i], ws[i], (f.ex e).sq, (g.ex e).sq, List.getElem?_eq_getElem h1, List.getElem?_eq_getElem h2⟩
  stop := fun i m' H' e hl => ⟨vs, ws, (f.ex e).sq, (g.ex e).sq, by
    simp [zips] at hl
    rw [← ra.length, ← rb.length]; omega⟩
  yld := fun i m' H' t' bs μ v H'' hl e ht M y => by
    obtain ⟨T, x, z, rfl, hT, rfl, y1, y2⟩ := y
    obtain ⟨u, hu, r⟩ := ra.getV (y1 vs (f.ex e).sq)
    obtain ⟨w, hw, r2⟩ := rb.getV (y2 ws (g.ex e).sq)
    obtain ⟨n1, n2⟩ := M.fresh hT
    refine ⟨.tup [u, w], by simp [zips, List.getElem?_map, List.getElem?_zip_eq_some, hu, hw], fun b o h => by rw [upd_ne (ne_of_none h hT)]; exact h, .tup ⟨upd_same, n1, n2⟩ (.cons (((r.tt ht).ex' e).ex' (Ex.upd hT)) (.one (((r2.tt ht).ex' e).ex' (Ex.upd hT))))⟩
end

section
variable {X : Cx} {fa : Nat → Option Addr} {cal : Nat → List U → Mu → Option (U × Mu)} {n0 : Nat}
variable {a b c : E} {xa xb xc : Expr} {pos : Pos} {tg : Expr}
abbrev PIv (X : Cx) (fa : Nat → Option Addr) (cal : Nat → List U → Mu → Option (U × Mu)) (n0 : Nat) (tg iter : Expr) (ik : Ik) (its : List E) : Prop := PI X tg iter (tI X.K fa n0 (evalL cal n0 its) ik)
theorem evalL_one {σ : Env} {μ μ' : Mu} {us : List U} (h : evalL cal n0 [a] σ μ = some (us, μ')) : ∃ u, us = [u] ∧ evalE cal n0 a σ μ = some (u, μ') := by
  simp only [evalL] at h
  split at h
  · rename_i u μ1 e1
    cases h
    exact ⟨u, rfl, e1⟩
  · cases h
theorem i_ex (h : PEv X fa cal n0 xa a) : PIv X fa cal n0 tg xa .ex [a] := by
  refine ⟨fun pins s σV H R I q => ?_⟩
  obtain ⟨t, bs, m, σ, μ, us, μ', w, hb, he, M, ev, wk, k⟩ := q
  obtain ⟨u, rfl, e1⟩ := evalL_one ev
  cases u with
  | tup xs =>
    cases wk
    refine (pi_tup h).run pins s σV H R I ?_
    refine seq1 hb he M e1 fun m1 H1 v1 x1 M1 r1 => ?_
    cases r1 with
    | tup f ra => exact ⟨_, rfl, ⟨_, f.sq⟩, k m1 H1 _ x1 M1 (wk_tup f ra)⟩
  | lst xs =>
    cases wk
    refine (pi_list h).run pins s σV H R I ?_
    refine seq1 hb he M e1 fun m1 H1 v1 x1 M1 r1 => ?_
    cases r1 with
    | lst f ra => exact ⟨_, rfl, ⟨_, f.sq⟩, k m1 H1 _ x1 M1 (wk_list (fun m' H' e => (f.ex e).sq) ra)⟩
  | scr ns =>
    cases wk
    refine (pi_list h).run pins s σV H R I ?_
    refine seq1 hb he M e1 fun m1 H1 v1 x1 M1 r1 => ?_
    cases r1 with
    | scr f => exact ⟨_, rfl, ⟨_, f.sq⟩, k m1 H1 _ x1 M1 (wk_list (fun m' H' e => (f.ex e).sq) (RpA.ints ns))⟩
  | ob i =>
    simp only [walk] at wk
    split at wk
    · rename_i xs e2
      cases wk
      refine (pi_list h).run pins s σV H R I ?_
      refine seq1 hb he M e1 fun m1 H1 v1 x1 M1 r1 => ?_
      obtain ⟨p, rfl, hp, c⟩ := M1.objF r1 e2
      cases c with
      | lst hH ra => exact ⟨_, rfl, ⟨_, SqL.of hH⟩, k m1 H1 _ x1 M1 ⟨p, hp, rfl⟩⟩
    · cases wk
  | str x =>
    cases wk
    refine (pi_str h).run pins s σV H R I ?_
    refine seq1 hb he M e1 fun m1 H1 v1 x1 M1 r1 => ?_
    cases r1
    exact ⟨x, rfl, k m1 H1 _ x1 M1 wk_str⟩
  | _ => cases wk
theorem evalL_len {σ : Env} : ∀ {es : List E} {μ μ' : Mu} {us : List U}, evalL cal n0 es σ μ = some (us, μ') → us.length = es.length
  | [], _, _, _, h => by simp only [evalL] at h; cases h; rfl
  | e :: es, _, _, _, h => by
    simp only [evalL] at h
    split at h
    · split at h
      · rename_i e2
        cases h
        simp [evalL_len e2]
      · cases h
    · cases h
theorem i_rng1 {p : Pos} (hg : Gl X "range") (hm : X.mg "range" = none) (h : PEv X fa cal n0 xa a) (hk : okh xa = true) : PIv X fa cal n0 tg (.Call (.Name "range" p) [xa] [] pos) .rng [a] := by
  refine ⟨fun pins s σV H R I q => ?_⟩
  refine (pi_range1 (tg := tg) (p := p) (pos := pos) hg hm (a_cons h a_nil hk) (okh_star hk)).run pins s σV H R I ?_
  obtain ⟨t, bs, m, σ, μ, us, μ', w, hb, he, M, ev, wk, k⟩ := q
  obtain ⟨u, rfl, e1⟩ := evalL_one ev
  refine ⟨t, bs, m, σ, μ, _, μ', hb, he, M, ev, fun m1 H1 vs x1 M1 ra => ?_⟩
  obtain ⟨v, rfl, r⟩ := rpa1 ra
  cases u with
  | int j =>
    simp only [walk] at wk
    split at wk
    · rename_i hj
      cases wk
      cases r
      refine ⟨j, rfl, hj.1, hj.2, ?_⟩
      have := k m1 H1 (Itr 0 (j - 0).toNat) x1 M1 wk_rng
      simpa using this
    · cases wk
  | _ => simp [walk] at wk
theorem i_rng2 {p : Pos} (hg : Gl X "range") (hm : X.mg "range" = none) (h : PEv X fa cal n0 xa a) (hb : PEv X fa cal n0 xb b) (hk : okh xa = true) (hkb : okh xb = true) : PIv X fa cal n0 tg (.Call (.Name "range" p) [xa, xb] [] pos) .rng [a, b] := by
  refine ⟨fun pins s σV H R I q => ?_⟩
  refine (pi_range2 (tg := tg) (p := p) (pos := pos) hg hm (a_cons h (a_cons hb a_nil hkb) hk) (by rw [okh_star hk, okh_star hkb] <;> rfl) (okh_star hkb)).run pins s σV H R I ?_
  obtain ⟨t, bs, m, σ, μ, us, μ', w, hb, he, M, ev, wk, k⟩ := q
  refine ⟨t, bs, m, σ, μ, _, μ', hb, he, M, ev, fun m1 H1 vs x1 M1 ra => ?_⟩
  match us, wk, ra with
  | [.int i, .int j], wk, ra =>
    obtain ⟨v, z, rfl, r, r2⟩ := rpa2 ra
    simp only [walk] at wk
    split at wk
    · rename_i hj
      cases wk
      cases r
      cases r2
      exact ⟨i, j, rfl, hj, k m1 H1 (Itr i (j - i).toNat) x1 M1 wk_rng⟩
    · cases wk
  | [.int j], wk, ra =>
    have := evalL_len ev
    simp at this
theorem i_enm {p tpos : Pos} {elts : List Expr} {kk : Nat} (hg : Gl X "enumerate") (hm : X.mg "enumerate" = none) (h : PEv X fa cal n0 xa a) (hk : okh xa = true) : PIv X fa cal n0 (.Tuple elts kk tpos) (.Call (.Name "enumerate" p) [xa] [] pos) .enm [a] := by
  refine ⟨fun pins s σV H R I q => ?_⟩
  refine (pi_enumA (tpos := tpos) (elts := elts) (kk := kk) (p := p) (pos := pos) hg hm (a_cons h a_nil hk) (okh_star hk)).run pins s σV H R I ?_
  obtain ⟨t, bs, m, σ, μ, us, μ', w, hb, he, M, ev, wk, k⟩ := q
  obtain ⟨u, rfl, e1⟩ := evalL_one ev
  refine ⟨t, bs, m, σ, μ, _, μ', hb, he, M, ev, fun m1 H1 vs x1 M1 ra => ?_⟩
  obtain ⟨v, rfl, r⟩ := rpa1 ra
  cases u with
  | lst xs =>
    simp only [walk] at wk
    cases wk
    cases r with
    | lst f ra2 => exact ⟨_, _, rfl, .inl ⟨f.sq, k m1 H1 _ x1 M1 (wk_enm f ra2)⟩⟩
  | tup xs =>
    simp only [walk] at wk
    cases wk
    cases r with
    | tup f ra2 => exact ⟨_, _, rfl, .inr ⟨f.sq, k m1 H1 _ x1 M1 (wk_enmT f ra2)⟩⟩
  | _ => simp [walk] at wk
theorem i_zip {p tpos : Pos} {elts : List Expr} {kk : Nat} (hg : Gl X "zip") (hm : X.mg "zip" = none) (h : PEv X fa cal n0 xa a) (hb : PEv X fa cal n0 xb b) (hk : okh xa = true) (hkb : okh xb = true) : PIv X fa cal n0 (.Tuple elts kk tpos) (.Call (.Name "zip" p) [xa, xb] [] pos) .zip [a, b] := by
  refine ⟨fun pins s σV H R I q => ?_⟩
  refine (RZ.pi_zipA (tpos := tpos) (elts := elts) (kk := kk) (p := p) (pos := pos) hg hm (a_cons h (a_cons hb a_nil hkb) hk) (okh_star hk) (okh_back (es := [xb]) (by simp [hkb]))).run pins s σV H R I ?_
  obtain ⟨t, bs, m, σ, μ, us, μ', w, hb, he, M, ev, wk, k⟩ := q
  refine ⟨t, bs, m, σ, μ, _, μ', hb, he, M, ev, fun m1 H1 vs x1 M1 ra => ?_⟩
  match us, wk, ra with
  | [.lst xs, .lst ys], wk, ra =>
    obtain ⟨v, z, rfl, r, r2⟩ := rpa2 ra
    simp only [walk] at wk
    cases wk
    cases r with
    | lst f ra2 =>
      cases r2 with
      | lst g rb => exact ⟨_, _, _, _, rfl, .inl ⟨f.sq, g.sq, k m1 H1 _ x1 M1 (wk_zipL f g ra2 rb)⟩⟩
  | [.tup xs, .tup ys], wk, ra =>
    obtain ⟨v, z, rfl, r, r2⟩ := rpa2 ra
    simp only [walk] at wk
    cases wk
    cases r with
    | tup f ra2 =>
      cases r2 with
      | tup g rb => exact ⟨_, _, _, _, rfl, .inr ⟨f.sq, g.sq, k m1 H1 _ x1 M1 (wk_zipT f g ra2 rb)⟩⟩

/-! ### list comprehensions -/
theorem _root_.L2.PTs.imp {X : Cx} {e : List Expr} {t t' : TT} (h : PTs X e t) (hi : ∀ σ H Q, t' σ H Q → t σ H Q) : PTs X e t' := ⟨fun pins s σ H Q I q => h.run pins s σ H Q I (hi _ _ _ q)⟩
theorem pts_yes : PTs X [] (tT X.K fa n0 (evalE cal n0 (.bl true))) := pts_nil.imp fun σV H Q q => by
  obtain ⟨t, bs, m, σ, μ, u, μ', b, hb, he, M, ev, tr, k⟩ := q
  simp only [evalE] at ev
  cases ev
  cases tr
  exact k m H (Ex.refl _ _) M
theorem lc_rd {p : Pt} {ik : Ik} {its : List E} {al : Bool} {ws : List Nat} {K : PySem.W.Frag} (hws : ∀ i ∈ ptSlots p, i ∈ ws) {σV : L2.St} {H : Hp} {Q : VK} (q : tE K fa n0 (evalE cal n0 (.comp al p ik its c b ws)) σV H Q) :
    tLc (tI K fa n0 (evalL cal n0 its) ik) (tGp K fa p) (tT K fa n0 (evalE cal n0 c)) (tE K fa n0 (evalE cal n0 b)) ws σV H Q := by
  obtain ⟨t, bs, m0, σ0, μ0, u0, μ', hbl, he0, M0, ev, k⟩ := q
  have hl := sz_line
  simp only [evalE] at ev
  split at ev
  · rename_i us μ1 e1
    generalize hstep : (fun (x : U) (μ : Mu) => match bindP μ p x (wipeE σ0 ws) with
      | some σ' => match evalE cal n0 c σ' μ with
        | some (t, μ) => match truth μ t with
          | some true => match evalE cal n0 b σ' μ with
            | some (y, μ) => some (some y, μ)
            | none => none
          | some false => some (none, μ)
          | none => none
        | none => none
      | none => none) = step at ev
    -- a turn
    have turn : ∀ {t' m2 : List Addr} {H2 H3 : Hp} {μ2 μ3 : Mu} {x : U} {v : V} {oy : Option U} {R : L2.St → Hp → Prop} {Ny : V → Hp → Prop} {Nn : Hp → Prop}, step x μ2 = some (oy, μ3) → EnvR K fa t' m2 H2 σ0 σV → Me K fa bs t' m2 H2 μ2 → (∀ a o, H2 a = some o → H3 a = some o) → Rp K fa t' m2 m2.length H3 x v →
        (∀ y, oy = some y → ∀ m4 H4 w, Ex m2 H3 m4 H4 → Me K fa bs t' m4 H4 μ3 → Rp K fa t' m4 m4.length H4 y w → Ny w H4) → (oy = none → ∀ m4 H4, Ex m2 H3 m4 H4 → Me K fa bs t' m4 H4 μ3 → Nn H4) →
        tGp K fa p v (L2.wipe σV ws) H3 fun σ2 H2 => L2.wipe σ2 ws = L2.wipe σV ws ∧ tT K fa n0 (evalE cal n0 c) σ2 H2 fun b1 H3 => if b1 = true then tE K fa n0 (evalE cal n0 b) σ2 H3 fun y H4 => Ny y H4 else Nn H3 := by
      intro t' m2 H2 H3 μ2 μ3 x v oy R Ny Nn hs he M kp r hy hn
      rw [← hstep] at hs
      simp only at hs
      have x3 : Ex m2 H2 m2 H3 := Ex.of_keep kp
      split at hs
      · rename_i σ' eb
        refine ⟨t', bs, m2, μ2, wipeE σ0 ws, x, σ', (he.wipe ws).ex x3, M.ext kp, r, eb, fun σV2 he2 s2 => ⟨by rw [s2 ws hws, wipe_wipe], ?_⟩⟩
        split at hs
        · rename_i tv μ4 ec
          split at hs
          · rename_i et
            refine ⟨t', bs, m2, σ', μ2, tv, μ4, true, hbl, he2, M.ext kp, ec, et, fun m4 H4 x4 M4 => ?_⟩
            simp only [↓reduceIte]
            split at hs
            · rename_i y μ5 ey
              cases hs
              exact ⟨t', bs, m4, σ', μ4, y, _, hbl, he2.ex x4, M4, ey, fun m5 H5 w x5 M5 rw' => hy y rfl m5 H5 w (x4.trans x5) M5 rw'⟩
            · cases hs
          · rename_i et
            cases hs
            refine ⟨t', bs, m2, σ', μ2, tv, _, false, hbl, he2, M.ext kp, ec, et, fun m4 H4 x4 M4 => ?_⟩
            simp only [↓reduceIte, Bool.false_eq_true]
            exact hn rfl m4 H4 x4 M4
          · cases hs
        · cases hs
      · cases hs
    split at ev
    · rename_i xs e2
      split at ev
      · rename_i ys μ9 e3
        obtain ⟨rfl, rfl⟩ := Prod.mk.inj (Option.some.inj ev)
        refine ⟨t, bs, m0, σ0, μ0, us, μ1, .inl xs, hbl, he0, M0, e1, e2, fun m1 H1 J x1 M1 wk D hD => ?_⟩
        have wk : WkL K fa t m1 H1 J xs := wk
        obtain ⟨Dm, Dt⟩ := M1.fresh hD
        have he1 := he0.ex x1
        refine ⟨fun i mm H' => mm = xs.length - i ∧ i ≤ xs.length ∧ ∃ m μ acc vacc, Ex m1 H1 m H' ∧ Me K fa bs (D :: t) m H' μ ∧ H' D = some (.lst vacc) ∧ RpA K fa (D :: t) m m.length H' acc vacc ∧ compL step (xs.drop i) acc μ = some (ys, μ9),
          ⟨xs.length, by simp, Nat.zero_le _, m1, μ1, [], [], (Ex.refl _ _).tmp hD, M1.tn hD, upd_same, .nil, by simpa using e3⟩, ?_⟩
        rintro i mm H2 ⟨rfl, hle, m2, μ2, acc, vacc, x2, M2, hDv, ra, ev2⟩
        by_cases hlt : i < xs.length
        · refine .inr ⟨wk.go i m2 H2 x2 hlt, fun H' => i + 1 ≤ xs.length ∧ ∃ m μ acc vacc, Ex m1 H1 m H' ∧ Me K fa bs (D :: t) m H' μ ∧ H' D = some (.lst vacc) ∧ RpA K fa (D :: t) m m.length H' acc vacc ∧ compL step (xs.drop (i + 1)) acc μ = some (ys, μ9), fun H' w => ⟨xs.length - (i + 1), by omega, rfl, w.1, w.2⟩, fun x H3 y => ?_⟩
          obtain ⟨u, hu, kp, r⟩ := wk.yld i m2 H2 (D :: t) bs μ2 x H3 hlt x2 (fun a h => (List.mem_cons.mp h).elim (fun z => .inr (by rw [z]; exact hD)) .inl) M2 y
          have hd : xs.drop i = u :: xs.drop (i + 1) := by
            rw [List.drop_eq_getElem_cons hlt]
            rw [List.getElem?_eq_getElem hlt] at hu
            cases hu; rfl
          rw [hd] at ev2
          simp only [compL] at ev2
          have x3 : Ex m2 H2 m2 H3 := Ex.of_keep kp
          have x23 := x2.trans x3
          have heD : EnvR K fa (D :: t) m2 H2 σ0 σV := ⟨he1.len, fun j w q => let ⟨v, a, b⟩ := he1.at_ j w q; ⟨v, a, (b.tn hD).ex' x2⟩⟩
          have D2 : D ∉ m2 := (M2.tt D (by simp)).1
          split at ev2
          · rename_i y' μ3 e4
            split at ev2
            · rename_i hz
              refine turn (R := fun _ _ => True) e4 heD M2 kp r (fun y0 hy m4 H4 w x4 M4 rw' => ?_) (fun z => by cases z)
              cases hy
              have hD4 : H4 D = some (.lst vacc) := x4.keep D _ (kp D _ hDv) D2
              refine ⟨vacc, hD4, by rw [← ra.length]; omega, hlt, m4, μ3, acc ++ [y'], vacc ++ [w], (x23.trans x4).tmp hD, M4.td (by simp), upd_same, ?_, ev2⟩
              exact (((ra.ex' x3).ex' x4).append (.one rw')).td (by simp)
            · cases ev2
          · rename_i μ3 e4
            refine turn (R := fun _ _ => True) e4 heD M2 kp r (fun y0 hy => by cases hy) (fun _ m4 H4 x4 M4 => ?_)
            have hD4 : H4 D = some (.lst vacc) := x4.keep D _ (kp D _ hDv) D2
            exact ⟨hlt, m4, μ3, acc, vacc, x23.trans x4, M4, hD4, (ra.ex' x3).ex' x4, ev2⟩
          · cases ev2
        · have e : i = xs.length := by omega
          subst e
          rw [List.drop_length] at ev2
          simp only [compL] at ev2
          obtain ⟨rfl, rfl⟩ := Prod.mk.inj (Option.some.inj ev2)
          exact .inl ⟨wk.stop _ m2 H2 x2 (Nat.le_refl _), (k.ex x1).tmpL hD Dt x2 M2 hDv ra⟩
      · cases ev
    · rename_i iob e2
      split at ev
      · rename_i ys μ9 e3
        obtain ⟨rfl, rfl⟩ := Prod.mk.inj (Option.some.inj ev)
        refine ⟨t, bs, m0, σ0, μ0, us, μ1, .inr iob, hbl, he0, M0, e1, e2, fun m1 H1 J x1 M1 wk D hD => ?_⟩
        obtain ⟨ad, had, rfl⟩ := (show ∃ a, m1[iob]? = some a ∧ J = Itl K a from wk)
        obtain ⟨Dm, Dt⟩ := M1.fresh hD
        have he1 := he0.ex x1
        refine ⟨fun i f H' => ∃ m μ acc vacc, Ex m1 H1 m H' ∧ Me K fa bs (D :: t) m H' μ ∧ H' D = some (.lst vacc) ∧ RpA K fa (D :: t) m m.length H' acc vacc ∧ compV step iob f i acc μ = some (ys, μ9),
          ⟨FU, m1, μ1, [], [], (Ex.refl _ _).tmp hD, M1.tn hD, upd_same, .nil, e3⟩, ?_⟩
        rintro i f H2 ⟨m2, μ2, acc, vacc, x2, M2, hDv, ra, ev2⟩
        cases f with
        | zero => simp [compV] at ev2
        | succ g =>
          simp only [compV] at ev2
          split at ev2
          · rename_i xs e4
            have hat := x2.at_ had
            obtain ⟨ad', e5, hm2, cc⟩ := M2.objF (v := .ref ad) (.ob (by have := (List.getElem?_eq_some_iff.mp hat).1; exact this) hat) e4
            cases e5
            cases cc with
            | @lst vx _ hH rl =>
              have hS : SqL K H2 ad vx := SqL.of hH
              split at ev2
              · rename_i hnone
                obtain ⟨rfl, rfl⟩ := Prod.mk.inj (Option.some.inj ev2)
                exact .inl ⟨⟨vx, hS, by rw [← rl.length]; exact List.getElem?_eq_none_iff.mp hnone⟩, (k.ex x1).tmpL hD Dt x2 M2 hDv ra⟩
              · rename_i u hu
                obtain ⟨v, hv, r⟩ := rl.get hu
                refine .inr ⟨⟨vx, v, hS, hv⟩, fun H' => ∃ m μ acc vacc, Ex m1 H1 m H' ∧ Me K fa bs (D :: t) m H' μ ∧ H' D = some (.lst vacc) ∧ RpA K fa (D :: t) m m.length H' acc vacc ∧ compV step iob g (i + 1) acc μ = some (ys, μ9), fun H' w => ⟨g, Nat.lt_succ_self g, w⟩, fun x H3 y => ?_⟩
                obtain ⟨rfl, y⟩ := y
                have := y vx hS
                rw [hv] at this
                cases this
                have heD : EnvR K fa (D :: t) m2 H3 σ0 σV := ⟨he1.len, fun j w q => let ⟨v, a, b⟩ := he1.at_ j w q; ⟨v, a, (b.tn hD).ex' x2⟩⟩
                have D2 : D ∉ m2 := (M2.tt D (by simp)).1
                split at ev2
                · rename_i y' μ3 e6
                  split at ev2
                  · rename_i hz
                    refine turn (R := fun _ _ => True) e6 heD M2 (fun _ _ h => h) r (fun y0 hy m4 H4 w x4 M4 rw' => ?_) (fun z => by cases z)
                    cases hy
                    have hD4 : H4 D = some (.lst vacc) := x4.keep D _ hDv D2
                    refine ⟨vacc, hD4, by rw [← ra.length]; omega, m4, μ3, acc ++ [y'], vacc ++ [w], (x2.trans x4).tmp hD, M4.td (by simp), upd_same, ?_, ev2⟩
                    exact ((ra.ex' x4).append (.one rw')).td (by simp)
                  · cases ev2
                · rename_i μ3 e6
                  refine turn (R := fun _ _ => True) e6 heD M2 (fun _ _ h => h) r (fun y0 hy => by cases hy) (fun _ m4 H4 x4 M4 => ?_)
                  have hD4 : H4 D = some (.lst vacc) := x4.keep D _ hDv D2
                  exact ⟨m4, μ3, acc, vacc, x2.trans x4, M4, hD4, ra.ex' x4, ev2⟩
                · cases ev2
          · cases ev2
      · cases ev
    · cases ev
  · cases ev
theorem e_comp {p : Pt} {ik : Ik} {its : List E} {al : Bool} {elt iter : Expr} {ifs : List Expr} {scope : Scope} {own : List (Str × Nat)} (hc : X.calm = true) (hN : X.N.Nodup) (hi : PIv X fa cal n0 tg iter ik its) (ok : BlkOk X.N X.env.scope scope own)
    (hg : ∀ (s : Shared) (H : Hp) (C : Addr) (cl : List (Str × Addr)) (fp : List Addr), PG (X.blk s H scope (compEnvC scope cl C X.env) fp) tg (tGp X.K fa p))
    (ht : ∀ (s : Shared) (H : Hp) (C : Addr) (cl : List (Str × Addr)) (fp : List Addr), PTs (X.blk s H scope (compEnvC scope cl C X.env) fp) ifs (tT X.K fa n0 (evalE cal n0 c)))
    (he : ∀ (s : Shared) (H : Hp) (C : Addr) (cl : List (Str × Addr)) (fp : List Addr), PE (X.blk s H scope (compEnvC scope cl C X.env) fp) elt (tE X.K fa n0 (evalE cal n0 b))) (hk : okh iter = true) (hws : ∀ i ∈ ptSlots p, i ∈ own.map (·.2)) :
    PEv X fa cal n0 (.ListComp elt [⟨tg, iter, ifs, 0⟩] scope pos) (.comp al p ik its c b (own.map (·.2))) :=
  (pe_lc hc hN hi ok hg ht he (okh_fold hk)).imp fun σV H Q q => lc_rd hws q
theorem s_setLc {i : Nat} {y : Str} {py spos : Pos} {p : Pt} {ik : Ik} {its : List E} {al : Bool} {elt iter : Expr} {ifs : List Expr} {scope : Scope} {own : List (Str × Nat)} (hc : X.calm = true) (hN : X.N.Nodup) (hy : X.N[i]? = some y) (hyl : X.env.scope.names.lookup y = some .local)
    (hsw : swapsWith (.ListComp elt [⟨tg, iter, ifs, 0⟩] scope pos) (some (.Name y py)) spos.line X.env = pure true) (hi : PIv X fa cal n0 tg iter ik its) (ok : BlkOk X.N X.env.scope scope own)
    (hg : ∀ (s : Shared) (H : Hp) (C : Addr) (cl : List (Str × Addr)) (fp : List Addr), PG (X.blk s H scope (compEnvC scope cl C X.env) fp) tg (tGp X.K fa p))
    (ht : ∀ (s : Shared) (H : Hp) (C : Addr) (cl : List (Str × Addr)) (fp : List Addr), PTs (X.blk s H scope (compEnvC scope cl C X.env) fp) ifs (tT X.K fa n0 (evalE cal n0 c)))
    (he : ∀ (s : Shared) (H : Hp) (C : Addr) (cl : List (Str × Addr)) (fp : List Addr), PE (X.blk s H scope (compEnvC scope cl C X.env) fp) elt (tE X.K fa n0 (evalE cal n0 b))) (hk : okh iter = true) (hws : ∀ i ∈ ptSlots p, i ∈ own.map (·.2)) :
    PSv X fa cal n0 (.Assign [.Name y py] (.ListComp elt [⟨tg, iter, ifs, 0⟩] scope pos) spos) (.set i (.comp al p ik its c b (own.map (·.2)))) :=
  (ps_setLc hc hN hy hyl hsw hi ok hg ht he (okh_fold hk)).imp fun D σV H q => by
    obtain ⟨t, bs, m, σ, μ, o, hb, he, M, ev, k⟩ := q
    simp only [exS] at ev
    split at ev
    · rename_i u μ1 e1
      cases ev
      exact lc_rd hws (seq1 hb he M e1 fun m1 H1 v1 x1 M1 r1 => k m1 H1 _ x1 M1 ((he.ex x1).set r1))
    · cases ev
end
end R

set_option Elab.async false
set_option linter.all false
set_option maxRecDepth 100000
set_option maxHeartbeats 4000000
/-! R3k: list(..), tuple(..), dict(..), sorted(..) -/
namespace R
open PySem PySem.Spec PyProof.Rows L2

mutual
theorem reads_there {h : Heap} : ∀ {v : Value} {d : PyData} {as : List Addr}, Reads h v d as → ∀ a ∈ as, ∃ o, h.get? a = some o
  | _, _, _, .none, a, m => by cases m
  | _, _, _, .bool b, a, m => by cases m
  | _, _, _, .int i t, a, m => by cases m
  | _, _, _, .str x t, a, m => by cases m
  | _, _, _, .list h1 h2 h3 h4, a, m => by
    rcases List.mem_cons.mp m with m | m
    · subst m; exact ⟨_, h1⟩
    · exact reads_thereA h4 a m
  | _, _, _, .tuple h1 h2 h3 h4, a, m => reads_thereA h4 a m
  | _, _, _, .dict h1 h2 h3 h4 h5, a, m => by
    rcases List.mem_append.mp m with m | m
    · rcases List.mem_cons.mp m with m | m
      · subst m; exact ⟨_, h1⟩
      · exact reads_thereA h4 a m
    · exact reads_thereA h5 a m
theorem reads_thereA {h : Heap} : ∀ {vs : List Value} {ds : List PyData} {as : List Addr}, ReadsAll h vs ds as → ∀ a ∈ as, ∃ o, h.get? a = some o
  | _, _, _, .nil, a, m => by cases m
  | _, _, _, .cons h1 h2, a, m => by
    rcases List.mem_append.mp m with m | m
    · exact reads_there h1 a m
    · exact reads_thereA h2 a m
end

section
variable {X : Cx} {fa : Nat → Option Addr}
def colF (al : Bool) (c : Cl) : Mu → List U → Option (U × Mu) := fun μ us => match items μ c .ex us with
  | some xs => evCol al μ c xs
  | none => none
theorem colF_some {al : Bool} {c : Cl} {μ μ' : Mu} {us : List U} {u : U} (h : colF al c μ us = some (u, μ')) : ∃ a xs, us = [a] ∧ items μ c .ex [a] = some xs ∧ evCol al μ c xs = some (u, μ') := by
  unfold colF at h
  split at h
  · rename_i xs e
    match us, e with
    | [a], e => exact ⟨a, xs, rfl, e, h⟩
    | [], e => cases c <;> simp [items] at e
    | _ :: _ :: _, e => cases c <;> simp [items] at e
  · cases h
theorem keyU_ok {K : PySem.W.Frag} {t m : List Addr} {n : Nat} {H : Hp} (k : Key) : Rp K fa t m n H (keyU k) (kV k) := by
  cases k with
  | inl i => exact .int i
  | inr x => exact .str x
theorem keysA_ok {K : PySem.W.Frag} {t m : List Addr} {n : Nat} {H : Hp} : ∀ (ks : List Key), RpA K fa t m n H (ks.map keyU) (ks.map kV)
  | [] => .nil
  | k :: ks => .cons (keyU_ok k) (keysA_ok ks)
theorem keysU_ok {K : PySem.W.Frag} {t m : List Addr} {n : Nat} {H : Hp} {bs : List Nat} {μ : Mu} (M : Me K fa bs t m H μ) : ∀ {kvs : List (List Key × V)} {ps : List Addr}, IsKeys H kvs ps → RpA K fa t m n H ((kvs.map (·.1)).map keysU) (ps.map V.ref)
  | [], _, .nil => .nil
  | kv :: kvs, _, .cons h r => .cons (.tup (M.tupN h) (keysA_ok _)) (keysU_ok M r)
/-- what list(u), sorted(u) walk -/
theorem items_ok {K : PySem.W.Frag} {t m : List Addr} {H : Hp} {bs : List Nat} {μ : Mu} {u : U} {v : V} {xs : List U} (M : Me K fa bs t m H μ) (r : Rp K fa t m m.length H u v)
    (h : (match asS μ u with
      | some xs => some xs
      | none => match cont μ u with
        | some (.dk ks _) => some (ks.map keyU)
        | some (.dt ks _) => some (ks.map keysU)
        | _ => none) = some xs) :
    ∃ p, v = .ref p ∧ ((∃ vs, (SqL K H p vs ∨ SqT K H p vs) ∧ RpA K fa t m m.length H xs vs) ∨ (∃ kvs : List (Key × V), H p = some (.dK kvs) ∧ xs = (kvs.map (·.1)).map keyU) ∨ ∃ kvs : List (List Key × V), H p = some (.dT kvs) ∧ xs = (kvs.map (·.1)).map keysU) := by
  split at h
  · rename_i ys e
    cases h
    obtain ⟨p, vs, rfl, q, ra⟩ := asS_ok M r e
    exact ⟨p, rfl, .inl ⟨vs, q, ra⟩⟩
  · split at h
    · rename_i e
      cases h
      obtain ⟨p, kvs, rfl, hH, rfl, _⟩ := dk_at M r e
      exact ⟨p, rfl, .inr (.inl ⟨kvs, hH, rfl⟩)⟩
    · rename_i e
      cases h
      obtain ⟨p, kvs, rfl, hH, rfl, _⟩ := dt_at M r e
      exact ⟨p, rfl, .inr (.inr ⟨kvs, hH, rfl⟩)⟩
    · cases h
theorem listR (hc : X.calm = true) (al : Bool) : CallR X (.type "list") (rVs X.K fa (colF al .list)) := by
  intro pins s σ H xs us Q I rx h
  obtain ⟨t, bs, m, μ, as, u, μ', M, ra, h, k⟩ := h
  obtain ⟨a, ys, rfl, e1, e2⟩ := colF_some h
  obtain ⟨v, rfl, r⟩ := rpa1 ra
  simp only [evCol] at e2
  obtain ⟨rfl, rfl⟩ := Prod.mk.inj (Option.some.inj e2)
  by_cases hs : ∃ ns, a = .scr ns
  · obtain ⟨ns, rfl⟩ := hs
    simp only [items] at e1
    cases e1
    cases r with
    | scr f => exact call_list_of pins s σ H _ us Q I rx ⟨_, _, rfl, .inl f.sq, fun l hl => k.lst M hl (RpA.ints ns)⟩
  · have e1' : (match asS μ a with
      | some xs => some xs
      | none => match cont μ a with
        | some (.dk ks _) => some (ks.map keyU)
        | some (.dt ks _) => some (ks.map keysU)
        | _ => none) = some ys := by
      rw [← e1]
      cases a <;> first | rfl | exact absurd ⟨_, rfl⟩ hs
    obtain ⟨p, rfl, q⟩ := items_ok M r e1'
    rcases q with ⟨vs, q, ra⟩ | ⟨kvs, hH, rfl⟩ | ⟨kvs, hH, rfl⟩
    · exact call_list_of pins s σ H _ us Q I rx ⟨_, _, rfl, q, fun l hl => k.lst M hl ra⟩
    · refine call_list_dK hc pins s σ H _ us Q I rx ⟨p, kvs, rfl, hH, fun l hl => ?_⟩
      refine k.lst M hl ?_
      have := keysA_ok (fa := fa) (K := X.K) (t := t) (m := m) (n := m.length) (H := H) (kvs.map (·.1))
      simpa [List.map_map, Function.comp_def] using this
    · exact call_list_dT hc pins s σ H _ us Q I rx ⟨p, kvs, rfl, .inl hH, fun l ps hl hk => k.lst M hl (keysU_ok M hk)⟩
theorem tupleR (al : Bool) : CallR X (.type "tuple") (rVs X.K fa (colF al .tuple)) := by
  intro pins s σ H xs us Q I rx h
  obtain ⟨t, bs, m, μ, as, u, μ', M, ra, h, k⟩ := h
  obtain ⟨a, ys, rfl, e1, e2⟩ := colF_some h
  obtain ⟨v, rfl, r⟩ := rpa1 ra
  simp only [evCol] at e2
  obtain ⟨rfl, rfl⟩ := Prod.mk.inj (Option.some.inj e2)
  by_cases hs : ∃ ns, a = .scr ns
  · obtain ⟨ns, rfl⟩ := hs
    simp only [items] at e1
    cases e1
    cases r with
    | scr f => exact call_tuple_of pins s σ H _ us Q I rx ⟨_, _, rfl, .inl ⟨f.sq, fun l hl => k.tup M hl (RpA.ints ns)⟩⟩
  · have e1' : asS μ a = some ys := by
      rw [← e1]
      cases a <;> first | rfl | exact absurd ⟨_, rfl⟩ hs
    by_cases ht : ∃ zs, a = .tup zs
    · obtain ⟨zs, rfl⟩ := ht
      cases e1'
      cases r with
      | tup f rb => exact call_tuple_of pins s σ H _ us Q I rx ⟨_, _, rfl, .inr ⟨f.sq, k.here M (.tup f rb)⟩⟩
    · have e3 : asL μ a = some ys := by
        rw [← e1']
        cases a <;> first | rfl | exact absurd ⟨_, rfl⟩ ht
      obtain ⟨p, vs, rfl, q, rb⟩ := asL_ok M r e3
      exact call_tuple_of pins s σ H _ us Q I rx ⟨_, _, rfl, .inl ⟨q, fun l hl => k.tup M hl rb⟩⟩
/-- pairs as tuples -/
theorem pairs_ok {K : PySem.W.Frag} {t m : List Addr} {n : Nat} {H : Hp} : ∀ {xs : List U} {vs : List V} {ps : List (U × U)}, RpA K fa t m n H xs vs → mapO pairKV xs = some ps →
    ∃ (as : List Addr) (qs : List (V × V)), vs = as.map V.ref ∧ RpP K fa t m n H ps qs ∧ Paired (fun p (q : V × V) => SqT K H p [q.1, q.2]) as qs
  | _, _, _, .nil, h => by cases h; exact ⟨[], [], rfl, .nil, .nil⟩
  | _, _, _, .cons r ra, h => by
    obtain ⟨z, zs, e1, e2, rfl⟩ := mapO_cons h
    obtain ⟨as, qs, rfl, rp, pr⟩ := pairs_ok ra e2
    cases r with
    | @tup a vs ys f rb =>
      match ys, e1, rb with
      | [k, v], e1, rb =>
        cases e1
        obtain ⟨x, y, rfl, r1, r2⟩ := rpa2 rb
        exact ⟨a :: as, (x, y) :: qs, rfl, .cons r1 r2 rp, .cons f.sq pr⟩
    | _ => simp [pairKV] at e1
theorem paired_map {α β γ : Type} {R : α → β → Prop} {f : γ → β} : ∀ {as : List α} {cs : List γ}, Paired R as (cs.map f) → Paired (fun a c => R a (f c)) as cs
  | [], [], _ => .nil
  | [], _ :: _, h => by cases h
  | a :: as, [], h => by cases h
  | a :: as, c :: cs, .cons h r => .cons h (paired_map r)
theorem dictR (hc : X.calm = true) (al : Bool) : CallR X (.type "dict") (rVs X.K fa (colF al (.dict false))) := by
  intro pins s σ H xs us Q I rx h
  obtain ⟨t, bs, m, μ, as, u, μ', M, ra, h, k⟩ := h
  obtain ⟨a, ys, rfl, e1, e2⟩ := colF_some h
  obtain ⟨v, rfl, r⟩ := rpa1 ra
  have e1' : asL μ a = some ys := by
    rw [← e1]
    cases a <;> rfl
  obtain ⟨p, vs, rfl, q, rb⟩ := asL_ok M r e1'
  simp only [evCol] at e2
  split at e2
  · rename_i ps e3
    split at e2
    · rename_i o e4
      obtain ⟨rfl, rfl⟩ := Prod.mk.inj (Option.some.inj e2)
      obtain ⟨ads, qs, rfl, rp, pr⟩ := pairs_ok rb e3
      have e4' : mergeU false ps (.dk (([] : List (Key × V)).map (·.1)) []) = some o := by simpa using e4
      obtain ⟨kvs, us', rfl, rfl, rc⟩ := mergeU_k (kvs0 := []) rp .nil e4'
      exact call_dictP hc pins s σ H _ us Q I rx ⟨p, ads, kvs, rfl, q, paired_map (R := fun p (q : V × V) => SqT X.K H p [q.1, q.2]) (f := fun kv : Key × V => (kV kv.1, kv.2)) pr, fun l hl => k.dk M hl rc⟩
    · cases e2
  · cases e2

theorem mergeT_len : ∀ (ts : List (List Key × Addr × V)) (kvs : List (List Key × V)), (mergeT kvs ts).length ≤ kvs.length + ts.length
  | [], kvs => Nat.le_refl _
  | x :: ts, kvs => by
    have h1 := mergeT_len ts (putK kvs x.1 x.2.2)
    have h2 := length_putK kvs x.1 x.2.2
    show (mergeT (putK kvs x.1 x.2.2) ts).length ≤ _
    rw [List.length_cons]
    omega
theorem kt_all {H : Hp} : ∀ {ts : List (List Key × Addr × V)} {prs : List (List Key × Addr × Value)} {kvs : List (List Key × V)} {xs : List (List Key × Addr × Value)}, Paired (fun (x : List Key × Addr × V) (y : List Key × Addr × Value) => x.1 = y.1 ∧ x.2.1 = y.2.1 ∧ RelV x.2.2 y.2.2) ts prs →
    (∀ x ∈ ts, H x.2.1 = some (.tup (x.1.map kV))) → KT H kvs xs → KT H (mergeT kvs ts) (storedAllH xs prs)
  | _, _, kvs, xs, .nil, _, r => r
  | _, _, kvs, xs, .cons (a := x) (b := y) h p, hh, r => by
    obtain ⟨e1, e2, e3⟩ := h
    have := r.put x.1 (hh x (by simp)) e3
    rw [e2, e1] at this
    have q := kt_all p (fun z hz => hh z (by simp [hz])) this
    rw [← e1] at q
    simpa [mergeT, storedAllH, e1, e2] using q
theorem prs_of {K : PySem.W.Frag} {X : Cx} {pins : List (Addr × Obj)} {σ : L2.St} {H : Hp} {s : Shared} (I : L2.Inv X pins σ H s) : ∀ {ads : List Addr} {ts : List (List Key × Addr × V)}, Paired (fun p (x : List Key × Addr × V) => SqT X.K H p [V.ref x.2.1, x.2.2]) ads ts →
    ∃ prs : List (List Key × Addr × Value), Paired (fun (x : List Key × Addr × V) (y : List Key × Addr × Value) => x.1 = y.1 ∧ x.2.1 = y.2.1 ∧ RelV x.2.2 y.2.2) ts prs ∧ prs.length = ads.length ∧ ∀ (j : Nat) (y : List Key × Addr × Value), prs[j]? = some y → ∃ p, ads[j]? = some p ∧ IsTup s.heap p #[.ref y.2.1, y.2.2]
  | _, _, .nil => ⟨[], .nil, rfl, fun j q e => by simp at e⟩
  | _, _, .cons (a := p) (b := x) h t => by
    obtain ⟨prs, r, hl, hp⟩ := prs_of (K := K) I t
    obtain ⟨its, rv, ht, _⟩ := I.tuple h
    obtain ⟨u, y, ei, ru, ry⟩ := vals2 rv
    subst ei
    cases ru
    refine ⟨(x.1, x.2.1, y) :: prs, .cons ⟨rfl, rfl, ry⟩ r, by rw [List.length_cons, List.length_cons, hl], fun j q e => ?_⟩
    cases j with
    | zero =>
      have e' : (x.1, x.2.1, y) = q := Option.some.inj e
      subst e'
      exact ⟨p, rfl, ht⟩
    | succ j =>
      obtain ⟨b, e1, e2⟩ := hp j q (by simpa using e)
      exact ⟨b, by simpa using e1, e2⟩
theorem dictRT (hc : X.calm = true) (hu : X.A.units + 66 < cLine) (al : Bool) : CallR X (.type "dict") (rVs X.K fa (colF al (.dict true))) := by
  intro pins s σ H xs us Q I rx h
  obtain ⟨t, bs, m, μ, as, u, μ', M, ra, h, k⟩ := h
  obtain ⟨a, ys, rfl, e1, e2⟩ := colF_some h
  obtain ⟨v, rfl, r⟩ := rpa1 ra
  have e1' : asL μ a = some ys := by
    rw [← e1]
    cases a <;> rfl
  obtain ⟨p, vs, rfl, q, rb⟩ := asL_ok M r e1'
  simp only [evCol] at e2
  split at e2
  · rename_i ps e3
    split at e2
    · rename_i o e4
      obtain ⟨rfl, rfl⟩ := Prod.mk.inj (Option.some.inj e2)
      obtain ⟨ads, qs, rfl, rp, pr⟩ := pairs_ok rb e3
      have e4' : mergeU true ps (.dt (([] : List (List Key × V)).map (·.1)) []) = some o := by simpa using e4
      obtain ⟨ts, us', rfl, hts, rfl, rc⟩ := mergeU_t (kvs0 := []) rp .nil e4'
      obtain ⟨w, ew, rw1⟩ := vals1 rx
      subst ew
      cases rw1
      obtain ⟨its, rv, pl, hz⟩ := I.list q
      have ei := refs_at rv
      subst ei
      rw [List.length_map] at hz
      have pr2 : Paired (fun p (x : List Key × Addr × V) => SqT X.K H p [V.ref x.2.1, x.2.2]) ads ts := paired_map (R := fun p (q : V × V) => SqT X.K H p [q.1, q.2]) (f := fun x : List Key × Addr × V => (V.ref x.2.1, x.2.2)) pr
      obtain ⟨prs, rel, hl, hpr⟩ := prs_of (K := X.K) I pr2
      obtain ⟨ob, n, ho, hco, hd, hdat⟩ := pl
      have hlt : ts.length = prs.length := rel.length
      refine call_dict_pairsH (knd := tupleKind (mixKind X.prog X.w)) (ps := prs) (PairArg.list p (ads.map Value.ref).toArray (fun j => ads[j]?.getD 0) (prs.map fun x => (Value.ref x.2.1, x.2.2))) (I.ok.hd hc)
        (show X.A.units + 1 + 1 < cLine by omega) ⟨⟨ob, n, ho, hco, hd, hdat⟩, by simp [hl], fun j kk vv e => ?_⟩ ⟨by simp, fun i kk vv e => ?_⟩ (fun h' hk x hx => ?_) (by rw [List.length_map, hl]; exact hz) fun h' tk hd' hk => ?_
      · rw [List.getElem?_map] at e
        cases e5 : prs[j]? with
        | none => rw [e5] at e; cases e
        | some y =>
          rw [e5] at e
          have e6 := Option.some.inj e
          obtain ⟨b, f1, f2⟩ := hpr j y e5
          have f3 : (Value.ref y.2.1, y.2.2) = (kk, vv) := e6
          obtain ⟨rfl, rfl⟩ := Prod.mk.inj f3
          exact ⟨by simp [f1], by show PairAt s.heap (ads[j]?.getD 0) _ _; rw [f1]; exact .inl f2⟩
      · have e' : (prs.map fun x => (Value.ref x.2.1, x.2.2))[i]? = some (kk, vv) := e
        rw [List.getElem?_map] at e'
        cases e5 : prs[i]? with
        | none => rw [e5] at e'; cases e'
        | some y =>
          rw [e5] at e'
          have f3 : (Value.ref y.2.1, y.2.2) = (kk, vv) := Option.some.inj e'
          obtain ⟨rfl, rfl⟩ := Prod.mk.inj f3
          exact ⟨y.1, y.2.1, rfl, rfl⟩
      · have mem : ∀ {l : List (List Key × Addr × V)} {l' : List (List Key × Addr × Value)}, Paired (fun (x : List Key × Addr × V) (y : List Key × Addr × Value) => x.1 = y.1 ∧ x.2.1 = y.2.1 ∧ RelV x.2.2 y.2.2) l l' → ∀ y ∈ l', ∃ x ∈ l, x.1 = y.1 ∧ x.2.1 = y.2.1 := by
          intro l l' hp
          induction hp with
          | nil => intro y hy; cases hy
          | @cons x y l l' h _ ih =>
            intro z hz
            rcases List.mem_cons.mp hz with rfl | hz
            · exact ⟨x, by simp, h.1, h.2.1⟩
            · obtain ⟨x', h1, h2⟩ := ih z hz
              exact ⟨x', by simp [h1], h2⟩
        obtain ⟨y, hy, y1, y2⟩ := mem rel x hx
        have ky := key_of I.hok (hts y hy)
        rw [y1, y2] at ky
        exact tupleKind_stays.stays (fun b o vs n e q => hk b o (Nat.ne_of_lt (Heap.lt_size e)) (fun z => nomatch z) e) ky
      · have hm : (s.heap.objs.size == sysModules) = false := beq_eq_false_iff_ne.mpr (Nat.ne_of_gt I.big)
        have hlen : (mergeT [] ts).length ≤ sizeLine := by
          have := mergeT_len ts []
          rw [List.length_nil] at this
          omega
        have new := I.hok.fresh (Nat.le_refl s.heap.objs.size)
        obtain ⟨ob2, es, ep, hq, h2, h3, h4, _, h5⟩ := hd'
        have kt : KT H (mergeT [] ts) (storedAllH [] prs) := kt_all rel hts .nil
        refine ⟨.ref s.heap.objs.size, upd H s.heap.objs.size (.dT (mergeT [] ts)), I.laid (t' := tk) (fun b o e => hk b o (fun z => nomatch z) e) (Nat.le_refl _) (show ObjOk X.prog X.w _ _ _ (.dT (mergeT [] ts)) from ⟨hlen, hm, _, kt.keeps fun c ys ec => ?_, ob2, es, ep, hq, h2, h3, h4, h5⟩), rfl, k.dt M new rc⟩
        rw [upd_ne (ne_of_none ec new)]
        exact ec
    · cases e2
  · cases e2

/-! ### sorted -/
theorem srtd_some {μ : Mu} {xs ys : List U} (h : srtd μ xs = some ys) : ∃ ds, mapO (dat μ D0) xs = some ds ∧ PySem.W.AllAlike ds ∧ PySem.W.Sortable ds ∧ ds.length ≤ SZ ∧ ys = ((xs.zip ds).mergeSort (PySem.W.dataLe false Prod.snd)).map (·.1) := by
  unfold srtd at h
  split at h
  · rename_i ds e
    split at h
    · rename_i c
      cases h
      simp only [Bool.and_eq_true, decide_eq_true_eq, Bool.or_eq_true, List.all_eq_true] at c
      refine ⟨ds, e, fun d hd d' hd' => c.1.1 d hd d' hd', ?_, c.2, rfl⟩
      rcases c.1.2 with q | q
      · refine .inl fun d hd => ?_
        have := q d hd
        split at this
        · exact ⟨_, _, rfl⟩
        · cases this
      · refine .inr fun d hd => ?_
        have := q d hd
        split at this
        · cases this
        · cases this
        · rename_i h1 h2
          exact ⟨fun z => h2 z, fun xs z => h1 xs z⟩
    · cases h
  · cases h
theorem each_build {pins : List (Addr × Obj)} {s : Shared} {σ : L2.St} {H : Hp} {t m : List Addr} {bs : List Nat} {μ : Mu} {h' : Heap} (I : L2.Inv X pins σ H s) (M : Me X.K fa bs t m H μ) (kp : ∀ b o, s.heap.get? b = some o → h'.get? b = some o) {a : Addr} (ha : s.heap.get? a = none) :
    ∀ {xs : List U} {vs : List V} {acc : List Value} {ds : List PyData}, RpA X.K fa t m m.length H xs vs → mapO (dat μ D0) xs = some ds → Vals vs acc →
    PySem.W.EachIs (fun v (b : (U × PyData) × V) => (RelV b.2 v ∧ Rp X.K fa t m m.length H b.1.1 b.2) ∧ (∃ as, Reads h' v b.1.2 as ∧ a ∉ as) ∧ b.1.2.depth ≤ D0) acc ((xs.zip ds).zip vs)
  | _, _, _, _, .nil, e, .nil => by cases e; exact .nil
  | _, _, _, _, .cons r ra, e, .cons rv vv => by
    obtain ⟨z, zs, e1, e2, rfl⟩ := mapO_cons e
    obtain ⟨d1, _, d3⟩ := Dp.of M D0 _ _ _ r e1
    obtain ⟨as, rd⟩ := Dp.reads I _ _ _ d1 rv
    refine .cons ⟨⟨rv, r⟩, ⟨as, Reads.keeps kp rd, fun z => ?_⟩, d3⟩ (each_build I M kp ha ra e2 vv)
    obtain ⟨o, eo⟩ := reads_there rd a z
    rw [ha] at eo; cases eo
theorem each_vals {K : PySem.W.Frag} {t m : List Addr} {n : Nat} {H : Hp} : ∀ {out : List Value} {zs : List ((U × PyData) × V)}, PySem.W.EachIs (fun v (b : (U × PyData) × V) => RelV b.2 v ∧ Rp K fa t m n H b.1.1 b.2) out zs → Vals (zs.map (·.2)) out ∧ RpA K fa t m n H ((zs.map (·.1)).map (·.1)) (zs.map (·.2))
  | _, _, .nil => ⟨.nil, .nil⟩
  | _, _, .cons h r => let ⟨a, b⟩ := each_vals r; ⟨.cons h.1 a, .cons h.2 b⟩
theorem each_zs {α β : Type} {R : α → β → Prop} {p : β → Prop} (hp : ∀ a b, R a b → p b) : ∀ {as : List α} {bs : List β}, PySem.W.EachIs R as bs → ∀ b ∈ bs, p b
  | _, _, .nil, b, h => by cases h
  | _, _, .cons h r, b, hb => by
    rcases List.mem_cons.mp hb with e | e
    · subst e; exact hp _ _ h
    · exact each_zs hp r b e
/-- sorted(..) behind its collecting -/
theorem sorted_from (hc : X.calm = true) (hu : X.A.units + 66 < cLine) {pins : List (Addr × Obj)} {s : Shared} {σ : L2.St} {H : Hp} {t m : List Addr} {bs : List Nat} {μ : Mu} {xs ys : List U} {vs : List V} {a : Addr} {Q : VK} {al : Bool}
    (I : L2.Inv X pins σ H s) (M : Me X.K fa bs t m H μ) (ra : RpA X.K fa t m m.length H xs vs) (hs : srtd μ xs = some ys) (k : Kn X.K fa bs t m H (fresh al (.lst ys) μ).1 (fresh al (.lst ys) μ).2 Q)
    (hcol : ∀ (R : List Value → Shared → Prop) (E : Value → Shared → Prop), (∀ h' tk acc, (∀ b o, s.heap.get? b = some o → h'.get? b = some o) → Vals vs acc → R acc { s with heap := h', toks := tk }) → wpAny (model X.prog X.w) X.A.in1 (collect (.ref a)) R E s) :
    wpAny (model X.prog X.w) X.A (call (.builtin "sorted") [.ref a]) (EP X pins σ Q) X.xe s := by
  obtain ⟨ds, e1, hal, hk, hz, rfl⟩ := srtd_some hs
  have l1 := mapO_len e1
  have l2 := ra.length
  have hl := sz_line
  have hd0 : D0 = 12 := rfl
  refine Calls.call_function_entry PyProof.Rows.kind_sorted PyProof.Rows.plain_sorted PyProof.Rows.entry_sorted (PyProof.Rows.args_sorted1 _) ?_
  unfold Builtin.«sorted»
  refine wpAny_bind (m := checkCount "sorted" 1 1 _) (wpAny_pure ?_)
  refine wpAny_bind (hcol _ _ fun h' tk acc kp vv => ?_)
  have la := vv.length
  have I1 : L2.Inv X pins σ H { s with heap := h', toks := tk } := I.kept kp
  refine wpAny_bind (wpAny_newList ?_ (by omega))
  have hoL : (h'.push (seqObj "list" acc.toArray 0)).get? h'.objs.size = some (seqObj "list" acc.toArray 0) := Heap.get?_push_size _ rfl
  show wpAny _ _ _ _ _ { s with heap := h'.push (seqObj "list" acc.toArray 0), toks := tk }
  have hfr : h'.get? h'.objs.size = none := Heap.get?_none_of_le (Nat.le_refl _)
  have ee := each_build (s := { s with heap := h', toks := tk }) (h' := h'.push (seqObj "list" acc.toArray 0)) (a := h'.objs.size) I1 M (fun b o e => Heap.get?_push_of_some _ e) hfr ra e1 vv
  have hbm : ((xs.zip ds).zip vs).map (fun b => b.1.2) = ds := by
    have h1 : ((xs.zip ds).zip vs).map (·.1) = xs.zip ds := List.map_fst_zip (by simp; omega)
    have h2 : (xs.zip ds).map (·.2) = ds := List.map_snd_zip (by omega)
    rw [show (fun b : (U × PyData) × V => b.1.2) = (fun p : U × PyData => p.2) ∘ (fun b : (U × PyData) × V => b.1) from rfl, ← List.map_map, h1, h2]
  refine wpAny_bind (wpAny_holding (PySem.W.list_sort_data (s := { s with heap := h'.push (seqObj "list" acc.toArray 0), toks := tk }) (enc := fun b : (U × PyData) × V => b.1.2) hoL (ee.mono fun _ _ q => q.1) (ee.mono fun _ _ q => q.2.1)
    (by rw [hbm]; exact hal) (by rw [hbm]; exact hk) (by simp; omega) (fun b hb => ?_) fun out ho he => ?_))
  · have : b.1.2.depth ≤ D0 := each_zs (p := fun b : (U × PyData) × V => b.1.2.depth ≤ D0) (fun _ _ q => q.2.2) ee b hb
    show X.A.units + 1 + 1 + _ < _
    omega
  · obtain ⟨e', he'⟩ := PyProof.Rows.sortedHeap_at (vs := acc) (out := out.toArray) hoL
    obtain ⟨rv, rr⟩ := each_vals he
    have hm : (((xs.zip ds).zip vs).mergeSort (PySem.W.dataLe false fun b => b.1.2)).map (·.1) = (xs.zip ds).mergeSort (PySem.W.dataLe false Prod.snd) := by
      have h1 : ((xs.zip ds).zip vs).map (·.1) = xs.zip ds := List.map_fst_zip (by simp; omega)
      rw [List.map_mergeSort (r := PySem.W.dataLe false fun b : (U × PyData) × V => b.1.2) (s := PySem.W.dataLe false Prod.snd) (f := fun b : (U × PyData) × V => b.1) (fun a _ b _ => rfl), h1]
    rw [hm] at rr
    have lo : out.length ≤ sizeLine := by rw [ho]; simp; omega
    refine wpAny_pure ⟨_, rfl, .ref h'.objs.size, upd H h'.objs.size (.lst _), I1.laid (t' := tk) (fun b u e => ?_) (Nat.le_refl _)
      (show ObjOk X.prog X.w _ _ _ (.lst _) from ⟨by rw [rv.length]; exact lo, out, e', rv, he'⟩), rfl, k.lst M (I1.hok.fresh (Nat.le_refl _)) rr⟩
    have hb : b < h'.objs.size := Heap.lt_size e
    rw [PyProof.Rows.sortedHeap_old (Nat.ne_of_lt hb) (by rw [size_push']; exact Nat.lt_succ_of_lt hb)]
    exact Heap.get?_push_of_some _ e
theorem sortedR (hc : X.calm = true) (hu : X.A.units + 66 < cLine) (al : Bool) : CallR X (.builtin "sorted") (rVs X.K fa (colF al .sorted)) := by
  intro pins s σ H xs us Q I rx h
  obtain ⟨t, bs, m, μ, as, u, μ', M, ra, h, k⟩ := h
  obtain ⟨a, ys, rfl, e1, e2⟩ := colF_some h
  obtain ⟨v, rfl, r⟩ := rpa1 ra
  simp only [evCol] at e2
  split at e2
  · rename_i zs e3
    obtain ⟨rfl, rfl⟩ := Prod.mk.inj (Option.some.inj e2)
    have e1' : (match asS μ a with
      | some xs => some xs
      | none => match cont μ a with
        | some (.dk ks _) => some (ks.map keyU)
        | some (.dt ks _) => some (ks.map keysU)
        | _ => none) = some ys := by
      rw [← e1]
      cases a <;> rfl
    obtain ⟨p, rfl, q⟩ := items_ok M r e1'
    obtain ⟨w, rfl, rw'⟩ := vals1 rx
    obtain rfl : w = Value.ref p := rw'
    have hl := sz_line
    rcases q with ⟨vs, q, rb⟩ | ⟨kvs, hH, rfl⟩ | ⟨kvs, hH, rfl⟩
    · refine sorted_from hc hu I M rb e3 k fun R E hR => ?_
      rcases q with q | q
      · obtain ⟨its, rv, ⟨o, n, ho, hcl, hdn, hd⟩, hz⟩ := I.list q
        have hlen := rv.length
        exact wpAny_collect_seq p (.inl rfl) ho hcl hd (fun h' hk => hR h' s.toks _ hk (by simpa using rv)) (by simp; omega)
      · obtain ⟨its, rv, ⟨o, ho, hcl, n, hd⟩, hz⟩ := I.tuple q
        have hlen := rv.length
        exact wpAny_collect_seq p (.inr rfl) ho hcl hd (fun h' hk => hR h' s.toks _ hk (by simpa using rv)) (by simp; omega)
    · obtain ⟨z, lo, vs, rel, dd⟩ := dk_of I.hok hH
      obtain ⟨ep, hat⟩ := dd.dictAt
      have h16 : vs.length ≤ sizeLine := by rw [← rel.length]; exact z
      have hkeys := rel.keys
      refine sorted_from hc hu I M (vs := (kvs.map (·.1)).map kV) (keysA_ok _) e3 k fun R E hR => ?_
      refine PySem.W.kdu_collect (A := X.A.in1) (PySem.W.kdl_dict (knd := mixKind X.prog X.w) (kvs := vs) (ep := ep) lo) (I.ok.hd hc) hat h16 fun h' tk acc hk hacc => hR h' tk _ hk ?_
      have := keys_at (us := acc.toList) (vs := vs) (by rw [Array.length_toList, hacc.1]) fun j v e => hacc.2 j v (by rw [← Array.getElem?_toList]; exact e)
      rw [hkeys, List.map_map]
      exact this
    · obtain ⟨z, hs, ks, pr, o, es, ep, ho, hx, hdt, he, hn⟩ := (show ObjOk X.prog X.w H s.heap p (.dT kvs) from I.hok p _ hH)
      have l1 : es.size = ks.length := size_of_entries he
      have l2 : kvs.length = ks.length := Paired.length pr
      refine sorted_from hc hu I M (vs := (ks.map fun x => x.2.1).map V.ref) (keysU_ok M (isKeys_of pr)) e3 k fun R E hR => ?_
      refine PySem.W.kdu_collect (A := X.A.in1) (kdl_raw hs hx hdt) (I.ok.hd hc) ho (by omega) fun h' tk acc' hk it => hR h' tk _ hk ?_
      have ea : acc'.toList = ks.map fun x => Value.ref x.2.1 := by
        have hl : acc'.toList.length = ks.length := by rw [Array.length_toList, it.1]; exact l1
        apply List.ext_getElem?
        intro j
        rw [List.getElem?_map]
        cases hj : acc'.toList[j]? with
        | none =>
          have h1 := List.getElem?_eq_none_iff.mp hj
          rw [List.getElem?_eq_none (by omega)]
          all_goals rfl
        | some v =>
          obtain ⟨en, hen, hv⟩ := it.2 j v (by rw [← Array.getElem?_toList]; exact hj)
          have qe := entry_at he j
          rw [hen] at qe
          cases hb : ks[j]? with
          | none =>
            rw [hb] at qe
            exact nomatch (show some en = none from qe)
          | some b =>
            rw [hb] at qe
            have e2 : en = entryOfKey (tupleKind (mixKind X.prog X.w)) b := Option.some.inj qe
            rw [hv, e2]
            all_goals rfl
      have eb : acc'.toList = (ks.map fun x => x.2.1).map Value.ref := by rw [ea, List.map_map]; all_goals rfl
      rw [eb]
      exact vals_refs _
  · cases e2
variable {cal : Nat → List U → Mu → Option (U × Mu)} {n0 : Nat} {a b : E} {xa xb : Expr} {pos p p2 pos2 : Pos}
theorem col_ev {al : Bool} {c : Cl} {σ : Env} {μ μ' : Mu} {u : U} {its : List E} (h : evalE cal n0 (.col al c .ex its) σ μ = some (u, μ')) : ∃ us μ1, evalL cal n0 its σ μ = some (us, μ1) ∧ colF al c μ1 us = some (u, μ') := by
  simp only [evalE] at h
  split at h
  · rename_i us μ1 e1
    exact ⟨us, μ1, e1, h⟩
  · cases h
theorem e_list {al : Bool} (hc : X.calm = true) (hg : Gl X "list") (hm : X.mg "list" = none) (ha : PEv X fa cal n0 xa a) (hk : okh xa = true) : PEv X fa cal n0 (.Call (.Name "list" p) [xa] [] pos) (.col al .list .ex [a]) :=
  (pe_callTy (listR hc al) hg hm boot_list (a_cons ha a_nil hk) (by decide) (by decide) (okh_star hk) rfl).imp fun σV H Q q => vs_rd (fun _ _ _ _ => col_ev) q
theorem e_tuple {al : Bool} (hg : Gl X "tuple") (hm : X.mg "tuple" = none) (ha : PEv X fa cal n0 xa a) (hk : okh xa = true) : PEv X fa cal n0 (.Call (.Name "tuple" p) [xa] [] pos) (.col al .tuple .ex [a]) :=
  (pe_callTy (tupleR al) hg hm boot_tuple (a_cons ha a_nil hk) (by decide) (by decide) (okh_star hk) rfl).imp fun σV H Q q => vs_rd (fun _ _ _ _ => col_ev) q
theorem e_dict {al : Bool} (hc : X.calm = true) (hg : Gl X "dict") (hm : X.mg "dict" = none) (ha : PEv X fa cal n0 xa a) (hk : okh xa = true) : PEv X fa cal n0 (.Call (.Name "dict" p) [xa] [] pos) (.col al (.dict false) .ex [a]) :=
  (pe_callTy (dictR hc al) hg hm boot_dict (a_cons ha a_nil hk) (by decide) (by decide) (okh_star hk) rfl).imp fun σV H Q q => vs_rd (fun _ _ _ _ => col_ev) q
theorem e_dictT {al : Bool} (hc : X.calm = true) (hu : X.A.units + 66 < cLine) (hg : Gl X "dict") (hm : X.mg "dict" = none) (ha : PEv X fa cal n0 xa a) (hk : okh xa = true) : PEv X fa cal n0 (.Call (.Name "dict" p) [xa] [] pos) (.col al (.dict true) .ex [a]) :=
  (pe_callTy (dictRT hc hu al) hg hm boot_dict (a_cons ha a_nil hk) (by decide) (by decide) (okh_star hk) rfl).imp fun σV H Q q => vs_rd (fun _ _ _ _ => col_ev) q
theorem e_sorted {al : Bool} (hc : X.calm = true) (hu : X.A.units + 66 < cLine) (hg : Gl X "sorted") (hm : X.mg "sorted" = none) (ha : PEv X fa cal n0 xa a) (hk : okh xa = true) : PEv X fa cal n0 (.Call (.Name "sorted" p) [xa] [] pos) (.col al .sorted .ex [a]) :=
  (pe_callB (sortedR hc hu al) hg hm boot_sorted (a_cons ha a_nil hk) (by decide) (by decide) (okh_star hk) rfl).imp fun σV H Q q => vs_rd (fun _ _ _ _ => col_ev) q
theorem rgn_ok {K : PySem.W.Frag} {t m : List Addr} {n : Nat} {H : Hp} (lo hi : Int) : RpA K fa t m n H (rgn lo hi) (rgV lo hi) := by
  unfold rgn rgV
  have : ∀ l : List Nat, RpA K fa t m n H (l.map fun (k : Nat) => U.int (lo + k)) (l.map fun i => V.int (lo + (i : Nat))) := by
    intro l
    induction l with
    | nil => exact .nil
    | cons x l ih => exact .cons (.int _) ih
  exact this _
/-- the bounds of a range that is collected -/
theorem rg1_rd {al : Bool} {c : Cl} {σV : L2.St} {H : Hp} {Q : VK} (hc : c = .list ∨ c = .tuple) (q : tE X.K fa n0 (evalE cal n0 (.col al c .rng [a])) σV H Q) :
    tRg1 (tE X.K fa n0 (evalE cal n0 a)) σV H fun lo hi H1 => RgOk lo hi ∧ ∃ t bs m μ u μ', Me X.K fa bs t m H1 μ ∧ evCol al μ c (rgn lo hi) = some (u, μ') ∧ Kn X.K fa bs t m H1 u μ' Q := by
  obtain ⟨t, bs, m, σ, μ, u, μ', hb, he, M, ev, k⟩ := q
  simp only [evalE] at ev
  split at ev
  · rename_i us μ1 e1
    split at ev
    · rename_i xs e2
      obtain ⟨w, rfl, e3⟩ := evalL_one e1
      refine seq1 hb he M e3 fun m1 H1 v1 x1 M1 r1 => ?_
      cases w with
      | int j =>
        have e4 : (if -(2 ^ 62) ≤ j ∧ j ≤ 2 ^ 24 then some (rgn 0 j) else none) = some xs := by
          rcases hc with rfl | rfl <;> exact e2
        split at e4
        · rename_i hj
          cases e4
          cases r1
          exact ⟨j, rfl, ⟨by omega, by omega, by omega, by omega, by omega⟩, t, bs, m1, μ1, u, μ', M1, ev, k.ex x1⟩
        · cases e4
      | _ => rcases hc with rfl | rfl <;> simp [items] at e2
    · cases ev
  · cases ev
theorem rg2_rd {al : Bool} {c : Cl} {σV : L2.St} {H : Hp} {Q : VK} (hc : c = .list ∨ c = .tuple) (q : tE X.K fa n0 (evalE cal n0 (.col al c .rng [a, b])) σV H Q) :
    tRg2 (tE X.K fa n0 (evalE cal n0 a)) (tE X.K fa n0 (evalE cal n0 b)) σV H fun lo hi H1 => RgOk lo hi ∧ ∃ t bs m μ u μ', Me X.K fa bs t m H1 μ ∧ evCol al μ c (rgn lo hi) = some (u, μ') ∧ Kn X.K fa bs t m H1 u μ' Q := by
  obtain ⟨t, bs, m, σ, μ, u, μ', hb, he, M, ev, k⟩ := q
  simp only [evalE] at ev
  split at ev
  · rename_i us μ1 e1
    split at ev
    · rename_i xs e2
      have hl := evalL_len e1
      match us, hl, e1, e2 with
      | [w1, w2], hl, e1, e2 =>
        simp only [evalL] at e1
        split at e1
        · rename_i y1 μ2 e3
          split at e1
          · rename_i e4
            split at e4
            · rename_i y2 μ3 e5
              cases e4
              cases e1
              refine seq2 hb he M e3 e5 fun m1 H1 v1 v2 x1 M1 r1 r2 => ?_
              have key : ∃ i j, w1 = .int i ∧ w2 = .int j ∧ (if -(2 ^ 62) ≤ i ∧ i < 2 ^ 62 ∧ -(2 ^ 62) ≤ j ∧ j < 2 ^ 62 ∧ (j - i).toNat ≤ 2 ^ 24 then some (rgn i j) else none) = some xs := by
                rcases hc with rfl | rfl
                · cases w1 <;> first | (simp [items] at e2; done) | (cases w2 <;> first | (simp [items] at e2; done) | exact ⟨_, _, rfl, rfl, e2⟩)
                · cases w1 <;> first | (simp [items] at e2; done) | (cases w2 <;> first | (simp [items] at e2; done) | exact ⟨_, _, rfl, rfl, e2⟩)
              obtain ⟨i, j, rfl, rfl, e6⟩ := key
              split at e6
              · rename_i hj
                cases e6
                cases r1
                cases r2
                exact ⟨i, j, rfl, rfl, ⟨hj.1, hj.2.1, hj.2.2.1, hj.2.2.2.1, hj.2.2.2.2⟩, t, bs, m1, _, u, μ', M1, ev, k.ex x1⟩
              · cases e6
            · cases e4
          · cases e1
        · cases e1
    · cases ev
  · cases ev
theorem col_lst {al : Bool} {t m : List Addr} {bs : List Nat} {H : Hp} {μ μ' : Mu} {u : U} {lo hi : Int} {Q : VK} (M : Me X.K fa bs t m H μ) (e : evCol al μ .list (rgn lo hi) = some (u, μ')) (k : Kn X.K fa bs t m H u μ' Q) : ∀ q, H q = none → Q (.ref q) (upd H q (.lst (rgV lo hi))) := fun q hq => by
  simp only [evCol] at e
  obtain ⟨rfl, rfl⟩ := Prod.mk.inj (Option.some.inj e)
  exact k.lst M hq (rgn_ok lo hi)
theorem col_tup {al : Bool} {t m : List Addr} {bs : List Nat} {H : Hp} {μ μ' : Mu} {u : U} {lo hi : Int} {Q : VK} (M : Me X.K fa bs t m H μ) (e : evCol al μ .tuple (rgn lo hi) = some (u, μ')) (k : Kn X.K fa bs t m H u μ' Q) : ∀ q, H q = none → Q (.ref q) (upd H q (.tup (rgV lo hi))) := fun q hq => by
  simp only [evCol] at e
  obtain ⟨rfl, rfl⟩ := Prod.mk.inj (Option.some.inj e)
  exact k.tup M hq (rgn_ok lo hi)
theorem tRg1_imp {ta : TE} {σ : L2.St} {H : Hp} {P R : Int → Int → Hp → Prop} (mono : ∀ (σ : L2.St) (H : Hp) (Q Q' : VK), (∀ v H', Q v H' → Q' v H') → ta σ H Q → ta σ H Q') (h : tRg1 ta σ H P) (hi : ∀ a b H', P a b H' → R a b H') : tRg1 ta σ H R :=
  mono σ H _ _ (fun _ _ ⟨n, e, p⟩ => ⟨n, e, hi _ _ _ p⟩) h
theorem tE_mono {K : PySem.W.Frag} {ev : Ev} {σ : L2.St} {H : Hp} {Q Q' : VK} (hq : ∀ v H', Q v H' → Q' v H') (h : tE K fa n0 ev σ H Q) : tE K fa n0 ev σ H Q' := by
  obtain ⟨t, bs, m, σ, μ, u, μ', hb, he, M, ev, k⟩ := h
  exact ⟨t, bs, m, σ, μ, u, μ', hb, he, M, ev, fun m' H' v x M' r => hq _ _ (k m' H' v x M' r)⟩
theorem e_list1 {al : Bool} (hc : X.calm = true) (hg : Gl X "list") (hm : X.mg "list" = none) (hgr : Gl X "range") (hmr : X.mg "range" = none) (ha : PEv X fa cal n0 xa a) (hk : okh xa = true) :
    PEv X fa cal n0 (.Call (.Name "list" p) [.Call (.Name "range" p2) [xa] [] pos2] [] pos) (.col al .list .rng [a]) :=
  (pe_listRg hc hg hm (prg_1 hgr hmr ha (okh_star hk)) (okh_star rfl)).imp fun σV H Q q =>
    tE_mono (fun v H' ⟨n, e, ok, t, bs, m, μ, u, μ', M, ec, k⟩ => ⟨n, e, ok, col_lst M ec k⟩) (rg1_rd (.inl rfl) q)
theorem e_tuple1 {al : Bool} (hc : X.calm = true) (hg : Gl X "tuple") (hm : X.mg "tuple" = none) (hgr : Gl X "range") (hmr : X.mg "range" = none) (ha : PEv X fa cal n0 xa a) (hk : okh xa = true) :
    PEv X fa cal n0 (.Call (.Name "tuple" p) [.Call (.Name "range" p2) [xa] [] pos2] [] pos) (.col al .tuple .rng [a]) :=
  (pe_tupRg hc hg hm (prg_1 hgr hmr ha (okh_star hk)) (okh_star rfl)).imp fun σV H Q q =>
    tE_mono (fun v H' ⟨n, e, ok, t, bs, m, μ, u, μ', M, ec, k⟩ => ⟨n, e, ok, col_tup M ec k⟩) (rg1_rd (.inr rfl) q)
theorem e_list2 {al : Bool} (hc : X.calm = true) (hg : Gl X "list") (hm : X.mg "list" = none) (hgr : Gl X "range") (hmr : X.mg "range" = none) (ha : PEv X fa cal n0 xa a) (hb : PEv X fa cal n0 xb b) (hk : okh xa = true) (hkb : okh xb = true) :
    PEv X fa cal n0 (.Call (.Name "list" p) [.Call (.Name "range" p2) [xa, xb] [] pos2] [] pos) (.col al .list .rng [a, b]) :=
  (pe_listRg hc hg hm (prg_2 hgr hmr ha hb (okh_star hk) (okh_star hkb) (okh_back (es := [xb]) (by simp [hkb]))) (okh_star rfl)).imp fun σV H Q q =>
    tE_mono (fun v H' h => tE_mono (fun w H'' ⟨i, j, e1, e2, ok, t, bs, m, μ, u, μ', M, ec, k⟩ => ⟨i, j, e1, e2, ok, col_lst M ec k⟩) h) (rg2_rd (.inl rfl) q)
theorem e_tuple2 {al : Bool} (hc : X.calm = true) (hg : Gl X "tuple") (hm : X.mg "tuple" = none) (hgr : Gl X "range") (hmr : X.mg "range" = none) (ha : PEv X fa cal n0 xa a) (hb : PEv X fa cal n0 xb b) (hk : okh xa = true) (hkb : okh xb = true) :
    PEv X fa cal n0 (.Call (.Name "tuple" p) [.Call (.Name "range" p2) [xa, xb] [] pos2] [] pos) (.col al .tuple .rng [a, b]) :=
  (pe_tupRg hc hg hm (prg_2 hgr hmr ha hb (okh_star hk) (okh_star hkb) (okh_back (es := [xb]) (by simp [hkb]))) (okh_star rfl)).imp fun σV H Q q =>
    tE_mono (fun v H' h => tE_mono (fun w H'' ⟨i, j, e1, e2, ok, t, bs, m, μ, u, μ', M, ec, k⟩ => ⟨i, j, e1, e2, ok, col_tup M ec k⟩) h) (rg2_rd (.inr rfl) q)
/-! ### list(d.items()) -/
theorem itms_ok {K : PySem.W.Frag} {t m : List Addr} {H' : Hp} {bs : List Nat} {μ : Mu} (M : Me K fa bs t m H' μ) : ∀ {kvs : List (Key × V)} {us : List U} {ts : List Addr}, Paired (fun (t : Addr) (q : Key × V) => H' t = some (.tup [kV q.1, q.2])) ts kvs → RpA K fa t m m.length H' us (kvs.map (·.2)) →
    RpA K fa t m m.length H' (((kvs.map (·.1)).zip us).map fun p => .tup [keyU p.1, p.2]) (ts.map V.ref)
  | [], us, ts, p, r => by
    cases p
    cases r
    exact .nil
  | kv :: kvs, us, ts, p, r => by
    cases p with
    | cons e p =>
      cases r with
      | cons r rr => exact .cons (.tup (M.tupN e) (.cons (keyU_ok _) (.one r))) (itms_ok M p rr)
theorem e_itms {p apos cpos : Pos} (hc : X.calm = true) (hg : Gl X "list") (hm : X.mg "list" = none) (hv : bootBuiltins "list" = some (.type "list")) (ha : PEv X fa cal n0 xa a) (hr : okr xa = true) (hline : (apos.endLine == cpos.line) = true) :
    PEv X fa cal n0 (.Call (.Name "list" p) [.Call (.Attribute xa "items" apos) [] [] cpos] [] pos) (.itms a) :=
  (LiI.pe_listItems hc ha hg hm hv (okr_base hr) hline (okh_star rfl)).imp fun σV H Q q => by
    obtain ⟨t, bs, m, σ, μ, u, μ', hb, he, M, ev, k⟩ := q
    simp only [evalE] at ev
    split at ev
    · rename_i u1 μ1 e1
      split at ev
      · rename_i xs e2
        cases ev
        refine seq1 hb he M e1 fun m1 H1 v1 x1 M1 r1 => ?_
        unfold itmU at e2
        split at e2
        · rename_i ks us e3
          cases e2
          obtain ⟨d, kvs, rfl, hH, rfl, ra⟩ := dk_at M1 r1 e3
          refine ⟨d, kvs, rfl, hH, fun H' p ts kp hp hts hpt hl hpr => ?_⟩
          have ex : Ex m1 H1 m1 H' := Ex.of_keep kp
          have M' := M1.ext kp
          obtain ⟨n1, n2⟩ := M1.fresh hp
          exact k m1 H' _ (x1.trans ex) M' (.lst ⟨hl, n1, n2⟩ (itms_ok M' hpr (ra.ex' ex)))
        · cases e2
      · cases ev
    · cases ev
end
end R

set_option Elab.async false
set_option linter.all false
set_option maxRecDepth 100000
set_option maxHeartbeats 4000000
/-! R3x: sorted(set(..)), len(set(..)) of whole numbers -/
namespace R
open PySem PySem.Spec PyProof.Rows L2

/-! ### in order, each once -/
theorem insI_mem (x y : Int) : ∀ l : List Int, y ∈ insI x l ↔ y = x ∨ y ∈ l
  | [] => by simp [insI]
  | z :: l => by
    simp only [insI]
    split
    · simp
    · split
      · rename_i h; subst h; simp
      · rw [List.mem_cons, insI_mem x y l, List.mem_cons]
        constructor
        · rintro (a | a | a)
          · exact .inr (.inl a)
          · exact .inl a
          · exact .inr (.inr a)
        · rintro (a | a | a)
          · exact .inr (.inl a)
          · exact .inl a
          · exact .inr (.inr a)
theorem insI_lt (x : Int) : ∀ {l : List Int}, l.Pairwise (· < ·) → (insI x l).Pairwise (· < ·)
  | [], _ => by simp [insI]
  | z :: l, h => by
    obtain ⟨h1, h2⟩ := List.pairwise_cons.mp h
    simp only [insI]
    split
    · rename_i hx
      refine List.pairwise_cons.mpr ⟨fun y hy => ?_, h⟩
      rcases List.mem_cons.mp hy with rfl | hy
      · exact hx
      · have := h1 y hy; omega
    · split
      · exact h
      · refine List.pairwise_cons.mpr ⟨fun y hy => ?_, insI_lt x h2⟩
        rcases (insI_mem x y l).mp hy with rfl | hy
        · omega
        · exact h1 y hy
theorem ssrt_lt : ∀ l : List Int, (ssrt l).Pairwise (· < ·)
  | [] => List.Pairwise.nil
  | x :: l => insI_lt x (ssrt_lt l)
theorem ssrt_mem (y : Int) : ∀ l : List Int, y ∈ ssrt l ↔ y ∈ l
  | [] => by simp [ssrt]
  | x :: l => by simp only [ssrt]; rw [insI_mem, ssrt_mem y l, List.mem_cons]
theorem lt_uniq {a b : List Int} (ha : a.Pairwise (· < ·)) (hb : b.Pairwise (· < ·)) (h : ∀ x, x ∈ a ↔ x ∈ b) : a = b := by
  have na : a.Nodup := ha.imp fun h => by omega
  have nb : b.Nodup := hb.imp fun h => by omega
  exact ((List.perm_ext_iff_of_nodup na nb).mpr h).eq_of_pairwise (fun x y _ _ h1 h2 => by omega) ha hb
theorem ssrt_uniq {ns out : List Int} (h : out.Pairwise (· < ·)) (hm : ∀ k, k ∈ out ↔ k ∈ ns) : out = ssrt ns := lt_uniq h (ssrt_lt ns) fun x => by rw [hm, ssrt_mem]
/-! ### over the layer -/
section
variable {X : Cx}
def rSetIs (K : PySem.W.Frag) (w : World) : List V → Hp → VK → Prop := fun vs H Q => ∃ (l : Addr) (ns : List Int), vs = [V.ref l] ∧ (SqL K H l (ns.map V.int) ∨ SqT K H l (ns.map V.int)) ∧ ns.length < 1000 ∧
  ∀ p c, H p = none → c ≤ ns.length → Q (.ref p) (upd H p (SetO w p (fun j => decide (j ∈ ns)) c))
theorem cr_setIs (hc : X.calm = true) : CallR X (.type "set") (rSetIs X.K X.w) := by
  intro pins s σ H xs us Q I r h
  obtain ⟨l, ns, rfl, hq, hn, q⟩ := h
  obtain ⟨u, rfl, ru⟩ := vals1 r
  cases ru
  have fin : ∀ (h' : Heap) (tk c : Nat), SetR X.w h' s.heap.objs.size (fun j => decide (j ∈ ns)) c → c ≤ ns.length → (∀ b o, s.heap.get? b = some o → h'.get? b = some o) → ∃ x H', L2.Inv X pins σ H' { s with heap := h', toks := tk } ∧ RelV x (.ref s.heap.objs.size) ∧ Q x H' := fun h' tk c hS hcn hk =>
    ⟨.ref s.heap.objs.size, _, I.laid (t' := tk) hk (Nat.le_refl _) (setO_new hS), rfl, q _ _ (I.hok.fresh (Nat.le_refl _)) hcn⟩
  rcases hq with hq | hq
  · obtain ⟨its, rv, pl, hz⟩ := I.list hq
    exact call_set_lst ns (I.ok.hd hc) pl.isList (by simpa using intsAre_of rv) (by unfold scanBound; omega) fin
  · obtain ⟨its, rv, ht, hz⟩ := I.tuple hq
    exact call_set_tupI ns (I.ok.hd hc) ht (by simpa using intsAre_of rv) (by unfold scanBound; omega) fin
def rLenSet (w : World) : List V → Hp → VK → Prop := fun vs H Q => ∃ (a : Addr) (S : Int → Bool) (n : Nat), vs = [V.ref a] ∧ H a = some (SetO w a S n) ∧ ∀ ks : List Int, ks.Nodup → (∀ k, k ∈ ks ↔ S k = true) → ks.length = n → Q (.int n) H
theorem cr_lenSet : CallR X (.builtin "len") (rLenSet X.w) := by
  intro pins s σ H vs us Q I r h
  obtain ⟨a, S, n, rfl, ha, q⟩ := h
  obtain ⟨u, rfl, ru⟩ := vals1 r
  cases ru
  obtain ⟨o, es, ep, t, ho, hex, hd, g, nd, hm, hb, hf, hn, hr, hl⟩ := setO_get I ha
  refine call_len_set ho hex hd hf (by unfold scanBound at hb; omega) ⟨.int n, H, (I.tok _), ⟨_, by rw [hn]⟩, q (es.toList.map keyOf) nd (fun k => (hm k).symm) (by rw [List.length_map, Array.length_toList, hn])⟩
end
section
variable {X : Cx} {fa : Nat → Option Addr} {cal : Nat → List U → Mu → Option (U × Mu)} {n0 : Nat}
variable {a b c : E} {xa xb xc : Expr} {p p2 pos pos2 : Pos}
theorem asInts_ok {K : PySem.W.Frag} {t m : List Addr} {n : Nat} {H : Hp} : ∀ {xs : List U} {vs : List V} {ns : List Int}, RpA K fa t m n H xs vs → mapO asInt xs = some ns → vs = ns.map V.int
  | _, _, _, .nil, h => by cases h; rfl
  | _, _, _, .cons r ra, h => by
    obtain ⟨z, zs, e1, e2, rfl⟩ := mapO_cons h
    rw [asInts_ok ra e2]
    cases r <;> simp [asInt] at e1
    subst e1
    rfl
theorem intT_at {K : PySem.W.Frag} {t m : List Addr} {H : Hp} {bs : List Nat} {μ : Mu} {u : U} {v : V} {ns : List Int} (M : Me K fa bs t m H μ) (r : Rp K fa t m m.length H u v) (h : intT μ u = some ns) : ∃ l, v = .ref l ∧ (SqL K H l (ns.map V.int) ∨ SqT K H l (ns.map V.int)) := by
  unfold intT at h
  split at h
  · rename_i xs e
    unfold asS at e
    split at e
    · cases e
      cases r with
      | tup f ra => rw [← asInts_ok ra h]; exact ⟨_, rfl, .inr f.sq⟩
    · obtain ⟨l, vs, rfl, hq, ra⟩ := asL_ok M r e
      rw [← asInts_ok ra h]
      exact ⟨l, rfl, .inl hq⟩
  · cases h
theorem e_sset {al : Bool} (hc : X.calm = true) (hg : Gl X "sorted") (hm : X.mg "sorted" = none) (hg2 : Gl X "set") (hm2 : X.mg "set" = none) (ha : PEv X fa cal n0 xa a) (hk : okh xa = true) :
    PEv X fa cal n0 (.Call (.Name "sorted" p) [.Call (.Name "set" p2) [xa] [] pos2] [] pos) (.sset al a) :=
  (pe_callB (cr_sortedSet hc) hg hm boot_sorted (pa_cons (pe_callTy (cr_setIs hc) hg2 hm2 PyProof.Rows.boot_set (a_cons ha a_nil hk) (by decide) (by decide) (okh_star hk) rfl) pa_nil (okh_star rfl)) (by decide) (by decide) (okh_star rfl) rfl).imp fun σV H Q q => by
    obtain ⟨t, bs, m, σ, μ, u, μ', hb, he, M, ev, k⟩ := q
    simp only [evalE] at ev
    split at ev
    · rename_i u1 μ1 e1
      split at ev
      · rename_i ns e2
        split at ev
        · rename_i hz
          obtain ⟨rfl, rfl⟩ := Prod.mk.inj (Option.some.inj ev)
          refine ⟨t, bs, m, σ, μ, [u1], _, hb, he, M, by simp only [evalL, e1]; rfl, fun m1 H1 vs x1 M1 ra => ?_⟩
          obtain ⟨v, rfl, r1⟩ := rpa1 ra
          obtain ⟨l, rfl, hq⟩ := intT_at M1 r1 e2
          refine ⟨l, ns, rfl, hq, by omega, fun D cc hD hcc => ⟨D, _, cc, rfl, upd_same, by omega, fun out q hlt hmem hlen hq0 => ?_⟩⟩
          have eo : out = ssrt ns := ssrt_uniq hlt fun k => by rw [hmem]; simp
          subst eo
          have ex : Ex m1 H1 m1 (upd H1 D (SetO X.w D (fun j => decide (j ∈ ns)) cc)) := Ex.upd hD
          have ri : RpA X.K fa t m1 m1.length (upd H1 D (SetO X.w D (fun j => decide (j ∈ ns)) cc)) ((ssrt ns).map U.int) ((ssrt ns).map V.int) := by
            generalize ssrt ns = l
            induction l with
            | nil => exact .nil
            | cons x l ih => exact .cons (.int x) ih
          exact (k.ex (x1.trans ex)).lst (M1.upd hD) hq0 ri
        · cases ev
      · cases ev
    · cases ev
theorem e_lset (hc : X.calm = true) (hg : Gl X "len") (hm : X.mg "len" = none) (hg2 : Gl X "set") (hm2 : X.mg "set" = none) (ha : PEv X fa cal n0 xa a) (hk : okh xa = true) :
    PEv X fa cal n0 (.Call (.Name "len" p) [.Call (.Name "set" p2) [xa] [] pos2] [] pos) (.lset a) :=
  (pe_callB cr_lenSet hg hm PySem.boot_len (pa_cons (pe_callTy (cr_setIs hc) hg2 hm2 PyProof.Rows.boot_set (a_cons ha a_nil hk) (by decide) (by decide) (okh_star hk) rfl) pa_nil (okh_star rfl)) (by decide) (by decide) (okh_star rfl) rfl).imp fun σV H Q q => by
    obtain ⟨t, bs, m, σ, μ, u, μ', hb, he, M, ev, k⟩ := q
    simp only [evalE] at ev
    split at ev
    · rename_i u1 μ1 e1
      split at ev
      · rename_i ns e2
        split at ev
        · rename_i hz
          cases ev
          refine ⟨t, bs, m, σ, μ, [u1], _, hb, he, M, by simp only [evalL, e1]; rfl, fun m1 H1 vs x1 M1 ra => ?_⟩
          obtain ⟨v, rfl, r1⟩ := rpa1 ra
          obtain ⟨l, rfl, hq⟩ := intT_at M1 r1 e2
          refine ⟨l, ns, rfl, hq, by omega, fun D cc hD hcc => ⟨D, _, cc, rfl, upd_same, fun ks nd hmem hlen => ?_⟩⟩
          have eo : cc = (ssrt ns).length := by
            rw [← hlen]
            exact ((List.perm_ext_iff_of_nodup nd ((ssrt_lt ns).imp fun h => by omega)).mpr fun k => by rw [hmem, ssrt_mem]; simp).length_eq
          subst eo
          have ex : Ex m1 H1 m1 (upd H1 D (SetO X.w D (fun j => decide (j ∈ ns)) (ssrt ns).length)) := Ex.upd hD
          exact (k.ex (x1.trans ex)).here (M1.upd hD) (.int _)
        · cases ev
      · cases ev
    · cases ev
end
end R

set_option Elab.async false
set_option linter.all false
set_option maxRecDepth 100000
set_option maxHeartbeats 4000000
/-! R4: the checker that an expression of ours is an expression of the program; its soundness -/
namespace R
open PySem PySem.Spec PyProof.Rows L2

/-- what stands at the top -/
structure Gd where
  fa : Nat → Option Addr
  fns : List (Str × Nat)
  nums : List (Str × Int)
  bns : List Str
def opC : Bo → Operator → Bool
  | .add, .Add | .sub, .Sub | .mul, .Mult | .fdiv, .FloorDiv | .mod, .Mod | .pow, .Pow | .shl, .LShift | .shr, .RShift | .band, .BitAnd | .bor, .BitOr | .bxor, .BitXor => true
  | _, _ => false
theorem opC_ok {a : Bo} {b : Operator} (h : opC a b = true) : b = a.op := by cases a <;> cases b <;> first | rfl | cases h
def coC : Co → CmpOp → Bool
  | .eq, .Eq | .ne, .NotEq | .lt, .Lt | .le, .LtE | .gt, .Gt | .ge, .GtE | .isin, .In | .notin, .NotIn | .is_, .Is | .isnot, .IsNot => true
  | _, _ => false
theorem coC_ok {a : Co} {b : CmpOp} (h : coC a b = true) : b = a.op := by cases a <;> cases b <;> first | rfl | cases h
def boC : Bool → BoolOp → Bool
  | true, .And | false, .Or => true
  | _, _ => false
theorem boC_ok {a : Bool} {b : BoolOp} (h : boC a b = true) : b = bop a := by cases a <;> cases b <;> first | rfl | cases h
def isNonE : E → Bool
  | .non => true
  | _ => false
def isYesE : E → Bool
  | .bl true => true
  | _ => false
/-- seen from within -/
def visC (rs : Scope) (x : Str) : Bool := match rs.names.lookup x with
  | some .local => true
  | some .cell => true
  | some .free => true
  | _ => false
def glC (rs : Scope) (x : Str) : Bool := decide (rs.names.lookup x = some .globalImplicit) && !(x == ("__debug__" : Str))
def bnC (G : Gd) (rs : Scope) (x : Str) : Bool := glC rs x && decide (x ∈ G.bns)
def varC (N : List Str) (rs : Scope) (i : Nat) (x : Str) : Bool := decide (N[i]? = some x) && visC rs x && !(x == ("__debug__" : Str)) && !(x == ("__classdict__" : Str))
def asgC (N : List Str) (rs ws : Scope) (i : Nat) (x : Str) : Bool := decide (N[i]? = some x) && (decide (rs.names.lookup x = some .local) || (decide (rs.names.lookup x = some .cell) && decide (ws.names.lookup x = some .cell)))
mutual
def chkP (N : List Str) (rs ws : Scope) : Pt → Expr → Bool
  | .slot i, .Name x _ => asgC N rs ws i x
  | .tup ps, .Tuple xs _ _ => chkPs N rs ws ps xs
  | _, _ => false
def chkPs (N : List Str) (rs ws : Scope) : List Pt → List Expr → Bool
  | [], [] => true
  | p :: ps, x :: xs => chkP N rs ws p x && chkPs N rs ws ps xs
  | _, _ => false
end
def ownOf (N : List Str) (ws : List Nat) : List (Str × Nat) := ws.map fun i => (N[i]?.getD default, i)
theorem ownOf_snd (N : List Str) (ws : List Nat) : (ownOf N ws).map (·.2) = ws := by
  unfold ownOf
  rw [List.map_map]
  show ws.map (fun i => i) = ws
  simp
def blkC (N : List Str) (rs scope : Scope) (ws : List Nat) : Bool :=
  decide (scope.kind = .function) && scope.names.all (fun y => decide (scope.names.lookup y.1 = some y.2)) && (ownOf N ws).all (fun p => decide (N[p.2]? = some p.1)) &&
  scope.names.all (fun y => !decide (y.2 = .free) || decide (rs.names.lookup y.1 = some .cell) || decide (rs.names.lookup y.1 = some .free)) &&
  scope.names.all (fun y => !(decide (y.2 = .local) || decide (y.2 = .cell)) || decide (y.1 ∈ (ownOf N ws).map (·.1)) || decide (y.1 ∉ N))
theorem blkC_ok {N : List Str} {rs scope : Scope} {ws : List Nat} (h : blkC N rs scope ws = true) : BlkOk N rs scope (ownOf N ws) := by
  unfold blkC at h
  simp only [Bool.and_eq_true, decide_eq_true_eq, List.all_eq_true, Bool.or_eq_true, Bool.not_eq_true', decide_eq_false_iff_not, Bool.or_eq_false_iff] at h
  obtain ⟨⟨⟨⟨h1, h2⟩, h3⟩, h4⟩, h5⟩ := h
  refine ⟨h1, h2, h3, fun y hy e => ?_, fun y hy e => ?_⟩
  · rcases h4 y hy with (z | z) | z
    · exact absurd e z
    · exact .inl z
    · exact .inr z
  · rcases h5 y hy with (z | z) | z
    · rcases e with e | e
      · exact absurd e z.1
      · exact absurd e z.2
    · exact .inl z
    · exact .inr z
/-- the arguments of what is walked -/
def argsOf (G : Gd) (rs : Scope) (ik : Ik) (tup : Bool) (iter : Expr) : Option (List Expr) :=
  match ik with
    | .ex => some [iter]
    | .rng => match iter with
      | .Call (.Name f _) [a] [] _ => if (bnC G rs f && decide (f = ("range" : Str))) = true then some [a] else none
      | .Call (.Name f _) [a, b] [] _ => if (bnC G rs f && decide (f = ("range" : Str))) = true then some [a, b] else none
      | _ => none
    | .enm => match iter with
      | .Call (.Name f _) [a] [] _ => if (tup && bnC G rs f && decide (f = ("enumerate" : Str))) = true then some [a] else none
      | _ => none
    | .zip => match iter with
      | .Call (.Name f _) [a, b] [] _ => if (tup && bnC G rs f && decide (f = ("zip" : Str))) = true then some [a, b] else none
      | _ => none
def isTupE : Expr → Bool
  | .Tuple .. => true
  | _ => false
def Cl.nm : Cl → Str
  | .list => "list" | .tuple => "tuple" | .sorted => "sorted" | .dict _ => "dict"
def meC : Mt → Str → Nat → Bool
  | .append, n, k => decide (n = ("append" : Str)) && decide (1 ≤ k) && decide (k < 20)
  | .pop0, n, k => decide (n = ("pop" : Str)) && decide (k = 0)
  | .pop1, n, k => decide (n = ("pop" : Str)) && decide (1 ≤ k) && decide (k < 20)
  | .get2, n, k => decide (n = ("get" : Str)) && decide (1 ≤ k) && decide (k < 20)
  | _, _, _ => false

variable (G : Gd) (N : List Str)
mutual
def chkE (rs ws : Scope) : E → Expr → Bool
  | .var i, x => match x with
    | .Name x _ => varC N rs i x
    | _ => false
  | .non, x => match x with
    | .Constant .none _ _ => true
    | _ => false
  | .bl b, x => match x with
    | .Constant (.bool c) _ _ => decide (b = c)
    | _ => false
  | .int i, x => match x with
    | .Constant (.int j) _ _ => decide (i = j)
    | _ => false
  | .str z, x => match x with
    | .Constant (.str y) _ _ => decide (z = y)
    | _ => false
  | .gint i, x => match x with
    | .Name x _ => glC rs x && decide (G.nums.lookup x = some i)
    | _ => false
  | .fnv f, x => match x with
    | .Name x _ => glC rs x && decide (G.fns.lookup x = some f)
    | _ => false
  | .tup es, x => match x with
    | .Tuple xs _ _ => chkL rs ws es xs
    | _ => false
  | .lst _ es, x => match x with
    | .List xs _ => chkL rs ws es xs
    | _ => false
  | .dct _ tk es, x => match x with
    | .Dict keys vals _ => match flatE keys vals with
      | some r => chkL rs ws es r && decide (keys.length ≤ 15) && (keys.isEmpty || !tk)
      | none => false
    | _ => false
  | .bin _ op a b, x => match x with
    | .BinOp xa o xb _ => opC op o && chkE rs ws a xa && chkE rs ws b xb
    | _ => false
  | .neg a, x => match x with
    | .UnaryOp .USub xa _ => chkE rs ws a xa
    | _ => false
  | .cmp op a b, x => match x with
    | .Compare xa [o] [xb] _ => coC op o && chkE rs ws a xa && chkE rs ws b xb
    | _ => false
  | .chain op op' a b c, x => match x with
    | .Compare xa [o, o'] [xb, xc] _ => coC op o && coC op' o' && chkE rs ws a xa && chkE rs ws b xb && chkE rs ws c xc
    | _ => false
  | .bool and es, x => match x with
    | .BoolOp o xs _ => boC and o && !xs.isEmpty && chkL rs ws es xs
    | _ => false
  | .not a, x => match x with
    | .UnaryOp .Not xa _ => chkE rs ws a xa
    | _ => false
  | .ite c a b, x => match x with
    | .IfExp xc xa xb _ => chkE rs ws c xc && chkE rs ws a xa && chkE rs ws b xb
    | _ => false
  | .idx a i, x => match x with
    | .Subscript xa xi _ => chkE rs ws a xa && chkE rs ws i xi
    | _ => false
  | .slc _ a lo hi, x => match x with
    | .Subscript xa (.Slice xlo xhi none _) _ => chkE rs ws a xa && (match xlo with
      | some y => chkE rs ws lo y
      | none => isNonE lo) && (match xhi with
      | some y => chkE rs ws hi y
      | none => isNonE hi)
    | _ => false
  | .rev _ a, x => match x with
    | .Subscript xa (.Slice none none (some (.UnaryOp .USub (.Constant (.int j) _ _) _)) _) _ => decide (j = 1) && chkE rs ws a xa
    | _ => false
  | .comp _ p ik its c e vs, x => match x with
    | .ListComp elt [⟨tg, iter, ifs, z⟩] scope _ => decide (z = 0) && blkC N rs scope vs && (ptSlots p).all (fun i => decide (i ∈ vs)) && okh iter && chkP N (relS scope rs) scope p tg &&
      (match argsOf G rs ik (isTupE tg) iter with
        | some xs => chkL rs ws its xs
        | none => false) && (match ifs with
        | [] => isYesE c
        | [f] => chkE (relS scope rs) scope c f
        | _ => false) && chkE (relS scope rs) scope e elt
    | _ => false
  | .col _ c ik its, x => match x with
    | .Call (.Name f _) [arg] [] _ => bnC G rs f && decide (f = c.nm) && (match ik with
      | .ex => chkL rs ws its [arg]
      | .rng => (decide (c = .list) || decide (c = .tuple)) && okh arg && (match argsOf G rs .rng false arg with
        | some xs => chkL rs ws its xs
        | none => false)
      | _ => false)
    | _ => false
  | .call f es, x => match x with
    | .Call (.Name g _) xs [] _ => glC rs g && decide (G.fns.lookup g = some f) && chkL rs ws es xs
    | _ => false
  | .bi b es, x => match x with
    | .Call (.Name f _) xs [] _ => bnC G rs f && decide (f = b.nm) && !xs.isEmpty && chkL rs ws es xs
    | _ => false
  | .isi e t, x => match x with
    | .Call (.Name f _) [xa, .Name y _] [] _ => bnC G rs f && decide (f = ("isinstance" : Str)) && bnC G rs y && decide (y = t.st) && chkE rs ws e xa
    | _ => false
  | .itms a, x => match x with
    | .Call (.Name f _) [.Call (.Attribute xa nm apos) [] [] cpos] [] _ => bnC G rs f && decide (f = ("list" : Str)) && decide (nm = ("items" : Str)) && okr xa && (apos.endLine == cpos.line) && chkE rs ws a xa
    | _ => false
  | .sset _ a, x => match x with
    | .Call (.Name f _) [.Call (.Name g _) [xa] [] _] [] _ => bnC G rs f && decide (f = ("sorted" : Str)) && bnC G rs g && decide (g = ("set" : Str)) && chkE rs ws a xa
    | _ => false
  | .lset a, x => match x with
    | .Call (.Name f _) [.Call (.Name g _) [xa] [] _] [] _ => bnC G rs f && decide (f = ("len" : Str)) && bnC G rs g && decide (g = ("set" : Str)) && chkE rs ws a xa
    | _ => false
  | .me _ m a es, x => match x with
    | .Call (.Attribute xa nm apos) xs [] pos => okr xa && (apos.endLine == pos.line) && meC m nm xs.length && chkE rs ws a xa && chkL rs ws es xs
    | _ => false
def chkL (rs ws : Scope) : List E → List Expr → Bool
  | [], xs => xs.isEmpty
  | e :: es, xs => match xs with
    | x :: xs => chkE rs ws e x && chkL rs ws es xs
    | [] => false
end
end R

set_option Elab.async false
set_option linter.all false
set_option maxRecDepth 100000
set_option maxHeartbeats 4000000
/-! R4b: the checker is sound for expressions -/
namespace R
open PySem PySem.Spec PyProof.Rows L2

/-- a def's promise -/
def spU (K : PySem.W.Frag) (fa : Nat → Option Addr) (cal : Nat → List U → Mu → Option (U × Mu)) (i : Nat) : Sp := fun vs H Q _ => ∃ t bs m μ us u μ', Me K fa bs t m H μ ∧ RpA K fa t m m.length H us vs ∧ cal i us μ = some (u, μ') ∧ Kn K fa bs t m H u μ' Q
/-- the context in which the checker is sound -/
structure Ok (G : Gd) (cal : Nat → List U → Mu → Option (U × Mu)) (k : Nat) (N : List Str) (rs ws : Scope) (X : Cx) : Prop where
  calm : X.calm = true
  nm : X.N = N
  nd : N.Nodup
  sc : X.env.scope = rs
  fn : ∀ x, ws.names.lookup x = some .cell → X.fn x = true
  room : Room k X.A
  own : PassesOwn (model X.prog X.w) X.A X.env X.xe
  nums : ∀ x i, G.nums.lookup x = some i → ∃ t, X.mg x = some (.int i t)
  bns : ∀ x, x ∈ G.bns → X.mg x = none
  calls : ∀ x i, G.fns.lookup x = some i → ∃ f fd ps, X.mg x = some (.ref f) ∧ G.fa i = some f ∧ PySem.W.keepIn X.K (.ref f) = true ∧ Binds X.K fd ps [] ∧ FnOk X.prog X.w X.K X.mg X.base C8.CX0 k f fd ps (spU X.K G.fa cal i)

section
variable {G : Gd} {cal : Nat → List U → Mu → Option (U × Mu)} {k n0 : Nat} {N : List Str} {rs ws : Scope} {X : Cx}
theorem Ok.blk (h : Ok G cal k N rs ws X) (s : Shared) (H : Hp) (scope : Scope) (C : Addr) (cl : List (Str × Addr)) (fp : List Addr) : Ok G cal k N (relS scope rs) scope (X.blk s H scope (compEnvC scope cl C X.env) fp) where
  calm := h.calm
  nm := h.nm
  nd := h.nd
  sc := by rw [← h.sc]; rfl
  fn := fun x e => by
    show (scope.names.lookup x == some NameKind.cell) = true
    rw [e]; rfl
  room := h.room
  own := PassesOwn.never
  nums := h.nums
  bns := h.bns
  calls := h.calls
theorem Ok.hu (h : Ok G cal k N rs ws X) : X.A.units + 66 < cLine := room_eq h.room
theorem glC_ok (h : Ok G cal k N rs ws X) {x : Str} (c : glC rs x = true) : Gl X x ∧ (x == ("__debug__" : Str)) = false := by
  unfold glC at c
  simp only [Bool.and_eq_true, decide_eq_true_eq, Bool.not_eq_true'] at c
  refine ⟨?_, c.2⟩
  unfold Gl PySem.Env.kindOf
  rw [h.sc]
  exact c.1
theorem bnC_ok (h : Ok G cal k N rs ws X) {x : Str} (c : bnC G rs x = true) : Gl X x ∧ X.mg x = none := by
  unfold bnC at c
  simp only [Bool.and_eq_true, decide_eq_true_eq] at c
  exact ⟨(glC_ok h c.1).1, h.bns x c.2⟩
theorem varC_ok (h : Ok G cal k N rs ws X) {i : Nat} {x : Str} (c : varC N rs i x = true) : X.N[i]? = some x ∧ Vis X.env.scope x ∧ (x == ("__debug__" : Str)) = false ∧ (x == ("__classdict__" : Str)) = false := by
  unfold varC at c
  simp only [Bool.and_eq_true, decide_eq_true_eq, Bool.not_eq_true'] at c
  obtain ⟨⟨⟨c1, c2⟩, c3⟩, c4⟩ := c
  refine ⟨by rw [h.nm]; exact c1, ?_, c3, c4⟩
  unfold Vis
  rw [h.sc]
  unfold visC at c2
  split at c2
  · rename_i e; exact .inl e
  · rename_i e; exact .inr (.inl e)
  · rename_i e; exact .inr (.inr e)
  · cases c2
theorem asgC_ok (h : Ok G cal k N rs ws X) {i : Nat} {x : Str} (c : asgC N rs ws i x = true) : X.N[i]? = some x ∧ Loc X.env.scope x ∧ (X.fn x = true ∨ X.env.scope.names.lookup x = some .local) := by
  unfold asgC at c
  simp only [Bool.and_eq_true, decide_eq_true_eq, Bool.or_eq_true] at c
  refine ⟨by rw [h.nm]; exact c.1, ?_⟩
  unfold L2.Loc
  rw [h.sc]
  rcases c.2 with e | ⟨e, e2⟩
  · exact ⟨.inl e, .inr e⟩
  · exact ⟨.inr e, .inl (h.fn x e2)⟩
mutual
theorem okP (h : Ok G cal k N rs ws X) : ∀ (p : Pt) (x : Expr), chkP N rs ws p x = true → PG X x (tGp X.K G.fa p) ∧ okt x = true
  | .slot i, x, c => by
    cases x with
    | Name x pos =>
      simp only [chkP] at c
      obtain ⟨c1, c2, c3⟩ := asgC_ok h c
      exact ⟨g_slot (by rw [h.nm]; exact h.nd) c1 c2 c3, rfl⟩
    | _ => simp [chkP] at c
  | .tup ps, x, c => by
    cases x with
    | Tuple xs j pos =>
      simp only [chkP] at c
      obtain ⟨c1, c2, c3⟩ := okPs h ps xs c
      exact ⟨g_tup h.calm c1 c2 c3, rfl⟩
    | _ => simp [chkP] at c
theorem okPs (h : Ok G cal k N rs ws X) : ∀ (ps : List Pt) (xs : List Expr), chkPs N rs ws ps xs = true → PGs X xs (tGs X.K G.fa ps) ∧ xs.all okt = true ∧ xs.length = ps.length
  | [], xs, c => by
    cases xs with
    | nil => exact ⟨gs_nil, rfl, rfl⟩
    | cons => simp [chkPs] at c
  | p :: ps, xs, c => by
    cases xs with
    | nil => simp [chkPs] at c
    | cons x xs =>
      simp only [chkPs, Bool.and_eq_true] at c
      obtain ⟨a1, a2⟩ := okP h p x c.1
      obtain ⟨b1, b2, b3⟩ := okPs h ps xs c.2
      exact ⟨gs_cons a1 b1 a2, by simp [a2, b2], by simp [b3]⟩
end
theorem e_call {f : Nat} {es : List E} {g : Str} {xs : List Expr} {p pos : Pos} (h : Ok G cal k N rs ws X) (hg : Gl X g) (hd : (g == ("__debug__" : Str)) = false) (hf : G.fns.lookup g = some f) (ha : PAv X G.fa cal n0 xs es) (hk : xs.all okh = true) (hl : xs.length = es.length) :
    PEv X G.fa cal n0 (.Call (.Name g p) xs [] pos) (.call f es) := by
  obtain ⟨ad, fd, ps, h1, h2, h3, h4, F⟩ := h.calls g f hf
  have rd : ∀ {σV : L2.St} {H : Hp} {Q : VK}, tE X.K G.fa n0 (evalE cal n0 (.call f es)) σV H Q → tL X.K G.fa n0 (evalL cal n0 es) σV H fun vs H1 => spU X.K G.fa cal f (vs ++ []) H1 Q C8.E0 := by
    intro σV H Q q
    obtain ⟨t, bs, m, σ, μ, u, μ', hb, he, M, ev, kk⟩ := q
    simp only [evalE] at ev
    split at ev
    · rename_i us μ1 e1
      exact ⟨t, bs, m, σ, μ, us, μ1, hb, he, M, e1, fun m1 H1 vs x1 M1 ra => ⟨t, bs, m1, μ1, us, u, μ', M1, by rw [List.append_nil]; exact ra, ev, kk.ex x1⟩⟩
    · cases ev
  cases xs with
  | nil =>
    refine (pe_call0 F h.room hg h1 h3 h4 (dvs := []) .nil (E := C8.E0) C8.pass0 hd).imp fun σV H Q q => ?_
    have := rd q
    obtain ⟨t, bs, m, σ, μ, us, μ1, hb, he, M, e1, kk⟩ := this
    have : es = [] := by
      cases es with
      | nil => rfl
      | cons => simp at hl
    subst this
    simp only [evalL] at e1
    cases e1
    exact kk m H [] (Ex.refl _ _) M .nil
  | cons x xs =>
    simp only [List.all_cons, Bool.and_eq_true] at hk
    exact (pe_call F h.room hg h1 h3 h4 (dvs := []) .nil (E := C8.E0) C8.pass0 ha hd (okh_star hk.1) (okh_back hk.2)).imp fun σV H Q q => rd q

/-! ### the checker -/
def Both (X : Cx) (fa : Nat → Option Addr) (cal : Nat → List U → Mu → Option (U × Mu)) (n0 : Nat) (x : Expr) (e : E) : Prop := PEv X fa cal n0 x e ∧ PTv X fa cal n0 x e ∧ okh x = true
inductive AllE (X : Cx) (fa : Nat → Option Addr) (cal : Nat → List U → Mu → Option (U × Mu)) (n0 : Nat) : List Expr → List E → Prop
  | nil : AllE X fa cal n0 [] []
  | cons {x : Expr} {e : E} {xs : List Expr} {es : List E} : Both X fa cal n0 x e → AllE X fa cal n0 xs es → AllE X fa cal n0 (x :: xs) (e :: es)
variable {fa : Nat → Option Addr}
theorem AllE.pa : ∀ {xs : List Expr} {es : List E}, AllE X fa cal n0 xs es → PAv X fa cal n0 xs es
  | _, _, .nil => a_nil
  | _, _, .cons h r => a_cons h.1 r.pa h.2.2
theorem AllE.okh : ∀ {xs : List Expr} {es : List E}, AllE X fa cal n0 xs es → xs.all R.okh = true
  | _, _, .nil => rfl
  | _, _, .cons h r => by simp [h.2.2, r.okh]
theorem AllE.len : ∀ {xs : List Expr} {es : List E}, AllE X fa cal n0 xs es → xs.length = es.length
  | _, _, .nil => rfl
  | _, _, .cons h r => by simp [r.len]
theorem AllE.at_ : ∀ {xs : List Expr} {es : List E}, AllE X fa cal n0 xs es → ∀ (i : Nat) x e, xs[i]? = some x → es[i]? = some e → PEv X fa cal n0 x e
  | _, _, .nil, i, x, e, h, _ => by simp at h
  | _, _, .cons h r, 0, x, e, h1, h2 => by simp at h1 h2; subst h1 h2; exact h.1
  | _, _, .cons h r, i + 1, x, e, h1, h2 => r.at_ i x e (by simpa using h1) (by simpa using h2)
theorem AllE.bool {and : Bool} {pos : Pos} : ∀ {xs : List Expr} {es : List E}, AllE X fa cal n0 xs es → xs ≠ [] → PBv X fa cal n0 (.BoolOp (bop and) xs pos) and es ∧ PBw X fa cal n0 (.BoolOp (bop and) xs pos) and es
  | _, _, .nil, h => absurd rfl h
  | _, _, .cons h .nil, _ => ⟨b_one h.1, w_one h.2.1⟩
  | _, _, .cons h (.cons h2 r), _ => let ⟨a, b⟩ := AllE.bool (.cons h2 r) (by simp); ⟨b_cons h.1 a, w_cons h.2.1 b⟩
/-- what is walked -/
theorem i_of {ik : Ik} {its : List E} {iter tg : Expr} {xs : List Expr} (h : Ok G cal k N rs ws X) (e : argsOf G rs ik (isTupE tg) iter = some xs) (ha : AllE X G.fa cal n0 xs its) : PIv X G.fa cal n0 tg iter ik its := by
  unfold argsOf at e
  split at e
  · cases e
    match its, ha with
    | [_], .cons h1 .nil => exact i_ex h1.1
  · split at e
    · split at e
      · rename_i c
        simp only [Bool.and_eq_true, decide_eq_true_eq] at c
        obtain ⟨c1, rfl⟩ := c
        cases e
        match its, ha with
        | [_], .cons h1 .nil => exact i_rng1 (bnC_ok h c1).1 (bnC_ok h c1).2 h1.1 h1.2.2
      · cases e
    · split at e
      · rename_i c
        simp only [Bool.and_eq_true, decide_eq_true_eq] at c
        obtain ⟨c1, rfl⟩ := c
        cases e
        match its, ha with
        | [_, _], .cons h1 (.cons h2 .nil) => exact i_rng2 (bnC_ok h c1).1 (bnC_ok h c1).2 h1.1 h2.1 h1.2.2 h2.2.2
      · cases e
    · cases e
  · split at e
    · split at e
      · rename_i c
        simp only [Bool.and_eq_true, decide_eq_true_eq] at c
        obtain ⟨⟨c0, c1⟩, rfl⟩ := c
        cases e
        cases tg with
        | Tuple ts j p =>
          match its, ha with
          | [_], .cons h1 .nil => exact i_enm (bnC_ok h c1).1 (bnC_ok h c1).2 h1.1 h1.2.2
        | _ => simp [isTupE] at c0
      · cases e
    · cases e
  · split at e
    · split at e
      · rename_i c
        simp only [Bool.and_eq_true, decide_eq_true_eq] at c
        obtain ⟨⟨c0, c1⟩, rfl⟩ := c
        cases e
        cases tg with
        | Tuple ts j p =>
          match its, ha with
          | [_, _], .cons h1 (.cons h2 .nil) => exact i_zip (bnC_ok h c1).1 (bnC_ok h c1).2 h1.1 h2.1 h1.2.2 h2.2.2
        | _ => simp [isTupE] at c0
      · cases e
    · cases e
theorem both_plain {x : Expr} {e : E} (h : PEv X fa cal n0 x e) (hk : R.okh x = true) (he : ∀ whole, PySem.isTrue x X.env whole = (do let v ← whole; standAt x.pos; holding [v] (truthy v))) : Both X fa cal n0 x e := ⟨h, t_of_e h he, hk⟩

/-- a list comprehension, seen -/
structure LcOk (G : Gd) (cal : Nat → List U → Mu → Option (U × Mu)) (n0 : Nat) (X : Cx) (elt tg iter : Expr) (ifs : List Expr) (scope : Scope) (p : Pt) (ik : Ik) (its : List E) (c e : E) (vs : List Nat) : Prop where
  hi : PIv X G.fa cal n0 tg iter ik its
  ok : BlkOk X.N X.env.scope scope (ownOf X.N vs)
  hg : ∀ (s : Shared) (H : Hp) (C : Addr) (cl : List (Str × Addr)) (fp : List Addr), PG (X.blk s H scope (compEnvC scope cl C X.env) fp) tg (tGp X.K G.fa p)
  ht : ∀ (s : Shared) (H : Hp) (C : Addr) (cl : List (Str × Addr)) (fp : List Addr), PTs (X.blk s H scope (compEnvC scope cl C X.env) fp) ifs (tT X.K G.fa n0 (evalE cal n0 c))
  he : ∀ (s : Shared) (H : Hp) (C : Addr) (cl : List (Str × Addr)) (fp : List Addr), PE (X.blk s H scope (compEnvC scope cl C X.env) fp) elt (tE X.K G.fa n0 (evalE cal n0 e))
  hk : okh iter = true
  hws : ∀ i ∈ ptSlots p, i ∈ vs
theorem LcOk.pe {elt tg iter : Expr} {ifs : List Expr} {scope : Scope} {p : Pt} {ik : Ik} {its : List E} {c e : E} {vs : List Nat} {al : Bool} {pos : Pos} (h : Ok G cal k N rs ws X) (q : LcOk G cal n0 X elt tg iter ifs scope p ik its c e vs) :
    PEv X G.fa cal n0 (.ListComp elt [⟨tg, iter, ifs, 0⟩] scope pos) (.comp al p ik its c e vs) := by
  have := e_comp (al := al) (pos := pos) h.calm (by rw [h.nm]; exact h.nd) q.hi q.ok q.hg q.ht q.he q.hk (by rw [ownOf_snd]; exact q.hws)
  rw [ownOf_snd] at this
  exact this
theorem isYesE_ok {c : E} (h : isYesE c = true) : c = .bl true := by
  cases c with
  | bl b => cases b <;> first | rfl | cases h
  | _ => cases h
theorem isNonE_ok {c : E} (h : isNonE c = true) : c = .non := by
  cases c <;> first | rfl | cases h
theorem isTrue_plainH {x : Expr} {env : PySem.Env} {whole : Sem Value} (h : match x with
    | .UnaryOp .Not _ _ => False
    | .BoolOp .. => False
    | .IfExp .. => False
    | .Compare .. => False
    | _ => True) : PySem.isTrue x env whole = (do let v ← whole; standAt x.pos; holding [v] (truthy v)) := by
  cases x with
  | UnaryOp op a p => cases op <;> first | rfl | exact h.elim
  | BoolOp => exact h.elim
  | IfExp => exact h.elim
  | Compare => exact h.elim
  | _ => rfl
mutual
theorem okE : ∀ (e : E) {rs ws : Scope} {X : Cx} (x : Expr), Ok G cal k N rs ws X → chkE G N rs ws e x = true → Both X G.fa cal n0 x e
  | .var i, rs, ws, X, x, h, c => by
    cases x with
    | Name y pos =>
      simp only [chkE] at c
      obtain ⟨c1, c2, c3, c4⟩ := varC_ok h c
      exact both_plain (e_var c1 c2 c3 c4) rfl fun _ => rfl
    | _ => simp [chkE] at c
  | .non, rs, ws, X, x, h, c => by
    simp only [chkE] at c
    split at c
    · exact both_plain e_non rfl fun _ => rfl
    · cases c
  | .bl b, rs, ws, X, x, h, c => by
    simp only [chkE] at c
    split at c
    · have := of_decide_eq_true c
      subst this
      exact both_plain e_bl rfl fun _ => rfl
    · cases c
  | .int i, rs, ws, X, x, h, c => by
    simp only [chkE] at c
    split at c
    · have := of_decide_eq_true c
      subst this
      exact both_plain e_int rfl fun _ => rfl
    · cases c
  | .str z, rs, ws, X, x, h, c => by
    simp only [chkE] at c
    split at c
    · have := of_decide_eq_true c
      subst this
      exact both_plain e_str rfl fun _ => rfl
    · cases c
  | .gint i, rs, ws, X, x, h, c => by
    simp only [chkE] at c
    split at c
    · simp only [Bool.and_eq_true, decide_eq_true_eq] at c
      obtain ⟨g, d⟩ := glC_ok h c.1
      exact both_plain (e_gint g (h.nums _ _ c.2) d) rfl fun _ => rfl
    · cases c
  | .fnv f, rs, ws, X, x, h, c => by
    simp only [chkE] at c
    split at c
    · simp only [Bool.and_eq_true, decide_eq_true_eq] at c
      obtain ⟨g, d⟩ := glC_ok h c.1
      obtain ⟨ad, fd, ps, h1, h2, _⟩ := h.calls _ _ c.2
      exact both_plain (e_fnv g h1 h2 d) rfl fun _ => rfl
    · cases c
  | .tup es, rs, ws, X, x, h, c => by
    simp only [chkE] at c
    split at c
    · exact both_plain (e_tup (okL es _ h c).pa) rfl fun _ => rfl
    · cases c
  | .lst al es, rs, ws, X, x, h, c => by
    simp only [chkE] at c
    split at c
    · exact both_plain (e_lst (okL es _ h c).pa) rfl fun _ => rfl
    · cases c
  | .dct al tk es, rs, ws, X, x, h, c => by
    simp only [chkE] at c
    split at c
    · rename_i keys vals pos
      split at c
      · rename_i r e
        simp only [Bool.and_eq_true, decide_eq_true_eq, Bool.or_eq_true, Bool.not_eq_true'] at c
        obtain ⟨⟨c1, c2⟩, c3⟩ := c
        have A := okL es _ h c1
        cases keys with
        | nil =>
          cases vals with
          | nil =>
            cases e
            cases A
            exact both_plain e_dnew rfl fun _ => rfl
          | cons => simp [flatE] at e
        | cons k1 ks =>
          rcases c3 with c3 | c3
          · simp at c3
          · subst c3
            exact both_plain (e_dct e A.at_ A.len (by simp) c2) rfl fun _ => rfl
      · cases c
    · cases c
  | .bin al op a b, rs, ws, X, x, h, c => by
    simp only [chkE] at c
    split at c
    · simp only [Bool.and_eq_true] at c
      have e := opC_ok c.1.1
      subst e
      exact both_plain (e_bin (okE a _ h c.1.2).1 (okE b _ h c.2).1) rfl fun _ => rfl
    · cases c
  | .neg a, rs, ws, X, x, h, c => by
    simp only [chkE] at c
    split at c
    · exact both_plain (e_neg (okE a _ h c).1) rfl fun _ => rfl
    · cases c
  | .cmp op a b, rs, ws, X, x, h, c => by
    simp only [chkE] at c
    split at c
    · simp only [Bool.and_eq_true] at c
      have e := coC_ok c.1.1
      subst e
      have A := okE a _ h c.1.2
      have B := okE b _ h c.2
      exact ⟨e_cmp h.hu A.1 B.1 B.2.2, t_cmp h.hu A.1 B.1 B.2.2, rfl⟩
    · cases c
  | .chain op op' a b c', rs, ws, X, x, h, c => by
    simp only [chkE] at c
    split at c
    · simp only [Bool.and_eq_true] at c
      obtain ⟨⟨⟨⟨c1, c2⟩, c3⟩, c4⟩, c5⟩ := c
      have e := coC_ok c1
      subst e
      have e := coC_ok c2
      subst e
      have A := okE a _ h c3
      have B := okE b _ h c4
      have C := okE c' _ h c5
      exact ⟨e_chain h.hu A.1 B.1 C.1 C.2.2, t_chain h.hu A.1 B.1 C.1 C.2.2, rfl⟩
    · cases c
  | .bool and es, rs, ws, X, x, h, c => by
    simp only [chkE] at c
    split at c
    · rename_i o xs pos
      simp only [Bool.and_eq_true, Bool.not_eq_true'] at c
      have e := boC_ok c.1.1
      subst e
      have A := okL es _ h c.2
      obtain ⟨p, q⟩ := A.bool (pos := pos) (and := and) (by intro z; subst z; simp at c)
      exact ⟨e_bool p, t_bool q, rfl⟩
    · cases c
  | .not a, rs, ws, X, x, h, c => by
    simp only [chkE] at c
    split at c
    · have A := okE a _ h c
      exact ⟨e_not A.1, t_not A.2.1, rfl⟩
    · cases c
  | .ite c' a b, rs, ws, X, x, h, c => by
    simp only [chkE] at c
    split at c
    · simp only [Bool.and_eq_true] at c
      have C := okE c' _ h c.1.1
      have A := okE a _ h c.1.2
      have B := okE b _ h c.2
      exact ⟨e_ite C.2.1 A.1 B.1, t_ite C.2.1 A.2.1 B.2.1, rfl⟩
    · cases c
  | .idx a i, rs, ws, X, x, h, c => by
    simp only [chkE] at c
    split at c
    · simp only [Bool.and_eq_true] at c
      have A := okE a _ h c.1
      have B := okE i _ h c.2
      exact both_plain (e_idx h.hu A.1 B.1 B.2.2) rfl fun _ => rfl
    · cases c
  | .slc al a lo hi, rs, ws, X, x, h, c => by
    simp only [chkE] at c
    split at c
    · simp only [Bool.and_eq_true] at c
      obtain ⟨⟨c1, c2⟩, c3⟩ := c
      have A := okE a _ h c1
      refine both_plain (e_slc A.1 ?_ ?_) rfl fun _ => rfl
      · split at c2
        · exact pov_some (okE lo _ h c2).1
        · rw [isNonE_ok c2]; exact pov_none
      · split at c3
        · exact pov_some (okE hi _ h c3).1
        · rw [isNonE_ok c3]; exact pov_none
    · cases c
  | .rev al a, rs, ws, X, x, h, c => by
    simp only [chkE] at c
    split at c
    · simp only [Bool.and_eq_true, decide_eq_true_eq] at c
      obtain ⟨rfl, c2⟩ := c
      exact both_plain (e_revL (okE a _ h c2).1) rfl fun _ => rfl
    · cases c
  | .comp al p ik its c' e vs, rs, ws, X, x, h, c => by
    simp only [chkE] at c
    split at c
    · rename_i elt tg iter ifs z scope pos
      simp only [Bool.and_eq_true, decide_eq_true_eq, List.all_eq_true] at c
      obtain ⟨⟨⟨⟨⟨⟨⟨rfl, c2⟩, c3⟩, c4⟩, c5⟩, c6⟩, c7⟩, c8⟩ := c
      have q : LcOk G cal n0 X elt tg iter ifs scope p ik its c' e vs := by
        refine ⟨?_, ?_, fun s H C cl fp => ?_, fun s H C cl fp => ?_, fun s H C cl fp => ?_, c4, c3⟩
        · split at c6
          · rename_i xs e1
            exact i_of h e1 (okL its _ h c6)
          · cases c6
        · rw [h.nm, h.sc]; exact blkC_ok c2
        · exact (okP (h.blk s H scope C cl fp) p tg c5).1
        · split at c7
          · rw [isYesE_ok c7]; exact pts_yes
          · exact pts_one (okE c' _ (h.blk s H scope C cl fp) c7).2.1
          · cases c7
        · exact (okE e _ (h.blk s H scope C cl fp) c8).1
      exact both_plain (q.pe h) rfl fun _ => rfl
    · cases c
  | .col al cl ik its, rs, ws, X, x, h, c => by
    simp only [chkE] at c
    split at c
    · rename_i f p1 arg pos
      simp only [Bool.and_eq_true, decide_eq_true_eq] at c
      obtain ⟨⟨c1, rfl⟩, c3⟩ := c
      obtain ⟨g, m⟩ := bnC_ok h c1
      refine both_plain ?_ rfl fun _ => rfl
      split at c3
      · have A := okL its _ h c3
        match its, A with
        | [_], .cons h1 .nil =>
          match cl, g, m, c3 with
          | .list, g, m, _ => exact e_list h.calm g m h1.1 h1.2.2
          | .tuple, g, m, _ => exact e_tuple g m h1.1 h1.2.2
          | .sorted, g, m, _ => exact e_sorted h.calm h.hu g m h1.1 h1.2.2
          | .dict false, g, m, _ => exact e_dict h.calm g m h1.1 h1.2.2
          | .dict true, g, m, _ => exact e_dictT h.calm h.hu g m h1.1 h1.2.2
      · simp only [Bool.and_eq_true, Bool.or_eq_true, decide_eq_true_eq] at c3
        obtain ⟨⟨c4, c5⟩, c6⟩ := c3
        split at c6
        · rename_i xs e1
          have A := okL its _ h c6
          unfold argsOf at e1
          simp only at e1
          split at e1
          · split at e1
            · rename_i cc
              simp only [Bool.and_eq_true, decide_eq_true_eq] at cc
              obtain ⟨cc1, rfl⟩ := cc
              obtain ⟨gr, mr⟩ := bnC_ok h cc1
              cases e1
              match its, A with
              | [_], .cons h1 .nil =>
                rcases c4 with rfl | rfl
                · exact e_list1 h.calm g m gr mr h1.1 h1.2.2
                · exact e_tuple1 h.calm g m gr mr h1.1 h1.2.2
            · cases e1
          · split at e1
            · rename_i cc
              simp only [Bool.and_eq_true, decide_eq_true_eq] at cc
              obtain ⟨cc1, rfl⟩ := cc
              obtain ⟨gr, mr⟩ := bnC_ok h cc1
              cases e1
              match its, A with
              | [_, _], .cons h1 (.cons h2 .nil) =>
                rcases c4 with rfl | rfl
                · exact e_list2 h.calm g m gr mr h1.1 h2.1 h1.2.2 h2.2.2
                · exact e_tuple2 h.calm g m gr mr h1.1 h2.1 h1.2.2 h2.2.2
            · cases e1
          · cases e1
        · cases c6
      · cases c3
    · cases c
  | .call f es, rs, ws, X, x, h, c => by
    simp only [chkE] at c
    split at c
    · simp only [Bool.and_eq_true, decide_eq_true_eq] at c
      obtain ⟨g, d⟩ := glC_ok h c.1.1
      have A := okL es _ h c.2
      exact both_plain (e_call h g d c.1.2 A.pa A.okh A.len) rfl fun _ => rfl
    · cases c
  | .bi b es, rs, ws, X, x, h, c => by
    simp only [chkE] at c
    split at c
    · rename_i f p1 xs pos
      simp only [Bool.and_eq_true, decide_eq_true_eq, Bool.not_eq_true'] at c
      obtain ⟨⟨⟨c1, rfl⟩, c3⟩, c4⟩ := c
      obtain ⟨g, m⟩ := bnC_ok h c1
      have A := okL es _ h c4
      cases xs with
      | nil => simp at c3
      | cons x xs =>
        have hk := A.okh
        simp only [List.all_cons, Bool.and_eq_true] at hk
        exact both_plain (e_bi h.calm h.hu g m A.pa hk.1 hk.2) rfl fun _ => rfl
    · cases c
  | .isi e t, rs, ws, X, x, h, c => by
    simp only [chkE] at c
    split at c
    · simp only [Bool.and_eq_true, decide_eq_true_eq] at c
      obtain ⟨⟨⟨⟨c1, rfl⟩, c3⟩, rfl⟩, c5⟩ := c
      obtain ⟨g, m⟩ := bnC_ok h c1
      obtain ⟨g2, m2⟩ := bnC_ok h c3
      have A := okE e _ h c5
      exact both_plain (e_isi g m g2 m2 A.1 A.2.2) rfl fun _ => rfl
    · cases c
  | .itms a, rs, ws, X, x, h, c => by
    simp only [chkE] at c
    split at c
    · simp only [Bool.and_eq_true, decide_eq_true_eq] at c
      obtain ⟨⟨⟨⟨⟨c1, rfl⟩, rfl⟩, c4⟩, c5⟩, c6⟩ := c
      obtain ⟨g, mm⟩ := bnC_ok h c1
      exact both_plain (e_itms h.calm g mm rfl (okE a _ h c6).1 c4 c5) rfl fun _ => rfl
    · cases c
  | .sset al a, rs, ws, X, x, h, c => by
    simp only [chkE] at c
    split at c
    · simp only [Bool.and_eq_true, decide_eq_true_eq] at c
      obtain ⟨⟨⟨⟨c1, rfl⟩, c3⟩, rfl⟩, c5⟩ := c
      obtain ⟨g, mm⟩ := bnC_ok h c1
      obtain ⟨g2, mm2⟩ := bnC_ok h c3
      have B := okE a _ h c5
      exact both_plain (e_sset h.calm g mm g2 mm2 B.1 B.2.2) rfl fun _ => rfl
    · cases c
  | .lset a, rs, ws, X, x, h, c => by
    simp only [chkE] at c
    split at c
    · simp only [Bool.and_eq_true, decide_eq_true_eq] at c
      obtain ⟨⟨⟨⟨c1, rfl⟩, c3⟩, rfl⟩, c5⟩ := c
      obtain ⟨g, mm⟩ := bnC_ok h c1
      obtain ⟨g2, mm2⟩ := bnC_ok h c3
      have B := okE a _ h c5
      exact both_plain (e_lset h.calm g mm g2 mm2 B.1 B.2.2) rfl fun _ => rfl
    · cases c
  | .me al me a es, rs, ws, X, x, h, c => by
    simp only [chkE] at c
    split at c
    · rename_i xa nm apos xs pos
      simp only [Bool.and_eq_true] at c
      obtain ⟨⟨⟨⟨c1, c2⟩, c3⟩, c4⟩, c5⟩ := c
      have A := okE a _ h c4
      have B := okL es _ h c5
      have hk := B.okh
      have hl := B.len
      refine both_plain ?_ rfl fun _ => rfl
      cases xs with
      | nil =>
        cases me <;> simp [meC] at c3
        subst c3
        cases es with
        | nil => exact e_pop0 A.1 c1 c2
        | cons => simp at hl
      | cons x xs =>
        simp only [List.all_cons, Bool.and_eq_true] at hk
        cases me <;> simp [meC] at c3
        · obtain ⟨rfl, c6⟩ := c3
          exact e_append A.1 B.pa c1 hk.1 hk.2 (by omega) c2
        · obtain ⟨rfl, c6⟩ := c3
          exact e_pop1 A.1 B.pa c1 hk.1 hk.2 (by omega) c2
        · obtain ⟨rfl, c6⟩ := c3
          exact e_get2 h.hu A.1 B.pa c1 hk.1 hk.2 (by omega) c2
    · cases c
theorem okL : ∀ (es : List E) {rs ws : Scope} {X : Cx} (xs : List Expr), Ok G cal k N rs ws X → chkL G N rs ws es xs = true → AllE X G.fa cal n0 xs es
  | [], rs, ws, X, xs, h, c => by
    cases xs with
    | nil => exact .nil
    | cons => simp [chkL] at c
  | e :: es, rs, ws, X, xs, h, c => by
    cases xs with
    | nil => simp [chkL] at c
    | cons x xs =>
      simp only [chkL, Bool.and_eq_true] at c
      exact .cons (okE e x h c.1) (okL es xs h c.2)
end
end
end R

set_option Elab.async false
set_option linter.all false
set_option maxRecDepth 100000
set_option maxHeartbeats 4000000
/-! R4c: the checker for statements, sound -/
namespace R
open PySem PySem.Spec PyProof.Rows L2

/-- does a list comprehension change places with the store of its name -/
def swL (rs : Scope) (t : Str) (tl vl : Nat) (sc : Scope) : Bool := (rs.names.lookup t == some .local) && (tl == vl) && !(sc.names.any fun (n, k) => n == t && (k == .local || k == .cell))
def isCompE : E → Bool
  | .comp .. => true
  | _ => false
def nodup2 (i j : Nat) : Bool := decide (i ≠ j)
def locC (N : List Str) (rs : Scope) (i : Nat) (x : Str) : Bool := decide (N[i]? = some x) && decide (rs.names.lookup x = some .local)
variable (G : Gd) (N : List Str) (rs ws : Scope)
def chkPar (is : List Nat) (tg v : Expr) : Bool :=
  match is, tg, v with
    | [i, j], .Tuple [.Name x px, .Name y py] kt pt, .Tuple [xa, xb] k2 pt2 => locC N rs i x && locC N rs j y && decide (i ≠ j) && decide (swF rs [.Name x px, .Name y py] [xa, xb] = some (some [x, y]))
    | [i, j, l], .Tuple [.Name x px, .Name y py, .Name z pz] kt pt, .Tuple [xa, xb, xc] k2 pt2 => locC N rs i x && locC N rs j y && locC N rs l z && decide (i ≠ j) && decide (i ≠ l) && decide (j ≠ l) && decide (swF rs [.Name x px, .Name y py, .Name z pz] [xa, xb, xc] = some (some [x, y, z]))
    | _, _, _ => false
def tupsOf : Expr → List Expr
  | .Tuple xs _ _ => xs
  | _ => []
mutual
def chkS : S → Stmt → Bool
  | .set i e, x => match x with
    | .Assign [.Name y py] xe pos => asgC N rs ws i y && chkE G N rs ws e xe && (noLc xe || (match xe with
      | .ListComp _ _ sc lp => swL rs y py.line lp.line sc || !swL rs y py.line lp.line sc
      | _ => false))
    | _ => false
  | .par is es, x => match x with
    | .Assign [tg] xe _ => chkPar N rs is tg xe && chkL G N rs ws es (tupsOf xe)
    | _ => false
  | .asg p e, x => match x with
    | .Assign [tg] xe _ => chkP N rs ws p tg && chkE G N rs ws e xe && noLc xe && (noSw tg xe || (isTupE tg && isTupE xe && decide (swF rs (tupsOf tg) (tupsOf xe) = some none)))
    | _ => false
  | .sub a i e, x => match x with
    | .Assign [.Subscript xa xi _] xe _ => chkE G N rs ws a xa && chkE G N rs ws i xi && chkE G N rs ws e xe && noLc xe
    | _ => false
  | .asg2 a i a' i' e, x => match x with
    | .Assign [.Subscript xa xi _, .Subscript xa' xi' _] xe _ => chkE G N rs ws a xa && chkE G N rs ws i xi && chkE G N rs ws a' xa' && chkE G N rs ws i' xi' && chkE G N rs ws e xe
    | _ => false
  | .sub2 a i a' i' e e', x => match x with
    | .Assign [.Tuple [.Subscript xa xi p2, .Subscript xa' xi' p3] _ _] (.Tuple [xe, xe'] _ _) _ => chkE G N rs ws a xa && chkE G N rs ws i xi && chkE G N rs ws a' xa' && chkE G N rs ws i' xi' && chkL G N rs ws [e, e'] [xe, xe'] && decide (swF rs [.Subscript xa xi p2, .Subscript xa' xi' p3] [xe, xe'] = some none)
    | _ => false
  | .ex e, x => match x with
    | .Expr xe _ => chkE G N rs ws e xe && noLc xe
    | _ => false
  | .ret e, x => match x with
    | .Return (some xe) _ => chkE G N rs ws e xe
    | .Return none _ => isNonE e
    | _ => false
  | .iff c t f, x => match x with
    | .If xc xt xf _ => chkE G N rs ws c xc && chkB t xt && chkB f xf
    | _ => false
  | .for_ p ik its b, x => match x with
    | .For tg iter xb [] _ => chkP N rs ws p tg && okh iter && (match argsOf G rs ik (isTupE tg) iter with
      | some xs => chkL G N rs ws its xs
      | none => false) && chkB b xb
    | _ => false
  | .wh c b, x => match x with
    | .While xc xb [] _ => chkE G N rs ws c xc && chkB b xb
    | _ => false
  | .pass, x => match x with
    | .Pass _ => true
    | .Expr (.Constant (.str _) _ _) _ => true
    | _ => false
  | .brk, x => match x with
    | .Break _ => true
    | _ => false
  | .cont, x => match x with
    | .Continue _ => true
    | _ => false
  | .stuck, _ => true
def chkB : List S → List Stmt → Bool
  | [], xs => xs.isEmpty
  | s :: ss, xs => match xs with
    | x :: xs => chkS s x && chkB ss xs
    | [] => false
end
end R
namespace R
open PySem PySem.Spec PyProof.Rows L2
section
variable {G : Gd} {cal : Nat → List U → Mu → Option (U × Mu)} {k n0 : Nat} {N : List Str} {rs ws : Scope} {X : Cx}
theorem locC_ok (h : Ok G cal k N rs ws X) {i : Nat} {x : Str} (c : locC N rs i x = true) : X.N[i]? = some x ∧ X.env.scope.names.lookup x = some .local := by
  unfold locC at c
  simp only [Bool.and_eq_true, decide_eq_true_eq] at c
  rw [h.nm, h.sc]
  exact c
theorem okPar {is : List Nat} {es : List E} {tg xe : Expr} {pos : Pos} (h : Ok G cal k N rs ws X) (hk : X.env.scope.kind = .function) (c : chkPar N rs is tg xe = true) (A : AllE X G.fa cal n0 (tupsOf xe) es) : PSv X G.fa cal n0 (.Assign [tg] xe pos) (.par is es) := by
  unfold chkPar at c
  split at c
  · simp only [Bool.and_eq_true, decide_eq_true_eq] at c
    obtain ⟨⟨⟨c1, c2⟩, c3⟩, c4⟩ := c
    obtain ⟨a1, a2⟩ := locC_ok h c1
    obtain ⟨b1, b2⟩ := locC_ok h c2
    exact s_par2 h.calm (by rw [h.nm]; exact h.nd) a1 b1 c3 a2 b2 A.pa (sw_ok hk (by rw [h.sc]; exact c4))
  · simp only [Bool.and_eq_true, decide_eq_true_eq] at c
    obtain ⟨⟨⟨⟨⟨⟨c1, c2⟩, c3⟩, c4⟩, c5⟩, c6⟩, c7⟩ := c
    obtain ⟨a1, a2⟩ := locC_ok h c1
    obtain ⟨b1, b2⟩ := locC_ok h c2
    obtain ⟨d1, d2⟩ := locC_ok h c3
    exact s_par3 h.calm (by rw [h.nm]; exact h.nd) a1 b1 d1 c4 c5 c6 a2 b2 d2 A.pa (sw_ok hk (by rw [h.sc]; exact c7))
  · cases c
/-- the parts of a checked list comprehension -/
theorem lc_of {al : Bool} {p : Pt} {ik : Ik} {its : List E} {c' e : E} {vs : List Nat} {elt : Expr} {gens : List Comprehension} {scope : Scope} {pos : Pos} (h : Ok G cal k N rs ws X) (c : chkE G N rs ws (.comp al p ik its c' e vs) (.ListComp elt gens scope pos) = true) :
    ∃ tg iter ifs, gens = [⟨tg, iter, ifs, 0⟩] ∧ LcOk G cal n0 X elt tg iter ifs scope p ik its c' e vs := by
  match gens, c with
  | [⟨tg, iter, ifs, z⟩], c =>
    simp only [chkE, Bool.and_eq_true, decide_eq_true_eq, List.all_eq_true] at c
    obtain ⟨⟨⟨⟨⟨⟨⟨rfl, c2⟩, c3⟩, c4⟩, c5⟩, c6⟩, c7⟩, c8⟩ := c
    refine ⟨tg, iter, ifs, rfl, ?_, ?_, fun s H C cl fp => ?_, fun s H C cl fp => ?_, fun s H C cl fp => ?_, c4, c3⟩
    · split at c6
      · rename_i xs e1
        exact i_of h e1 (okL its _ h c6)
      · cases c6
    · rw [h.nm, h.sc]; exact blkC_ok c2
    · exact (okP (h.blk s H scope C cl fp) p tg c5).1
    · split at c7
      · rw [isYesE_ok c7]; exact pts_yes
      · exact pts_one (okE c' _ (h.blk s H scope C cl fp) c7).2.1
      · cases c7
    · exact (okE e _ (h.blk s H scope C cl fp) c8).1
  | [], c => simp [chkE] at c
  | _ :: _ :: _, c => simp [chkE] at c
theorem swL_ok {env : PySem.Env} {t : Str} {tp vp : Pos} {l : Nat} {elt : Expr} {gens : List Comprehension} {sc : Scope} (hk : env.scope.kind = .function) : swapsWith (.ListComp elt gens sc vp) (some (.Name t tp)) l env = pure (swL env.scope t tp.line vp.line sc) := by
  have hb : env.blockKind = .function := by unfold PySem.Env.blockKind; rw [hk]; rfl
  unfold swapsWith swL PySem.Env.kindOf
  simp only [hb]
  rfl
theorem okSet {i : Nat} {e : E} {y : Str} {py pos : Pos} {xe : Expr} (h : Ok G cal k N rs ws X) (hk : X.env.scope.kind = .function) (c1 : asgC N rs ws i y = true) (c2 : chkE G N rs ws e xe = true) (c3 : noLc xe = true ∨ ∃ a b c d, xe = .ListComp a b c d) : PSv X G.fa cal n0 (.Assign [.Name y py] xe pos) (.set i e) := by
  obtain ⟨a1, a2, a3⟩ := asgC_ok h c1
  have hN : X.N.Nodup := by rw [h.nm]; exact h.nd
  have B := okE (n0 := n0) e xe h c2
  rcases c3 with c3 | ⟨elt, gens, sc, vp, rfl⟩
  · exact s_set hN a1 a2 a3 B.1 (noLc_sw c3 B.2.2)
  · have hs := swL_ok (env := X.env) (t := y) (tp := py) (vp := vp) (l := pos.line) (elt := elt) (gens := gens) (sc := sc) hk
    cases hb : swL X.env.scope y py.line vp.line sc with
    | false =>
      rw [hb] at hs
      exact s_set hN a1 a2 a3 B.1 hs
    | true =>
      rw [hb] at hs
      have hl : X.env.scope.names.lookup y = some .local := by
        unfold swL at hb
        simp only [Bool.and_eq_true, beq_iff_eq] at hb
        exact hb.1.1
      cases e with
      | comp al p ik its c' e vs =>
        obtain ⟨tg, iter, ifs, rfl, q⟩ := lc_of (n0 := n0) h c2
        have := s_setLc (al := al) (py := py) (spos := pos) (pos := vp) h.calm hN a1 hl hs q.hi q.ok q.hg q.ht q.he q.hk (by rw [ownOf_snd]; exact q.hws)
        rw [ownOf_snd] at this
        exact this
      | _ => simp [chkE] at c2
theorem isTup_eq {x : Expr} (h : isTupE x = true) : ∃ k p, x = .Tuple (tupsOf x) k p := by
  cases x <;> first | exact ⟨_, _, rfl⟩ | cases h
mutual
theorem okS (h : Ok G cal k N rs ws X) (hk : X.env.scope.kind = .function) : ∀ (s : S) (x : Stmt), chkS G N rs ws s x = true → PSv X G.fa cal n0 x s
  | .set i e, x, c => by
    simp only [chkS] at c
    split at c
    · rename_i y py xe pos
      simp only [Bool.and_eq_true, Bool.or_eq_true] at c
      refine okSet h hk c.1.1 c.1.2 ?_
      rcases c.2 with c3 | c3
      · exact .inl c3
      · split at c3
        · exact .inr ⟨_, _, _, _, rfl⟩
        · cases c3
    · cases c
  | .par is es, x, c => by
    simp only [chkS] at c
    split at c
    · simp only [Bool.and_eq_true] at c
      exact okPar h hk c.1 (okL es _ h c.2)
    · cases c
  | .asg p e, x, c => by
    simp only [chkS] at c
    split at c
    · rename_i tg xe pos
      simp only [Bool.and_eq_true, Bool.or_eq_true, decide_eq_true_eq] at c
      obtain ⟨⟨⟨c1, c2⟩, c3⟩, c4⟩ := c
      obtain ⟨p1, p2⟩ := okP h p tg c1
      have B := okE (n0 := n0) e xe h c2
      refine s_asg p1 B.1 B.2.2 p2 c3 ?_
      rcases c4 with c4 | ⟨⟨c4, c5⟩, c6⟩
      · exact noSw_ok c4
      · obtain ⟨k1, q1, e1⟩ := isTup_eq c4
        obtain ⟨k2, q2, e2⟩ := isTup_eq c5
        rw [e1, e2]
        exact sw_ok hk (by rw [h.sc]; exact c6)
    · cases c
  | .sub a i e, x, c => by
    simp only [chkS] at c
    split at c
    · simp only [Bool.and_eq_true] at c
      obtain ⟨⟨⟨c1, c2⟩, c3⟩, c4⟩ := c
      have A := okE (n0 := n0) a _ h c1
      have B := okE (n0 := n0) i _ h c2
      have C := okE (n0 := n0) e _ h c3
      exact s_sub h.hu A.1 B.1 C.1 B.2.2 C.2.2 c4
    · cases c
  | .asg2 a i a' i' e, x, c => by
    simp only [chkS] at c
    split at c
    · simp only [Bool.and_eq_true] at c
      obtain ⟨⟨⟨⟨c1, c2⟩, c3⟩, c4⟩, c5⟩ := c
      have B := okE (n0 := n0) i _ h c2
      have D := okE (n0 := n0) i' _ h c4
      exact s_asg2 h.hu (okE a _ h c1).1 B.1 (okE a' _ h c3).1 D.1 (okE e _ h c5).1 B.2.2 D.2.2
    · cases c
  | .sub2 a i a' i' e e', x, c => by
    simp only [chkS] at c
    split at c
    · simp only [Bool.and_eq_true, decide_eq_true_eq] at c
      obtain ⟨⟨⟨⟨⟨c1, c2⟩, c3⟩, c4⟩, c5⟩, c6⟩ := c
      have B := okE (n0 := n0) i _ h c2
      have D := okE (n0 := n0) i' _ h c4
      exact s_sub2 h.calm h.hu (okE a _ h c1).1 B.1 (okE a' _ h c3).1 D.1 (okL [e, e'] _ h c5).pa B.2.2 D.2.2 (sw_ok hk (by rw [h.sc]; exact c6))
    · cases c
  | .ex e, x, c => by
    simp only [chkS] at c
    split at c
    · simp only [Bool.and_eq_true] at c
      have A := okE (n0 := n0) e _ h c.1
      exact s_ex A.1 A.2.2 c.2
    · cases c
  | .ret e, x, c => by
    simp only [chkS] at c
    split at c
    · exact s_ret (okE e _ h c).1
    · rw [isNonE_ok c]; exact s_retN
    · cases c
  | .iff c' t f, x, c => by
    simp only [chkS] at c
    split at c
    · simp only [Bool.and_eq_true] at c
      exact s_if (okE c' _ h c.1.1).2.1 (okB h hk t _ c.1.2) (okB h hk f _ c.2)
    · cases c
  | .for_ p ik its b, x, c => by
    simp only [chkS] at c
    split at c
    · simp only [Bool.and_eq_true] at c
      obtain ⟨⟨⟨c1, c2⟩, c3⟩, c4⟩ := c
      split at c3
      · rename_i xs e1
        exact s_for h.own h.calm (i_of h e1 (okL its _ h c3)) (okP h p _ c1).1 (okB h hk b _ c4) c2
      · cases c3
    · cases c
  | .wh c' b, x, c => by
    simp only [chkS] at c
    split at c
    · simp only [Bool.and_eq_true] at c
      exact s_wh h.own (okE c' _ h c.1).2.1 (okB h hk b _ c.2)
    · cases c
  | .pass, x, c => by
    simp only [chkS] at c
    split at c
    · exact s_pass
    · exact s_doc
    · cases c
  | .brk, x, c => by
    simp only [chkS] at c
    split at c
    · exact s_brk
    · cases c
  | .cont, x, c => by
    simp only [chkS] at c
    split at c
    · exact s_cont
    · cases c
  | .stuck, x, c => s_never
theorem okB (h : Ok G cal k N rs ws X) (hk : X.env.scope.kind = .function) : ∀ (ss : List S) (xs : List Stmt), chkB G N rs ws ss xs = true → PLv X G.fa cal n0 xs ss
  | [], xs, c => by
    cases xs with
    | nil => exact l_nil
    | cons => simp [chkB] at c
  | s :: ss, xs, c => by
    cases xs with
    | nil => simp [chkB] at c
    | cons x xs =>
      simp only [chkB, Bool.and_eq_true] at c
      exact l_cons (okS h hk s x c.1) (okB h hk ss xs c.2)
end
end
end R

set_option Elab.async false
set_option linter.all false
set_option maxRecDepth 100000
set_option maxHeartbeats 4000000
/-! R5: defs keep their promises at every level; what the law's walk asks -/
namespace R
open PySem PySem.Spec PyProof.Rows L2

section
variable {K : PySem.W.Frag} {fa : Nat → Option Addr} {t m m' : List Addr} {n n' : Nat} {H H' : Hp} {bs : List Nat} {μ μ' : Mu}
/-- the bounds of a callee -/
def bsIn (bs : List Nat) (l : Nat) : List Nat := bs ++ List.replicate (l - bs.length) l
theorem bsIn_len {l : Nat} (h : bs.length ≤ l) : (bsIn bs l).length = l := by simp [bsIn]; omega
theorem bsIn_lt {l i : Nat} (h : i < bs.length) : (bsIn bs l)[i]? = bs[i]? := by
  unfold bsIn
  rw [List.getElem?_append_left h]
theorem bsIn_mid {l i : Nat} (h : bs.length ≤ i) (h2 : i < l) : (bsIn bs l)[i]? = some l := by
  unfold bsIn
  rw [List.getElem?_append_right h, List.getElem?_replicate]
  simp
  omega
theorem bsIn_out {l i : Nat} (h : bs.length ≤ l) (h2 : l ≤ i) : (bsIn bs l)[i]? = none := by
  rw [List.getElem?_eq_none_iff, bsIn_len h]
  exact h2
/-- a call begins -/
theorem Me.enter (M : Me K fa bs t m H μ) : Me K fa (bsIn bs m.length) t m H μ := by
  refine ⟨M.len, by rw [bsIn_len M.low]; exact Nat.le_refl _, M.nd, fun i a o h1 h2 => ?_, fun i b hb => ?_, M.tt⟩
  · have q := M.ct i a o h1 h2
    have hi : i < m.length := (List.getElem?_eq_some_iff.mp h1).1
    by_cases h : i < bs.length
    · rw [bsIn_lt h]; exact q
    · rw [bsIn_mid (by omega) hi]
      rw [List.getElem?_eq_none_iff.mpr (by omega)] at q
      exact q
  · rw [bsIn_len M.low]
    by_cases h : i < bs.length
    · rw [bsIn_lt h] at hb
      exact Nat.le_trans (M.bd i b hb) M.low
    · by_cases h2 : i < m.length
      · rw [bsIn_mid (by omega) h2] at hb; cases hb; exact Nat.le_refl _
      · rw [bsIn_out M.low (by omega)] at hb; cases hb
/-- a call ends, all objects kept -/
theorem Me.leave (hl : bs.length ≤ m.length) (hbd : ∀ (i b : Nat), bs[i]? = some b → b ≤ bs.length) (M : Me K fa (bsIn bs m.length) t m' H' μ') : Me K fa bs t m' H' μ' := by
  have hlow := M.low
  rw [bsIn_len hl] at hlow
  refine ⟨M.len, by omega, M.nd, fun i a o h1 h2 => ?_, hbd, M.tt⟩
  have q := M.ct i a o h1 h2
  refine q.ex (Ex.refl _ _) ?_ rfl
  by_cases h : i < bs.length
  · rw [bsIn_lt h]; exact Nat.le_refl _
  · have hn : bs[i]? = none := List.getElem?_eq_none_iff.mpr (by omega)
    rw [hn]
    by_cases h2 : i < m.length
    · rw [bsIn_mid (by omega) h2]; exact hlow
    · rw [bsIn_out hl (by omega)]; exact Nat.le_refl _
mutual
theorem Rp.shrink {r : List Addr} (hn : n ≤ m.length) : ∀ {u : U} {v : V}, Rp K fa t (m ++ r) n H u v → Rp K fa t m n H u v
  | _, _, .non => .non
  | _, _, .bl b => .bl b
  | _, _, .int i => .int i
  | _, _, .str x => .str x
  | _, _, .tup h q => .tup ⟨h.1, fun z => h.2.1 (List.mem_append_left _ z), h.2.2⟩ (RpA.shrink hn q)
  | _, _, .lst h q => .lst ⟨h.1, fun z => h.2.1 (List.mem_append_left _ z), h.2.2⟩ (RpA.shrink hn q)
  | _, _, .dK h a z q => .dK h (fun y => a (List.mem_append_left _ y)) z (RpA.shrink hn q)
  | _, _, .dT h a z q => .dT h (fun y => a (List.mem_append_left _ y)) z (RpA.shrink hn q)
  | _, _, .ob hi h => .ob hi (by rw [List.getElem?_append_left (by omega)] at h; exact h)
  | _, _, .fn h => .fn h
  | _, _, .scr h => .scr (h.elim (fun q => .inl ⟨q.1, fun z => q.2.1 (List.mem_append_left _ z), q.2.2⟩) .inr)
theorem RpA.shrink {r : List Addr} (hn : n ≤ m.length) : ∀ {us : List U} {vs : List V}, RpA K fa t (m ++ r) n H us vs → RpA K fa t m n H us vs
  | _, _, .nil => .nil
  | _, _, .cons h q => .cons (Rp.shrink hn h) (RpA.shrink hn q)
end
theorem Ct.shrink {r : List Addr} (hn : n ≤ m.length) {a : Addr} {o : U} (h : Ct K fa t (m ++ r) n H a o) : Ct K fa t m n H a o := by
  cases h with
  | lst h q => exact .lst h (q.shrink hn)
  | dK h q => exact .dK h (q.shrink hn)
  | dT h q => exact .dT h (q.shrink hn)
/-- a call ends, its own objects dropped -/
theorem Me.drop {r : List Addr} (hl : bs.length ≤ m.length) (hbd : ∀ (i b : Nat), bs[i]? = some b → b ≤ bs.length) (M : Me K fa (bsIn bs m.length) t (m ++ r) H' μ') : Me K fa bs t m H' (μ'.take m.length) := by
  have hlen := M.len
  rw [List.length_append] at hlen
  refine ⟨by simp; omega, hl, ?_, fun i a o h1 h2 => ?_, hbd, fun a ha => ?_⟩
  · have := M.nd
    rw [List.nodup_append] at this
    exact this.1
  · have hi : i < m.length := (List.getElem?_eq_some_iff.mp h1).1
    rw [List.getElem?_take_of_lt hi] at h2
    have q := M.ct i a o (by rw [List.getElem?_append_left hi]; exact h1) h2
    by_cases h : i < bs.length
    · rw [bsIn_lt h] at q
      cases hb : bs[i]? with
      | none => rw [List.getElem?_eq_none_iff] at hb; omega
      | some b =>
        rw [hb] at q
        exact q.shrink (Nat.le_trans (hbd i b hb) hl)
    · rw [bsIn_mid (by omega) hi] at q
      rw [List.getElem?_eq_none_iff.mpr (by omega)]
      exact q.shrink (Nat.le_refl _)
  · obtain ⟨h1, h2⟩ := M.tt a ha
    exact ⟨fun z => h1 (List.mem_append_left _ z), h2⟩
theorem Ex.drop {r : List Addr} (e : Ex m H (m ++ r) H') : Ex m H m H' := ⟨⟨[], by simp⟩, e.keep, fun a h n => absurd h n⟩
/-- frozen -/
theorem frz_ok {r : List Addr} {cs : List Nat} (M : Me K fa cs t (m ++ r) H' μ') : ∀ (k : Nat),
    (∀ (u w : U) (v : V), frz m.length μ' k u = some w → Rp K fa t (m ++ r) (m ++ r).length H' u v → Rp K fa t m m.length H' w v) ∧
    (∀ (us ws : List U) (vs : List V), mapO (frz m.length μ' k) us = some ws → RpA K fa t (m ++ r) (m ++ r).length H' us vs → RpA K fa t m m.length H' ws vs) := by
  intro k
  induction k with
  | zero =>
    have one : ∀ (u w : U) (v : V), frz m.length μ' 0 u = some w → Rp K fa t (m ++ r) (m ++ r).length H' u v → Rp K fa t m m.length H' w v := by
      intro u w v e q
      cases q with
      | non => simp [frz] at e; subst e; exact .non
      | bl b => simp [frz] at e; subst e; exact .bl b
      | int b => simp [frz] at e; subst e; exact .int b
      | str b => simp [frz] at e; subst e; exact .str b
      | fn h => simp [frz] at e; subst e; exact .fn h
      | scr h => simp [frz] at e; subst e; exact .scr (h.elim (fun q => .inl ⟨q.1, fun z => q.2.1 (List.mem_append_left _ z), q.2.2⟩) .inr)
      | tup => simp [frz] at e
      | lst => simp [frz] at e
      | dK => simp [frz] at e
      | dT => simp [frz] at e
      | ob => simp [frz] at e
    refine ⟨one, fun us => ?_⟩
    induction us with
    | nil => intro ws vs e q; cases e; cases q; exact .nil
    | cons u us ih =>
      intro ws vs e q
      obtain ⟨z, zs, e1, e2, rfl⟩ := mapO_cons e
      cases q with
      | cons a b => exact .cons (one _ _ _ e1 a) (ih _ _ e2 b)
  | succ k ih0 =>
    obtain ⟨ih1, ih2⟩ := ih0
    have one : ∀ (u w : U) (v : V), frz m.length μ' (k + 1) u = some w → Rp K fa t (m ++ r) (m ++ r).length H' u v → Rp K fa t m m.length H' w v := by
      intro u w v e q
      cases q with
      | non => simp [frz] at e; subst e; exact .non
      | bl b => simp [frz] at e; subst e; exact .bl b
      | int b => simp [frz] at e; subst e; exact .int b
      | str b => simp [frz] at e; subst e; exact .str b
      | fn h => simp [frz] at e; subst e; exact .fn h
      | scr h => simp [frz] at e; subst e; exact .scr (h.elim (fun q => .inl ⟨q.1, fun z => q.2.1 (List.mem_append_left _ z), q.2.2⟩) .inr)
      | tup f ra =>
        simp only [frz] at e
        split at e
        · rename_i ys e2
          cases e
          exact .tup ⟨f.1, fun z => f.2.1 (List.mem_append_left _ z), f.2.2⟩ (ih2 _ _ _ e2 ra)
        · cases e
      | lst f ra =>
        simp only [frz] at e
        split at e
        · rename_i ys e2
          cases e
          exact .lst ⟨f.1, fun z => f.2.1 (List.mem_append_left _ z), f.2.2⟩ (ih2 _ _ _ e2 ra)
        · cases e
      | dK f g h ra =>
        simp only [frz] at e
        split at e
        · rename_i ys e2
          cases e
          exact .dK f (fun z => g (List.mem_append_left _ z)) h (ih2 _ _ _ e2 ra)
        · cases e
      | dT f g h ra =>
        simp only [frz] at e
        split at e
        · rename_i ys e2
          cases e
          exact .dT f (fun z => g (List.mem_append_left _ z)) h (ih2 _ _ _ e2 ra)
        · cases e
      | @ob i a hi ha =>
        simp only [frz] at e
        split at e
        · rename_i hlt
          cases e
          exact .ob hlt (by rw [List.getElem?_append_left hlt] at ha; exact ha)
        · rename_i hge
          have key : ∀ o, μ'[i]? = some o → a ∉ m ∧ a ∉ t ∧ Ct K fa t (m ++ r) (m ++ r).length H' a o := by
            intro o e2
            obtain ⟨a', ea, hm2, c⟩ := M.objF (.ob hi ha) e2
            cases ea
            refine ⟨fun z => ?_, fun z => (M.tt a z).1 (List.mem_of_getElem? hm2), c⟩
            have nd := M.nd
            rw [List.nodup_append] at nd
            rw [List.getElem?_append_right (by omega)] at ha
            exact nd.2.2 a z a (List.mem_of_getElem? ha) rfl
          split at e
          · rename_i xs e2
            obtain ⟨nm, nt, c⟩ := key _ e2
            split at e
            · rename_i ys e3
              cases e
              cases c with
              | lst hH ra => exact .lst ⟨hH, nm, nt⟩ (ih2 _ _ _ e3 ra)
            · cases e
          · rename_i ks xs e2
            obtain ⟨nm, nt, c⟩ := key _ e2
            split at e
            · rename_i ys e3
              cases e
              cases c with
              | dK hH ra => exact .dK hH nm nt (ih2 _ _ _ e3 ra)
            · cases e
          · rename_i ks xs e2
            obtain ⟨nm, nt, c⟩ := key _ e2
            split at e
            · rename_i ys e3
              cases e
              cases c with
              | dT hH ra => exact .dT hH nm nt (ih2 _ _ _ e3 ra)
            · cases e
          · cases e
    refine ⟨one, fun us => ?_⟩
    induction us with
    | nil => intro ws vs e q; cases e; cases q; exact .nil
    | cons u us ih =>
      intro ws vs e q
      obtain ⟨z, zs, e1, e2, rfl⟩ := mapO_cons e
      cases q with
      | cons a b => exact .cons (one _ _ _ e1 a) (ih _ _ e2 b)

theorem fin_ok {keep : Bool} {w u : U} {μ1 : Mu} {Q : VK} (M : Me K fa bs t m H μ) (kk : Kn K fa bs t m H u μ' Q) (ev : finish keep μ.length w μ1 = some (u, μ')) {m1 : List Addr} {H1 : Hp} {v : V} (x : Ex m H m1 H1) (M1 : Me K fa (bsIn bs m.length) t m1 H1 μ1) (r : Rp K fa t m1 m1.length H1 w v) : Q v H1 := by
  unfold finish at ev
  split at ev
  · cases ev
    exact kk m1 H1 v x (Me.leave M.low M.bd M1) r
  · split at ev
    · rename_i z e
      cases ev
      obtain ⟨rr, rfl⟩ := x.pre
      rw [← M.len] at e
      exact kk m H1 v x.drop (by rw [← M.len]; exact M1.drop M.low M.bd) ((frz_ok M1 D0).1 w _ v e r)
    · cases ev
end

/-! ### the defs -/
/-- a def of the program, its names (the parameters first), its form in our language -/
structure Pd where
  glob : Str
  name : Str
  st : Stmt
  names : List Str
  params : List Str
  df : Df
/-- what is seen of a def's text alone -/
def pdC (G : Gd) (d : Pd) : Bool :=
  C8.scC d.names d.params (defScope d.st) && chkB G d.names (defScope d.st) (defScope d.st) d.df.body (defBody d.st) && decide (d.names.length = d.df.ns) && decide (d.params.length = d.df.ps)
/-- what is seen of the written part -/
structure PdOk (K : PySem.W.Frag) (G : Gd) (i : Nat) (d : Pd) : Prop where
  ex : ∃ f fd, FunD K d.name d.name (defArgs d.st) (defBody d.st) (defScope d.st) [] [] f fd ∧ G.fa i = some f ∧ PySem.W.keepIn K (.ref f) = true ∧ Binds K fd d.params []
structure GdOk (K : PySem.W.Frag) (mg : Str → Option Value) (G : Gd) (pd : List Pd) : Prop where
  defs : ∀ i d, pd[i]? = some d → PdOk K G i d
  fns : ∀ x i, G.fns.lookup x = some i → i < pd.length ∧ ∃ f, mg x = some (.ref f) ∧ G.fa i = some f
  nums : ∀ x i, G.nums.lookup x = some i → ∃ t, mg x = some (.int i t)
  bns : ∀ x, x ∈ G.bns → mg x = none
section
variable {P : Program} {w : World} {K : PySem.W.Frag} {mg : Str → Option Value} {base : Heap} {G : Gd} {pd : List Pd}
theorem start_ok {fa : Nat → Option Addr} {t m : List Addr} {H : Hp} {N : List Str} {us : List U} {vs : List V} {ns ps : Nat} (ra : RpA K fa t m m.length H us vs) (hn : N.length = ns) (hp : us.length = ps) (hle : ps ≤ ns) : EnvR K fa t m H (us.map some ++ List.replicate (ns - ps) none) (L2.start N vs) := by
  have hl := ra.length
  refine ⟨by simp [L2.start]; omega, fun i u h => ?_⟩
  by_cases hi : i < us.length
  · rw [List.getElem?_append_left (by simpa using hi), List.getElem?_map] at h
    cases e : us[i]? with
    | none => rw [e] at h; cases h
    | some u' =>
      rw [e] at h
      cases h
      obtain ⟨v, hv, r⟩ := ra.get e
      refine ⟨v, ?_, r⟩
      unfold L2.start
      rw [List.getElem?_append_left (by rw [List.length_map, ← hl]; exact hi), List.getElem?_map, hv]
      rfl
  · rw [List.getElem?_append_right (by simpa using Nat.le_of_not_lt hi), List.getElem?_replicate] at h
    split at h <;> cases h
theorem lev (GO : GdOk K mg G pd) (hC : ∀ d ∈ pd, pdC G d = true) : ∀ (k i : Nat) (d : Pd), pd[i]? = some d →
    ∃ f fd, G.fa i = some f ∧ PySem.W.keepIn K (.ref f) = true ∧ Binds K fd d.params [] ∧ FnOk P w K mg base C8.CX0 k f fd d.params (spU K G.fa (runF (pd.map (·.df)) k) i) ∧ FunD K d.name d.name (defArgs d.st) (defBody d.st) (defScope d.st) [] [] f fd := by
  intro k
  induction k with
  | zero =>
    intro i d hd
    obtain ⟨f, fd, F, hf, kp, hb⟩ := (GO.defs i d hd).ex
    refine ⟨f, fd, hf, kp, hb, ⟨fun vs H Q E h => ?_, fun A outer s H args us vs Q E hr he hb hv h => ?_⟩, F⟩
    · obtain ⟨t, bs, m, μ, us, u, μ', M, ra, ev, kk⟩ := h
      simp [runF] at ev
    · obtain ⟨t, bs, m, μ, us, u, μ', M, ra, ev, kk⟩ := h
      simp [runF] at ev
  | succ k ih =>
    intro i d hd
    obtain ⟨f, fd, F, hf, kp, hb⟩ := (GO.defs i d hd).ex
    have hc := hC d (List.mem_of_getElem? hd)
    unfold pdC at hc
    simp only [Bool.and_eq_true, decide_eq_true_eq] at hc
    obtain ⟨⟨⟨c1, c2⟩, c3⟩, c4⟩ := hc
    have S := C8.fnScope_by c1
    have hdf : (pd.map (·.df))[i]? = some d.df := by rw [List.getElem?_map, hd]; rfl
    have hle : d.df.ps ≤ d.df.ns := by
      have := congrArg List.length S.pre
      rw [List.length_take] at this
      omega
    have step : ∀ {us : List U} {μ μ' : Mu} {u : U}, runF (pd.map (·.df)) (k + 1) i us μ = some (u, μ') → us.length = d.df.ps ∧ ∃ o, exL (runF (pd.map (·.df)) k) μ.length d.df.body (us.map some ++ List.replicate (d.df.ns - d.df.ps) none) μ = some o ∧
        ((∃ z μ1, o = .rt z μ1 ∧ finish d.df.keep μ.length z μ1 = some (u, μ')) ∨ ∃ σ μ1, o = .nx σ μ1 ∧ finish d.df.keep μ.length .non μ1 = some (u, μ')) := by
      intro us μ μ' u ev
      simp only [runF, hdf] at ev
      split at ev
      · rename_i hl
        refine ⟨hl, ?_⟩
        split at ev
        · rename_i z μ1 e; exact ⟨_, e, .inl ⟨z, μ1, rfl, ev⟩⟩
        · rename_i σ μ1 e; exact ⟨_, e, .inr ⟨σ, μ1, rfl, ev⟩⟩
        · cases ev
      · cases ev
    refine ⟨f, fd, hf, kp, hb, FunD.ok F S (fun vs H Q E h => ?_) (fun cdv A outer s H vs Q E hr h => ?_), F⟩
    · obtain ⟨t, bs, m, μ, us, u, μ', M, ra, ev, kk⟩ := h
      rw [← ra.length, (step ev).1, c4]
    · obtain ⟨t, bs, m, μ, us, u, μ', M, ra, ev, kk⟩ := h
      obtain ⟨hl, o, eo, ho⟩ := step ev
      have ok : Ok G (runF (pd.map (·.df)) k) k d.names (defScope d.st) (defScope d.st) (cxOf C8.CX0 P w K mg base d.names d.name (defScope d.st) f cdv A outer s H E).nox :=
        { calm := rfl, nm := rfl, nd := S.nd, sc := rfl, fn := fun _ _ => rfl, room := hr, own := PassesOwn.never, nums := GO.nums, bns := GO.bns,
          calls := fun x j e => by
            obtain ⟨hj, g, hg, hgf⟩ := GO.fns x j e
            obtain ⟨g', fd', h1, h2, h3, h4, _⟩ := ih j pd[j] (List.getElem?_eq_getElem hj)
            rw [hgf] at h1
            cases h1
            exact ⟨g, fd', _, hg, hgf, h2, h3, h4⟩ }
      refine ⟨_, PSs.nox (okB (n0 := μ.length) ok S.kind d.df.body _ c2), ?_⟩
      refine ⟨t, bsIn bs m.length, m, _, μ, o, by rw [bsIn_len M.low, M.len], start_ok ra c3 hl hle, M.enter, eo, ?_⟩
      rcases ho with ⟨z, μ1, rfl, ef⟩ | ⟨σ, μ1, rfl, ef⟩
      · exact fun m1 H1 v x M1 r => fin_ok M kk ef x M1 r
      · exact fun m1 H1 σV x M1 _ => fin_ok M kk ef x M1 .non

/-! ### the end -/
/-- the arguments of a call are bound in their order -/
def BdOk (d : Pd) : Prop := ∀ (kV doc pm : Value) (an : Option Addr) (cdv ct : Value) (us : List Value), us.length = d.params.length → bindArgs (PySem.W.fnOf d.name d.name (defArgs d.st) (defBody d.st) (defScope d.st) .none kV doc pm an cdv ct) ⟨us, []⟩ = pure (d.params.zip us)
def BdAll : List Pd → Prop
  | [] => True
  | d :: ds => BdOk d ∧ BdAll ds
theorem BdAll.at_ : ∀ {ds : List Pd} {i : Nat} {d : Pd}, BdAll ds → ds[i]? = some d → BdOk d
  | [], _, _, _, h => by simp at h
  | d :: ds, 0, _, h, e => by simp at e; subst e; exact h.1
  | d :: ds, i + 1, _, h, e => h.2.at_ (by simpa using e)
def fnD (pd : List Pd) : List He.DefD := pd.map fun d => ⟨(d.glob, none), d.name, d.name, defArgs d.st, defBody d.st, defScope d.st, [], []⟩
def factsOf (fns : List (Str × Nat)) (nums : List (Str × Int)) (bns : List Str) : List He.Fa := fns.map (fun p => .glo p.1) ++ (nums.map (fun p => .int p.1 p.2) ++ bns.map .free)
def gdOf (K : PySem.W.Frag) (pd : List Pd) (fns : List (Str × Nat)) (nums : List (Str × Int)) (bns : List Str) : Gd := ⟨fun i => (pd[i]?).map fun d => He.ga K d.glob, fns, nums, bns⟩
theorem lookup_mem {α : Type} : ∀ {l : List (Str × α)} {x : Str} {a : α}, l.lookup x = some a → (x, a) ∈ l
  | [], _, _, h => by simp at h
  | (y, b) :: l, x, a, h => by
    rw [List.lookup_cons] at h
    cases e : x == y with
    | true =>
      rw [e] at h
      cases h
      rw [beq_iff_eq.mp e]
      exact List.mem_cons_self
    | false =>
      rw [e] at h
      exact List.mem_cons_of_mem _ (lookup_mem h)
theorem gd_ok {h : Heap} {fns : List (Str × Nat)} {nums : List (Str × Int)} {bns : List Str} (X : K.In h) (Gm : h.Ns mainGlobals mg) (c : He.SaysD (factsOf fns nums bns) (fnD pd) K) (hb : BdAll pd) (hf : fns.all (fun p => decide ((pd[p.2]?).map (·.glob) = some p.1)) = true) :
    GdOk K mg (gdOf K pd fns nums bns) pd := by
  have fact : ∀ f ∈ factsOf fns nums bns, f.ok K = true := fun f hf => by
    obtain ⟨i, hi⟩ := List.mem_iff_getElem?.mp hf
    exact c.fact i hi
  refine ⟨fun i d hd => ?_, fun x i e => ?_, fun x i e => ?_, fun x e => ?_⟩
  · have hi : (fnD pd)[i]? = some ⟨(d.glob, none), d.name, d.name, defArgs d.st, defBody d.st, defScope d.st, [], []⟩ := by
      unfold fnD
      rw [List.getElem?_map, hd]
      rfl
    obtain ⟨fd, F⟩ := c.def_ i hi
    exact ⟨_, fd, F, by show (pd[i]?).map _ = _; rw [hd]; rfl, F.kp, F.bindsN (hb.at_ hd)⟩
  · have hm := lookup_mem e
    have h1 := List.all_eq_true.mp hf (x, i) hm
    have h2 : (pd[i]?).map (·.glob) = some x := of_decide_eq_true h1
    cases hd : pd[i]? with
    | none => rw [hd] at h2; cases h2
    | some d =>
      rw [hd] at h2
      have h3 : d.glob = x := Option.some.inj h2
      refine ⟨(List.getElem?_eq_some_iff.mp hd).1, He.ga K x, He.glo_ok X Gm (fact (.glo x) ?_), ?_⟩
      · unfold factsOf
        exact List.mem_append_left _ (List.mem_map.mpr ⟨(x, i), hm, rfl⟩)
      · show (pd[i]?).map _ = _
        rw [hd, ← h3]
        rfl
  · refine He.int_ok X Gm (fact (.int x i) ?_)
    unfold factsOf
    exact List.mem_append_right _ (List.mem_append_left _ (List.mem_map.mpr ⟨(x, i), lookup_mem e, rfl⟩))
  · refine He.free_ok X Gm (fact (.free x) ?_)
    unfold factsOf
    exact List.mem_append_right _ (List.mem_append_right _ (List.mem_map.mpr ⟨x, e, rfl⟩))
def spLaw (K : PySem.W.Frag) : Sp := fun vs H Q _ => ∃ (a : Addr) (ns : List Int), vs = [.ref a] ∧ SqL K H a (ns.map V.int) ∧ ns.length ≤ 63 ∧ ∀ H', Q (.bl true) H'
/-- the law, from what our evaluator says -/
theorem law_ok {fns : List (Str × Nat)} {nums : List (Str × Int)} {bns : List Str} {L k : Nat} {h : Heap} {f : Addr} (X : K.In h) (Gm : h.Ns mainGlobals mg) (c : He.SaysD (factsOf fns nums bns) (fnD pd) K) (hb : BdAll pd) (hf : fns.all (fun p => decide ((pd[p.2]?).map (·.glob) = some p.1)) = true)
    (hC : ∀ fa : Nat → Option Addr, pd.all (pdC ⟨fa, fns, nums, bns⟩) = true) {d : Pd} (hd : pd[L]? = some d) (hp : d.params = [("script" : Str)]) (hg : d.glob = "law") (hl : fns.lookup ("law" : Str) = some L) (hfa : mg ("law" : Str) = some (.ref f))
    (law : ∀ ns : List Int, ns.length ≤ 63 → ∃ μ, runF (pd.map (·.df)) k L [.scr ns] [] = some (.bl true, μ)) :
    ∃ fd : FuncData, (∀ (s : Shared) (v : Value), BindsTo s fd ⟨[v], []⟩ [("script", v)]) ∧ ∀ base : Heap, K.In base → base.Ns mainGlobals mg → FnOk P w K mg base C8.CX0 k f fd ["script"] (spLaw K) := by
  have GO := gd_ok X Gm c hb hf
  obtain ⟨f0, fd, F, hfa0, kp, hbi⟩ := (GO.defs L d hd).ex
  obtain ⟨_, f1, e1, e2⟩ := GO.fns _ _ hl
  rw [hfa] at e1
  cases e1
  rw [hfa0] at e2
  cases e2
  refine ⟨fd, fun s v => ?_, fun base _ _ => ?_⟩
  · have := FunD.bindsA (ps := d.params) F (hb.at_ hd) s [v] (by rw [hp]; rfl)
    rw [hp] at this
    exact this
  · obtain ⟨f2, fd2, h1, h2, h3, h4, F2⟩ := lev (P := P) (w := w) (base := base) GO (fun d hd => List.all_eq_true.mp (hC _) d hd) k L d hd
    rw [hfa0] at h1
    cases h1
    have efd : fd2 = fd := by
      obtain ⟨oc, od, dV, kV, doc, pm, an, cdv, ct, osl, e1, lk, _⟩ := F.ex
      obtain ⟨oc', od', dV', kV', doc', pm', an', cdv', ct', osl', e1', lk', _⟩ := F2.ex
      rw [lk] at lk'
      cases lk'
      rfl
    subst efd
    rw [hp] at h4
    refine h4.imp fun vs H Q E q => ?_
    obtain ⟨a, ns, rfl, hS, hn, hQ⟩ := q
    obtain ⟨μ', e⟩ := law ns hn
    refine ⟨[], [], [], [], [.scr ns], .bl true, μ', ⟨rfl, Nat.le_refl _, List.nodup_nil, fun i a o h => by simp at h, fun i b h => by simp at h, fun a h => by simp at h⟩, .one (.scr ?_), e, fun m' H' v x M r => ?_⟩
    · rcases hS with hS | hS
      · exact .inl ⟨hS, by simp, by simp⟩
      · exact .inr hS
    · cases r
      exact hQ H'
end
end R

set_option Elab.async false
set_option linter.all false
set_option maxRecDepth 100000
set_option maxHeartbeats 4000000
/-! M0: the evaluator's loops and parts, for the mathematics of the laws -/
namespace R
open PySem L2

abbrev I (n : Nat) : U := .int (n : Int)
/-! ### turns -/
theorem compL_all {α : Type} {step : U → Mu → Option (Option U × Mu)} {enc g : α → U} {μ : Mu} : ∀ {xs : List α} {acc : List U}, (∀ x ∈ xs, step (enc x) μ = some (some (g x), μ)) → acc.length + xs.length ≤ SZ → compL step (xs.map enc) acc μ = some (acc ++ xs.map g, μ)
  | [], acc, _, _ => by simp [compL]
  | x :: xs, acc, h, hl => by
    simp only [List.map_cons, compL]
    rw [h x (by simp)]
    simp only
    rw [if_pos (by simp at hl; omega), compL_all (fun y hy => h y (by simp [hy])) (by simp at hl ⊢; omega)]
    simp
theorem compL_filter {α : Type} {step : U → Mu → Option (Option U × Mu)} {enc g : α → U} {p : α → Bool} {μ : Mu} : ∀ {xs : List α} {acc : List U}, (∀ x ∈ xs, step (enc x) μ = some (if p x then some (g x) else none, μ)) → acc.length + xs.length ≤ SZ → compL step (xs.map enc) acc μ = some (acc ++ (xs.filter p).map g, μ)
  | [], acc, _, _ => by simp [compL]
  | x :: xs, acc, h, hl => by
    simp only [List.map_cons, compL]
    rw [h x (by simp)]
    cases hp : p x with
    | true =>
      simp only [if_true]
      rw [if_pos (by simp at hl; omega), compL_filter (fun y hy => h y (by simp [hy])) (by simp at hl ⊢; omega)]
      simp [hp]
    | false =>
      simp only [Bool.false_eq_true, if_false]
      rw [compL_filter (fun y hy => h y (by simp [hy])) (by simp at hl ⊢; omega)]
      simp [hp]
theorem compL_ex {step : U → Mu → Option (Option U × Mu)} {Inv : Mu → Prop} {P : U → U → Prop} : ∀ {xs : List U} {acc : List U} {μ : Mu}, Inv μ → (∀ x ∈ xs, ∀ μ, Inv μ → ∃ y μ', step x μ = some (some y, μ') ∧ Inv μ' ∧ P x y) → acc.length + xs.length ≤ SZ →
    ∃ ys μ', compL step xs acc μ = some (acc ++ ys, μ') ∧ Inv μ' ∧ ys.length = xs.length ∧ ∀ y ∈ ys, ∃ x ∈ xs, P x y
  | [], acc, μ, h, _, _ => ⟨[], μ, by simp [compL], h, rfl, by simp⟩
  | x :: xs, acc, μ, h, hs, hl => by
    obtain ⟨y, μ1, e, h1, p⟩ := hs x (by simp) μ h
    obtain ⟨ys, μ2, e2, h2, l2, p2⟩ := compL_ex (xs := xs) (acc := acc ++ [y]) h1 (fun z hz => hs z (by simp [hz])) (by simp at hl ⊢; omega)
    refine ⟨y :: ys, μ2, ?_, h2, by simp [l2], fun z hz => ?_⟩
    · simp only [compL]
      rw [e]
      simp only
      rw [if_pos (by simp at hl; omega), e2]
      simp
    · rcases List.mem_cons.mp hz with e | e
      · subst e; exact ⟨x, by simp, p⟩
      · obtain ⟨w, hw, q⟩ := p2 z e
        exact ⟨w, by simp [hw], q⟩
theorem forL_inv {step : U → Env → Mu → Option Out} (P : Nat → Env → Mu → Prop) : ∀ {xs : List U} {k : Nat} {σ : Env} {μ : Mu}, P k σ μ → (∀ i x σ μ, xs[i]? = some x → P (k + i) σ μ → ∃ σ' μ', (step x σ μ = some (.nx σ' μ') ∨ step x σ μ = some (.ct σ' μ')) ∧ P (k + i + 1) σ' μ') →
    ∃ σ' μ', forL step xs σ μ = some (.nx σ' μ') ∧ P (k + xs.length) σ' μ'
  | [], k, σ, μ, h, _ => ⟨σ, μ, by simp [forL], h⟩
  | x :: xs, k, σ, μ, h, hs => by
    obtain ⟨σ1, μ1, e, h1⟩ := hs 0 x σ μ rfl h
    obtain ⟨σ2, μ2, e2, h2⟩ := forL_inv (P := P) (k := k + 1) h1 fun i y σ μ hy hp => by
      have := hs (i + 1) y σ μ (by simpa using hy) (by have e : k + (i + 1) = k + 1 + i := by omega
                                                       rw [e]; exact hp)
      have e : k + (i + 1) + 1 = k + 1 + i + 1 := by omega
      rw [e] at this
      exact this
    refine ⟨σ2, μ2, ?_, ?_⟩
    · simp only [forL]
      rcases e with e | e <;> rw [e] <;> exact e2
    · have e : k + (x :: xs).length = k + 1 + xs.length := by simp; omega
      rw [e]; exact h2
theorem forL_inv0 {step : U → Env → Mu → Option Out} (P : Nat → Env → Mu → Prop) {xs : List U} {σ : Env} {μ : Mu} (h : P 0 σ μ) (hs : ∀ i x σ μ, xs[i]? = some x → P i σ μ → ∃ σ' μ', (step x σ μ = some (.nx σ' μ') ∨ step x σ μ = some (.ct σ' μ')) ∧ P (i + 1) σ' μ') :
    ∃ σ' μ', forL step xs σ μ = some (.nx σ' μ') ∧ P xs.length σ' μ' := by
  have := forL_inv P (xs := xs) (k := 0) (σ := σ) (μ := μ) h fun i x σ μ hx hp => by
    have e : 0 + i = i := Nat.zero_add i
    rw [e] at hp ⊢
    exact hs i x σ μ hx hp
  rw [Nat.zero_add] at this
  exact this
/-- a walk over a mutable list that stays as it is -/
theorem forV_inv {step : U → Env → Mu → Option Out} {i : Nat} {xs : List U} (P : Nat → Env → Mu → Prop) (hP : ∀ k σ μ, P k σ μ → μ[i]? = some (.lst xs)) : ∀ {f k : Nat} {σ : Env} {μ : Mu}, P k σ μ → k ≤ xs.length → xs.length - k < f → (∀ k x σ μ, xs[k]? = some x → P k σ μ → ∃ σ' μ', (step x σ μ = some (.nx σ' μ') ∨ step x σ μ = some (.ct σ' μ')) ∧ P (k + 1) σ' μ') →
    ∃ σ' μ', forV step i f k σ μ = some (.nx σ' μ') ∧ P xs.length σ' μ'
  | 0, k, σ, μ, h, hk, hf, _ => by omega
  | f + 1, k, σ, μ, h, hk, hf, hs => by
    simp only [forV]
    rw [hP k σ μ h]
    simp only
    by_cases hlt : k < xs.length
    · rw [List.getElem?_eq_getElem hlt]
      simp only
      obtain ⟨σ1, μ1, e, h1⟩ := hs k xs[k] σ μ (List.getElem?_eq_getElem hlt) h
      obtain ⟨σ2, μ2, e2, h2⟩ := forV_inv P hP (f := f) (k := k + 1) h1 hlt (by omega) hs
      refine ⟨σ2, μ2, ?_, h2⟩
      rcases e with e | e <;> rw [e] <;> exact e2
    · have e : k = xs.length := by omega
      subst e
      rw [List.getElem?_eq_none_iff.mpr (Nat.le_refl _)]
      exact ⟨σ, μ, rfl, h⟩
theorem whL_inv {cond : Env → Mu → Option (Bool × Mu)} {body : Env → Mu → Option Out} (P : Nat → Env → Mu → Prop) (D : Env → Mu → Prop)
    (hs : ∀ m σ μ, P m σ μ → (∃ μ', cond σ μ = some (false, μ') ∧ D σ μ') ∨ ∃ μ1 σ' μ', cond σ μ = some (true, μ1) ∧ (body σ μ1 = some (.nx σ' μ') ∨ body σ μ1 = some (.ct σ' μ')) ∧ ∃ m', m' < m ∧ P m' σ' μ') :
    ∀ {f m : Nat} {σ : Env} {μ : Mu}, P m σ μ → m < f → ∃ σ' μ', whL cond body f σ μ = some (.nx σ' μ') ∧ D σ' μ'
  | 0, m, σ, μ, h, hf => by omega
  | f + 1, m, σ, μ, h, hf => by
    simp only [whL]
    rcases hs m σ μ h with ⟨μ', e, d⟩ | ⟨μ1, σ', μ', e, b, m', hm, h'⟩
    · rw [e]
      exact ⟨σ, μ', rfl, d⟩
    · rw [e]
      simp only
      obtain ⟨σ2, μ2, e2, d⟩ := whL_inv P D hs (f := f) h' (by omega)
      refine ⟨σ2, μ2, ?_, d⟩
      rcases b with b | b <;> rw [b] <;> exact e2
/-! ### lists of ints -/
theorem dat_int (μ : Mu) (k : Nat) (i : Int) : dat μ k (.int i) = some (.int i) := by cases k <;> rfl
theorem mapO_map {α β γ : Type} {f : β → Option γ} {g : α → β} {h : α → γ} : ∀ {xs : List α}, (∀ x ∈ xs, f (g x) = some (h x)) → mapO f (xs.map g) = some (xs.map h)
  | [], _ => rfl
  | x :: xs, hh => by
    simp only [List.map_cons, mapO]
    rw [hh x (by simp), mapO_map fun y hy => hh y (by simp [hy])]
theorem mapO_ints (μ : Mu) (k : Nat) (ns : List Int) : mapO (dat μ k) (ns.map U.int) = some (ns.map PyData.int) := mapO_map fun x _ => dat_int μ k x
theorem mapO_asInt (ns : List Int) : mapO asInt (ns.map U.int) = some ns := by
  have := mapO_map (f := asInt) (g := U.int) (h := id) (xs := ns) fun x _ => rfl
  simpa using this
theorem srtd_ints (μ : Mu) (ns : List Int) (h : ns.length ≤ SZ) : srtd μ (ns.map U.int) = some ((ns.mergeSort fun a b => decide (a ≤ b)).map U.int) := by
  unfold srtd
  rw [mapO_ints]
  simp only
  rw [if_pos]
  · congr 1
    have e : (ns.map U.int).zip (ns.map PyData.int) = ns.map fun i => (U.int i, PyData.int i) := List.zip_map'
    rw [e, ← List.map_mergeSort (r := fun a b => decide (a ≤ b)) (s := PySem.W.dataLe false Prod.snd) (f := fun i => (U.int i, PyData.int i))]
    · rw [List.map_map]; rfl
    · intro a _ b _
      show _ = !PySem.W.dataLt (.int b) (.int a)
      rw [PySem.W.dataLt_int]
      by_cases hab : a ≤ b
      · simp [hab]
      · simp [hab]; omega
  · simp only [Bool.and_eq_true, decide_eq_true_eq, Bool.or_eq_true, List.all_eq_true]
    refine ⟨⟨fun d hd e he => ?_, .inr fun d hd => ?_⟩, by simpa using h⟩
    · obtain ⟨i, _, rfl⟩ := List.mem_map.mp hd
      obtain ⟨j, _, rfl⟩ := List.mem_map.mp he
      rfl
    · obtain ⟨i, _, rfl⟩ := List.mem_map.mp hd
      rfl
theorem atI_of {α : Type} {xs : List α} {j : Nat} {v : α} (h : xs[j]? = some v) : atI xs (j : Int) = some v := atI_nat h
theorem nodup_lt {n : Nat} : ∀ {l : List Nat}, l.Nodup → (∀ x ∈ l, x < n) → l.length ≤ n := by
  induction n with
  | zero =>
    intro l _ h
    cases l with
    | nil => simp
    | cons x l => exact absurd (h x (by simp)) (by omega)
  | succ n ih =>
    intro l nd h
    by_cases hm : n ∈ l
    · have h1 := List.length_erase_of_mem hm
      have h2 := ih (nd.erase n) fun x hx => by
        have h3 := h x (List.mem_of_mem_erase hx)
        have h4 : x ≠ n := fun e => by
          subst e
          exact (List.Nodup.not_mem_erase nd) hx
        omega
      have : 0 < l.length := List.length_pos_of_mem hm
      omega
    · have h2 := ih nd fun x hx => by
        have h3 := h x hx
        have h4 : x ≠ n := fun e => hm (e ▸ hx)
        omega
      omega
/-! ### dicts whose keys are numbers -/
abbrev kI (n : Nat) : Key := .inl (n : Int)
theorem lk_map {f : Nat → U} {h : Nat} : ∀ {ks : List Nat}, h ∈ ks → lk (ks.map kI) (ks.map f) (kI h) = some (f h)
  | [], hm => by simp at hm
  | k :: ks, hm => by
    simp only [List.map_cons, lk]
    by_cases e : k = h
    · subst e; simp
    · rw [if_neg (by intro z; injection z with z; exact e (by omega))]
      exact lk_map (by rcases List.mem_cons.mp hm with z | z; exact absurd z.symm e; exact z)
theorem lk_none {f : Nat → U} {h : Nat} : ∀ {ks : List Nat}, h ∉ ks → lk (ks.map kI) (ks.map f) (kI h) = none
  | [], _ => rfl
  | k :: ks, hm => by
    simp only [List.map_cons, lk]
    rw [if_neg (by intro z; injection z with z; exact hm (by simp; left; omega))]
    exact lk_none fun z => hm (by simp [z])
theorem kI_mem {h : Nat} {ks : List Nat} : kI h ∈ ks.map kI ↔ h ∈ ks := by
  constructor
  · intro z
    obtain ⟨x, hx, e⟩ := List.mem_map.mp z
    injection e with e
    have : x = h := by omega
    exact this ▸ hx
  · exact fun z => List.mem_map.mpr ⟨h, z, rfl⟩
/-! ### rules for comprehensions and loops -/
section
variable (cal : Nat → List U → Mu → Option (U × Mu)) (n0 : Nat)
def cstep (p : Pt) (c e : E) (ws : List Nat) (σ : Env) : U → Mu → Option (Option U × Mu) := fun x μ => match bindP μ p x (wipeE σ ws) with
  | some σ' => match evalE cal n0 c σ' μ with
    | some (t, μ) => match truth μ t with
      | some true => match evalE cal n0 e σ' μ with
        | some (y, μ) => some (some y, μ)
        | none => none
      | some false => some (none, μ)
      | none => none
    | none => none
  | none => none
def fstep (p : Pt) (b : List S) : U → Env → Mu → Option Out := fun x σ μ => match bindP μ p x σ with
  | some σ => exL cal n0 b σ μ
  | none => none
def wcond (c : E) : Env → Mu → Option (Bool × Mu) := fun σ μ => match evalE cal n0 c σ μ with
  | some (u, μ) => match truth μ u with
    | some t => some (t, μ)
    | none => none
  | none => none
variable {cal n0}
theorem ev_comp {al : Bool} {p : Pt} {ik : Ik} {its : List E} {c e : E} {ws : List Nat} {σ : Env} {μ μ1 μ2 : Mu} {us xs ys : List U} (h1 : evalL cal n0 its σ μ = some (us, μ1)) (h2 : walk μ1 ik us = some (.inl xs)) (h3 : compL (cstep cal n0 p c e ws σ) xs [] μ1 = some (ys, μ2)) :
    evalE cal n0 (.comp al p ik its c e ws) σ μ = some (fresh al (.lst ys) μ2) := by
  simp only [evalE, h1, h2]
  have e0 : (match compL (cstep cal n0 p c e ws σ) xs [] μ1 with
    | some (ys, μ) => some (fresh al (.lst ys) μ)
    | none => none) = some (fresh al (.lst ys) μ2) := by rw [h3]
  exact e0
theorem ex_for {p : Pt} {ik : Ik} {its : List E} {b : List S} {σ : Env} {μ μ1 : Mu} {us xs : List U} (h1 : evalL cal n0 its σ μ = some (us, μ1)) (h2 : walk μ1 ik us = some (.inl xs)) :
    exS cal n0 (.for_ p ik its b) σ μ = forL (fstep cal n0 p b) xs σ μ1 := by
  simp only [exS, h1, h2]
  rfl
theorem ex_forV {p : Pt} {ik : Ik} {its : List E} {b : List S} {σ : Env} {μ μ1 : Mu} {us : List U} {i : Nat} (h1 : evalL cal n0 its σ μ = some (us, μ1)) (h2 : walk μ1 ik us = some (.inr i)) :
    exS cal n0 (.for_ p ik its b) σ μ = forV (fstep cal n0 p b) i FU 0 σ μ1 := by
  simp only [exS, h1, h2]
  rfl
theorem ex_wh {c : E} {b : List S} {σ : Env} {μ : Mu} : exS cal n0 (.wh c b) σ μ = whL (wcond cal n0 c) (fun σ μ => exL cal n0 b σ μ) FU σ μ := by
  simp only [exS]
  rfl
end
theorem cutU_nil (lo : Option Int) (hi : Option Int) : cutU [] lo hi = [] := by simp [cutU]
theorem cutU_from (xs : List U) (a : Nat) : cutU xs (some a) none = xs.drop a := by
  unfold cutU
  rw [show HT.sIx xs.length 0 (some (a : Int)) = min a xs.length from HT.sIx_nat xs.length 0 a, HT.sIx_none]
  by_cases h : a ≤ xs.length
  · rw [Nat.min_eq_left h, List.take_of_length_le (by simp)]
  · rw [Nat.min_eq_right (show xs.length ≤ a by omega)]
    simp
    omega
theorem cutU_to (xs : List U) (b : Nat) : cutU xs none (some b) = xs.take b := by
  unfold cutU
  rw [show HT.sIx xs.length xs.length (some (b : Int)) = min b xs.length from HT.sIx_nat xs.length xs.length b, HT.sIx_none]
  simp
theorem cutU_fromto (xs : List U) (a b : Nat) : cutU xs (some a) (some b) = (xs.take b).drop a := by
  unfold cutU
  rw [show HT.sIx xs.length xs.length (some (b : Int)) = min b xs.length from HT.sIx_nat xs.length xs.length b, show HT.sIx xs.length 0 (some (a : Int)) = min a xs.length from HT.sIx_nat xs.length 0 a]
  rw [List.drop_take]
  by_cases h : a ≤ xs.length
  · rw [Nat.min_eq_left h]
    by_cases h2 : b ≤ xs.length
    · rw [Nat.min_eq_left h2]
    · rw [Nat.min_eq_right (show xs.length ≤ b by omega), List.take_of_length_le (by simp), List.take_of_length_le (by simp; omega)]
  · rw [Nat.min_eq_right (show xs.length ≤ a by omega)]
    have : xs.drop a = [] := List.drop_eq_nil_of_le (by omega)
    simp [this]
theorem all_bl (n : Nat) : mapO asBl (List.replicate n (U.bl true)) = some (List.replicate n true) := by
  induction n with
  | zero => rfl
  | succ n ih => simp [List.replicate_succ, mapO, ih, asBl]
theorem all_bls {α : Type} (l : List α) : mapO asBl (l.map fun _ => U.bl true) = some (l.map fun _ => true) := mapO_map fun _ _ => rfl
theorem rgn_nat (n : Nat) : rgn 0 (n : Int) = (List.range n).map I := by
  unfold rgn
  simp
theorem rgn_nats (a n : Nat) : rgn (a : Int) (n : Int) = (List.range (n - a)).map fun i => I (a + i) := by
  unfold rgn
  have : ((n : Int) - a).toNat = n - a := by omega
  rw [this]
  simp
theorem zip_enc {α β : Type} (f : α → U) (g : β → U) (xs : List α) (ys : List β) : zips (xs.map f) (ys.map g) = (xs.zip ys).map fun q => .tup [f q.1, g q.2] := by
  unfold zips
  rw [List.zip_map, List.map_map]
  rfl
/-! ### rules for stores -/
section
variable {cal : Nat → List U → Mu → Option (U × Mu)} {n0 : Nat} {σ : Env} {μ : Mu}
theorem ex_append {al : Bool} {a e : E} {i : Nat} {u : U} {xs : List U} (ha : evalE cal n0 a σ μ = some (.ob i, μ)) (he : evalE cal n0 e σ μ = some (u, μ)) (h : μ[i]? = some (.lst xs)) (hl : xs.length < SZ) (ho : n0 ≤ i) :
    exS cal n0 (.ex (.me al .append a [e])) σ μ = some (.nx σ (μ.set i (.lst (xs ++ [u])))) := by
  have o : okw n0 i u = true := by simp [okw, ho]
  simp only [exS, evalE, evalL, ha, he, okm, asL, h, Option.isSome, evMe]
  rw [if_pos ⟨hl, o⟩]
theorem ex_subK {a e j : E} {i : Nat} {u : U} {ks : List Key} {vs : List U} {v : U} {q : Key} (he : evalE cal n0 e σ μ = some (u, μ)) (ha : evalE cal n0 a σ μ = some (.ob i, μ)) (hj : evalE cal n0 j σ μ = some (v, μ)) (hq : sky v = some q) (h : μ[i]? = some (.dk ks vs)) (hl : ks.length < SZ) (ho : n0 ≤ i) :
    exS cal n0 (.sub a j e) σ μ = some (.nx σ (μ.set i (.dk (ptk ks q) (pt ks vs q u)))) := by
  have o : okw n0 i u = true := by simp [okw, ho]
  simp only [exS, ha, he, hj, storeSub, h, dput, hq]
  rw [if_pos hl]
  simp only
  rw [if_pos o]
theorem ex_subT {a e j : E} {i : Nat} {u : U} {ks : List (List Key)} {vs : List U} {v : U} {q : List Key} (he : evalE cal n0 e σ μ = some (u, μ)) (ha : evalE cal n0 a σ μ = some (.ob i, μ)) (hj : evalE cal n0 j σ μ = some (v, μ)) (hq : tky v = some q) (h : μ[i]? = some (.dt ks vs)) (hl : ks.length < SZ) (ho : n0 ≤ i) :
    exS cal n0 (.sub a j e) σ μ = some (.nx σ (μ.set i (.dt (ptk ks q) (pt ks vs q u)))) := by
  have o : okw n0 i u = true := by simp [okw, ho]
  simp only [exS, ha, he, hj, storeSub, h, dput, hq]
  rw [if_pos hl]
  simp only
  rw [if_pos o]
theorem ex_seq {s : S} {ss : List S} {σ' : Env} {μ' : Mu} (h : exS cal n0 s σ μ = some (.nx σ' μ')) : exL cal n0 (s :: ss) σ μ = exL cal n0 ss σ' μ' := by simp only [exL, h]
theorem ex_nil : exL cal n0 [] σ μ = some (.nx σ μ) := by simp only [exL]
theorem ev_var {i : Nat} {u : U} (h : σ[i]? = some (some u)) : evalE cal n0 (.var i) σ μ = some (u, μ) := by simp only [evalE, h]
theorem ev_idxL {a i : E} {u w : U} {j : Int} {xs : List U} (ha : evalE cal n0 a σ μ = some (u, μ)) (hi : evalE cal n0 i σ μ = some (.int j, μ)) (hc : cont μ u = some (.lst xs)) (h : atI xs j = some w) : evalE cal n0 (.idx a i) σ μ = some (w, μ) := by
  simp only [evalE, ha, hi, evIdx, hc, h]
theorem ev_idxT {a i : E} {w : U} {j : Int} {xs : List U} (ha : evalE cal n0 a σ μ = some (.tup xs, μ)) (hi : evalE cal n0 i σ μ = some (.int j, μ)) (h : atI xs j = some w) : evalE cal n0 (.idx a i) σ μ = some (w, μ) := by
  simp only [evalE, ha, hi, evIdx, cont, h]
theorem ev_idxK {a i : E} {u v w : U} {ks : List Key} {vs : List U} {q : Key} (ha : evalE cal n0 a σ μ = some (u, μ)) (hi : evalE cal n0 i σ μ = some (v, μ)) (hc : cont μ u = some (.dk ks vs)) (hq : sky v = some q) (h : lk ks vs q = some w) : evalE cal n0 (.idx a i) σ μ = some (w, μ) := by
  simp only [evalE, ha, hi, evIdx, hc, dget, hq, h]
  rfl
variable {μ' μ1 μ2 : Mu} {e a b c : E} {u v w : U} {us : List U} {es : List E}
theorem ex_set {i : Nat} (h : evalE cal n0 e σ μ = some (u, μ')) : exS cal n0 (.set i e) σ μ = some (.nx (σ.set i (some u)) μ') := by simp only [exS, h]
theorem ex_ret {ss : List S} (h : evalE cal n0 e σ μ = some (u, μ')) : exL cal n0 (.ret e :: ss) σ μ = some (.rt u μ') := by simp only [exL, exS, h]
theorem ex_par {is : List Nat} {σ' : Env} (h : evalL cal n0 es σ μ = some (us, μ')) (hb : bindI is us σ = some σ') : exS cal n0 (.par is es) σ μ = some (.nx σ' μ') := by simp only [exS, h, hb]
theorem ex_asg {p : Pt} {σ' : Env} (h : evalE cal n0 e σ μ = some (u, μ')) (hb : bindP μ' p u σ = some σ') : exS cal n0 (.asg p e) σ μ = some (.nx σ' μ') := by simp only [exS, h, hb]
theorem ex_ifT {t f : List S} (hc : evalE cal n0 c σ μ = some (u, μ1)) (ht : truth μ1 u = some true) : exS cal n0 (.iff c t f) σ μ = exL cal n0 t σ μ1 := by simp only [exS, hc, ht]
theorem ex_ifF {t f : List S} (hc : evalE cal n0 c σ μ = some (u, μ1)) (ht : truth μ1 u = some false) : exS cal n0 (.iff c t f) σ μ = exL cal n0 f σ μ1 := by simp only [exS, hc, ht]
theorem ex_ex (h : evalE cal n0 e σ μ = some (u, μ')) : exS cal n0 (.ex e) σ μ = some (.nx σ μ') := by simp only [exS, h]
theorem ev_lnil : evalL cal n0 [] σ μ = some ([], μ) := by simp only [evalL]
theorem ev_lcons (h : evalE cal n0 e σ μ = some (u, μ1)) (hs : evalL cal n0 es σ μ1 = some (us, μ2)) : evalL cal n0 (e :: es) σ μ = some (u :: us, μ2) := by simp only [evalL, h, hs]
theorem ev_l1 (h : evalE cal n0 e σ μ = some (u, μ1)) : evalL cal n0 [e] σ μ = some ([u], μ1) := ev_lcons h ev_lnil
theorem ev_l2 (h : evalE cal n0 a σ μ = some (u, μ1)) (h2 : evalE cal n0 b σ μ1 = some (v, μ2)) : evalL cal n0 [a, b] σ μ = some ([u, v], μ2) := ev_lcons h (ev_l1 h2)
theorem ev_call {f : Nat} {r : U × Mu} (h : evalL cal n0 es σ μ = some (us, μ1)) (hc : cal f us μ1 = some r) : evalE cal n0 (.call f es) σ μ = some r := by simp only [evalE, h, hc]
theorem ev_bin {al : Bool} {op : Bo} {r : U × Mu} (ha : evalE cal n0 a σ μ = some (u, μ1)) (hb : evalE cal n0 b σ μ1 = some (v, μ2)) (h : evBin al μ2 op u v = some r) : evalE cal n0 (.bin al op a b) σ μ = some r := by simp only [evalE, ha, hb, h]
theorem ev_cmp {op : Co} {d : Bool} (ha : evalE cal n0 a σ μ = some (u, μ1)) (hb : evalE cal n0 b σ μ1 = some (v, μ2)) (h : evCmp μ2 op u v = some d) : evalE cal n0 (.cmp op a b) σ μ = some (.bl d, μ2) := by simp only [evalE, ha, hb, h]
theorem ev_col {al : Bool} {cl : Cl} {ik : Ik} {xs : List U} {r : U × Mu} (h : evalL cal n0 es σ μ = some (us, μ1)) (hi : items μ1 cl ik us = some xs) (he : evCol al μ1 cl xs = some r) : evalE cal n0 (.col al cl ik es) σ μ = some r := by simp only [evalE, h, hi, he]
theorem ev_bi {bb : Bi} (h : evalL cal n0 es σ μ = some (us, μ1)) (hb : evBi μ1 bb us = some u) : evalE cal n0 (.bi bb es) σ μ = some (u, μ1) := by simp only [evalE, h, hb]
theorem ev_not {d : Bool} (ha : evalE cal n0 a σ μ = some (u, μ1)) (ht : truth μ1 u = some d) : evalE cal n0 (.not a) σ μ = some (.bl !d, μ1) := by simp only [evalE, ha, ht]
theorem ev_tup (h : evalL cal n0 es σ μ = some (us, μ1)) (hl : us.length ≤ SZ) : evalE cal n0 (.tup es) σ μ = some (.tup us, μ1) := by
  simp only [evalE, h]
  rw [if_pos hl]
theorem fin_cut {n : Nat} (hf : frz n μ1 D0 u = some v) (ht : μ1.take n = μ) : R.finish false n u μ1 = some (v, μ) := by simp [R.finish, hf, ht]
/-- a comprehension's turn -/
theorem cs_yes {p : Pt} {ws : List Nat} {x : U} {σ' : Env} (hb : bindP μ p x (wipeE σ ws) = some σ') (h : evalE cal n0 e σ' μ = some (u, μ1)) : cstep cal n0 p (.bl true) e ws σ x μ = some (some u, μ1) := by simp only [cstep, hb, evalE, truth, h]
theorem cs_if {p : Pt} {ws : List Nat} {x : U} {σ' : Env} (hb : bindP μ p x (wipeE σ ws) = some σ') (hc : evalE cal n0 c σ' μ = some (v, μ1)) (ht : truth μ1 v = some true) (h : evalE cal n0 e σ' μ1 = some (u, μ2)) : cstep cal n0 p c e ws σ x μ = some (some u, μ2) := by simp only [cstep, hb, hc, ht, h]
theorem cs_no {p : Pt} {ws : List Nat} {x : U} {σ' : Env} (hb : bindP μ p x (wipeE σ ws) = some σ') (hc : evalE cal n0 c σ' μ = some (v, μ1)) (ht : truth μ1 v = some false) : cstep cal n0 p c e ws σ x μ = some (none, μ1) := by simp only [cstep, hb, hc, ht]
end
def endO (keep : Bool) (n : Nat) : Option Out → Option (U × Mu)
  | some (.rt u μ1) => R.finish keep n u μ1
  | some (.nx _ μ1) => R.finish keep n .non μ1
  | _ => none
theorem run_rt {o : Option Out} {u : U} {μ1 : Mu} {r : U × Mu} {keep : Bool} {n : Nat} (h : o = some (.rt u μ1)) (hf : R.finish keep n u μ1 = some r) : endO keep n o = some r := by subst h; exact hf
theorem run_nx {o : Option Out} {σ : Env} {μ1 : Mu} {r : U × Mu} {keep : Bool} {n : Nat} (h : o = some (.nx σ μ1)) (hf : R.finish keep n .non μ1 = some r) : endO keep n o = some r := by subst h; exact hf
end R

set_option Elab.async false
set_option linter.all false
set_option maxRecDepth 100000
set_option maxHeartbeats 4000000
/-! M1: more rules; plain values; numbers, pairs and lists of them in order -/
namespace R
open PySem L2
section
variable {cal : Nat → List U → Mu → Option (U × Mu)} {n0 : Nat} {σ : R.Env} {μ μ1 μ2 μ3 : Mu} {a b c d e lo hi : E} {xs ys : List U} {l h u v w : U} {l' h' : Option Int} {es : List E} {us : List U}
theorem ev_int {i : Int} : evalE cal n0 (.int i) σ μ = some (.int i, μ) := by simp only [evalE]
theorem ev_gint {i : Int} : evalE cal n0 (.gint i) σ μ = some (.int i, μ) := by simp only [evalE]
theorem ev_bl {b : Bool} : evalE cal n0 (.bl b) σ μ = some (.bl b, μ) := by simp only [evalE]
theorem ev_non : evalE cal n0 .non σ μ = some (.non, μ) := by simp only [evalE]
theorem ev_str {x : Str} : evalE cal n0 (.str x) σ μ = some (.str x, μ) := by simp only [evalE]
theorem ev_neg {i : Int} (h : evalE cal n0 a σ μ = some (.int i, μ1)) : evalE cal n0 (.neg a) σ μ = some (.int (-i), μ1) := by simp only [evalE, h]
theorem ev_slc {r : U × Mu} (ha : evalE cal n0 a σ μ = some (u, μ1)) (hl : evalE cal n0 lo σ μ1 = some (l, μ2)) (hh : evalE cal n0 hi σ μ2 = some (h, μ3)) (hs : evSlc al μ3 u l h = some r) : evalE cal n0 (.slc al a lo hi) σ μ = some r := by
  simp only [evalE, ha, hl, hh, hs]
theorem ev_rev {r : U × Mu} (ha : evalE cal n0 a σ μ = some (u, μ1)) (hs : evRev al μ1 u = some r) : evalE cal n0 (.rev al a) σ μ = some r := by simp only [evalE, ha, hs]
theorem ev_revT (ha : evalE cal n0 a σ μ = some (.tup xs, μ1)) : evalE cal n0 (.rev false a) σ μ = some (.tup xs.reverse, μ1) := ev_rev ha rfl
theorem ev_slcT (ha : evalE cal n0 a σ μ = some (.tup xs, μ1)) (hl : evalE cal n0 lo σ μ1 = some (l, μ1)) (hh : evalE cal n0 hi σ μ1 = some (h, μ1)) (bl : bnd l = some l') (bh : bnd h = some h') : evalE cal n0 (.slc false a lo hi) σ μ = some (.tup (cutU xs l' h'), μ1) := by
  simp only [evalE, ha, hl, hh, evSlc, bl, bh]
theorem ev_addT (ha : evalE cal n0 a σ μ = some (.tup xs, μ1)) (hb : evalE cal n0 b σ μ1 = some (.tup ys, μ2)) (hz : xs.length + ys.length ≤ SZ) : evalE cal n0 (.bin false .add a b) σ μ = some (.tup (xs ++ ys), μ2) := by
  refine ev_bin ha hb ?_
  simp only [evBin]
  rw [if_pos hz]
theorem ev_addL (ha : evalE cal n0 a σ μ = some (.lst xs, μ1)) (hb : evalE cal n0 b σ μ1 = some (.lst ys, μ2)) (hz : xs.length + ys.length ≤ SZ) : evalE cal n0 (.bin false .add a b) σ μ = some (.lst (xs ++ ys), μ2) := by
  refine ev_bin ha hb ?_
  simp only [evBin, asL]
  rw [if_pos hz]
  rfl
theorem ev_lst (h : evalL cal n0 es σ μ = some (us, μ1)) (hl : us.length ≤ SZ) : evalE cal n0 (.lst false es) σ μ = some (.lst us, μ1) := by
  simp only [evalE, h]
  rw [if_pos hl]
  rfl
theorem ev_lstA (h : evalL cal n0 es σ μ = some (us, μ1)) (hl : us.length ≤ SZ) : evalE cal n0 (.lst true es) σ μ = some (.ob μ1.length, μ1 ++ [.lst us]) := by
  simp only [evalE, h]
  rw [if_pos hl]
  rfl
theorem ev_idx (ha : evalE cal n0 a σ μ = some (u, μ1)) (hi : evalE cal n0 b σ μ1 = some (v, μ2)) (h : evIdx μ2 u v = some w) : evalE cal n0 (.idx a b) σ μ = some (w, μ2) := by
  simp only [evalE, ha, hi, h]
theorem ev_idxT1 {j : Int} (ha : evalE cal n0 a σ μ = some (.tup xs, μ1)) (hi : evalE cal n0 b σ μ1 = some (.int j, μ2)) (h : atI xs j = some w) : evalE cal n0 (.idx a b) σ μ = some (w, μ2) := ev_idx ha hi (by simp only [evIdx, cont, h])
theorem ev_idxL1 {j : Int} (ha : evalE cal n0 a σ μ = some (u, μ1)) (hi : evalE cal n0 b σ μ1 = some (.int j, μ2)) (hc : cont μ2 u = some (.lst xs)) (h : atI xs j = some w) : evalE cal n0 (.idx a b) σ μ = some (w, μ2) := by
  simp only [evalE, ha, hi, evIdx, hc, h]
theorem ev_isi {t : Ty} {r : Bool} (ha : evalE cal n0 a σ μ = some (u, μ1)) (h : evIsi μ1 u t = some r) : evalE cal n0 (.isi a t) σ μ = some (.bl r, μ1) := by simp only [evalE, ha, h]
theorem ev_iteT {r : Option (U × Mu)} (hc : evalE cal n0 c σ μ = some (u, μ1)) (ht : truth μ1 u = some true) (h : evalE cal n0 a σ μ1 = r) : evalE cal n0 (.ite c a b) σ μ = r := by simp only [evalE, hc, ht, h]
theorem ev_iteF {r : Option (U × Mu)} (hc : evalE cal n0 c σ μ = some (u, μ1)) (ht : truth μ1 u = some false) (h : evalE cal n0 b σ μ1 = r) : evalE cal n0 (.ite c a b) σ μ = r := by simp only [evalE, hc, ht, h]
theorem ev_andF (ha : evalE cal n0 a σ μ = some (.bl false, μ1)) : evalE cal n0 (.bool true (a :: b :: es)) σ μ = some (.bl false, μ1) := by
  simp only [evalE, evalB, ha, truth]
  rfl
theorem ev_andT {r : Option (U × Mu)} (ha : evalE cal n0 a σ μ = some (.bl true, μ1)) (hb : evalE cal n0 (.bool true (b :: es)) σ μ1 = r) : evalE cal n0 (.bool true (a :: b :: es)) σ μ = r := by
  simp only [evalE] at hb
  simp only [evalE, evalB, ha, truth]
  exact hb
theorem ev_orT (ha : evalE cal n0 a σ μ = some (.bl true, μ1)) : evalE cal n0 (.bool false (a :: b :: es)) σ μ = some (.bl true, μ1) := by
  simp only [evalE, evalB, ha, truth]
  rfl
theorem ev_orF {r : Option (U × Mu)} (ha : evalE cal n0 a σ μ = some (.bl false, μ1)) (hb : evalE cal n0 (.bool false (b :: es)) σ μ1 = r) : evalE cal n0 (.bool false (a :: b :: es)) σ μ = r := by
  simp only [evalE] at hb
  simp only [evalE, evalB, ha, truth]
  exact hb
theorem ev_b1 {t : Bool} {r : Option (U × Mu)} (ha : evalE cal n0 a σ μ = r) : evalE cal n0 (.bool t [a]) σ μ = r := by
  simp only [evalE, evalB]
  exact ha
/-- and, or of two known truths -/
theorem ev_and2 {p q : Bool} (ha : evalE cal n0 a σ μ = some (.bl p, μ)) (hb : evalE cal n0 b σ μ = some (.bl q, μ)) : evalE cal n0 (.bool true [a, b]) σ μ = some (.bl (p && q), μ) := by
  cases p
  · exact ev_andF ha
  · exact ev_andT ha (ev_b1 hb)
theorem ev_or2 {p q : Bool} (ha : evalE cal n0 a σ μ = some (.bl p, μ)) (hb : evalE cal n0 b σ μ = some (.bl q, μ)) : evalE cal n0 (.bool false [a, b]) σ μ = some (.bl (p || q), μ) := by
  cases p
  · exact ev_orF ha (ev_b1 hb)
  · exact ev_orT ha
theorem ev_itms (ha : evalE cal n0 a σ μ = some (u, μ1)) (h : itmU μ1 u = some xs) : evalE cal n0 (.itms a) σ μ = some (.lst xs, μ1) := by simp only [evalE, ha, h]
theorem ex_subL {j : E} {i : Nat} {jj : Int} {q : Nat} (he : evalE cal n0 e σ μ = some (u, μ1)) (ha : evalE cal n0 a σ μ1 = some (.ob i, μ1)) (hj : evalE cal n0 j σ μ1 = some (.int jj, μ1)) (h : μ1[i]? = some (.lst xs)) (hq : ixN xs.length jj = some q) (ho : okw n0 i u = true) :
    exS cal n0 (.sub a j e) σ μ = some (.nx σ (μ1.set i (.lst (xs.set q u)))) := by
  simp only [exS, he, ha, hj, storeSub, h, hq, ho]
  rfl
theorem ex_subT1 {j : E} {i : Nat} {ks : List (List Key)} {vs : List U} {q : List Key} (he : evalE cal n0 e σ μ = some (u, μ)) (ha : evalE cal n0 a σ μ = some (.ob i, μ)) (hj : evalE cal n0 j σ μ = some (v, μ1)) (hq : tky v = some q) (h : μ1[i]? = some (.dt ks vs)) (hl : ks.length < SZ) (ho : n0 ≤ i) :
    exS cal n0 (.sub a j e) σ μ = some (.nx σ (μ1.set i (.dt (ptk ks q) (pt ks vs q u)))) := by
  have o : okw n0 i u = true := by simp [okw, ho]
  simp only [exS, ha, he, hj, storeSub, h, dput, hq]
  rw [if_pos hl]
  simp only
  rw [if_pos o]
theorem sto {j : E} {i : Nat} {jj : Int} {q : Nat} (ha : evalE cal n0 a σ μ = some (.ob i, μ)) (hj : evalE cal n0 j σ μ = some (.int jj, μ)) (h : μ[i]? = some (.lst xs)) (hq : ixN xs.length jj = some q) (ho : okw n0 i u = true) :
    storeTo cal n0 a j u σ μ = some (μ.set i (.lst (xs.set q u))) := by
  simp only [storeTo, ha, hj, storeSub, h, hq, ho]
  rfl
theorem ex_asg2 {j a' j' : E} (he : evalE cal n0 e σ μ = some (u, μ1)) (h1 : storeTo cal n0 a j u σ μ1 = some μ2) (h2 : storeTo cal n0 a' j' u σ μ2 = some μ3) : exS cal n0 (.asg2 a j a' j' e) σ μ = some (.nx σ μ3) := by
  simp only [exS, he, h1, h2]
theorem ex_sub2 {j a' j' e' : E} {μ4 : Mu} (he : evalE cal n0 e σ μ = some (u, μ1)) (he' : evalE cal n0 e' σ μ1 = some (v, μ2)) (h1 : storeTo cal n0 a j u σ μ2 = some μ3) (h2 : storeTo cal n0 a' j' v σ μ3 = some μ4) : exS cal n0 (.sub2 a j a' j' e e') σ μ = some (.nx σ μ4) := by
  simp only [exS, he, he', h1, h2]
theorem ex_appendA {al : Bool} {i : Nat} (ha : evalE cal n0 a σ μ = some (.ob i, μ)) (hs : (asL μ (.ob i)).isSome = true) (he : evalE cal n0 e σ μ = some (u, μ1)) (h : μ1[i]? = some (.lst xs)) (hl : xs.length < SZ) (ho : okw n0 i u = true) :
    exS cal n0 (.ex (.me al .append a [e])) σ μ = some (.nx σ (μ1.set i (.lst (xs ++ [u])))) := by
  simp only [exS, evalE, evalL, ha, he, okm, hs, evMe, h]
  rw [if_pos ⟨hl, ho⟩]
end
theorem ixN_nat {n j : Nat} (h : j < n) : ixN n (j : Int) = some j := by
  unfold ixN
  rw [if_pos (by omega)]
  simp [h]
theorem walk_rng {μ : Mu} {n : Nat} (h : n < 2 ^ 60) : walk μ .rng [I n] = some (.inl ((List.range n).map I)) := by
  simp only [walk]
  rw [if_pos (by omega), rgn_nat]
theorem walk_1 {μ : Mu} {n : Nat} (hn : n < 2 ^ 60) : walk μ .rng [.int 1, I n] = some (.inl ((List.range (n - 1)).map fun i => I (1 + i))) := by
  simp only [walk]
  rw [if_pos (by omega), show (1 : Int) = ((1 : Nat) : Int) from rfl, rgn_nats]
theorem map_at {α : Type} {f : α → U} {l : List α} {i : Nat} {x : U} (hx : (l.map f)[i]? = some x) : ∃ a, l[i]? = some a ∧ a ∈ l ∧ x = f a := by
  rw [List.getElem?_map] at hx
  cases h : l[i]? with
  | none => rw [h] at hx; cases hx
  | some a => rw [h] at hx; exact ⟨a, rfl, List.mem_of_getElem? h, (Option.some.inj hx).symm⟩
theorem rng_at {n i : Nat} {x : U} (hx : ((List.range n).map I)[i]? = some x) : i < n ∧ x = I i := by
  obtain ⟨a, h1, _, h2⟩ := map_at hx
  have := List.getElem?_eq_some_iff.mp h1
  obtain ⟨h3, h4⟩ := this
  simp at h3 h4
  subst h4
  exact ⟨h3, h2⟩
theorem eq_int (μ : Mu) (i j : Int) : evEq μ (.int i) (.int j) = some (decide (i = j)) := by
  simp only [evEq, dat_int, PyData.eqv]
  congr 1
theorem eq_yes {μ : Mu} {a b : Nat} (h : a = b) : evCmp μ .eq (I a) (I b) = some true := by
  subst h
  simp only [evCmp, eq_int, decide_true]
theorem eq_no {μ : Mu} {a b : Nat} (h : a ≠ b) : evCmp μ .eq (I a) (I b) = some false := by
  simp only [evCmp, eq_int]
  rw [decide_eq_false (by omega)]
theorem eq_I {μ : Mu} {a b : Nat} : evCmp μ .eq (I a) (I b) = some (decide (a = b)) := by
  by_cases h : a = b
  · rw [eq_yes h, decide_eq_true h]
  · rw [eq_no h, decide_eq_false h]
theorem ne_no {μ : Mu} {a b : Nat} (h : a = b) : evCmp μ .ne (I a) (I b) = some false := by
  simp only [evCmp]
  subst h
  simp only [eq_int, decide_true]
  rfl
theorem ne_I {μ : Mu} {a b : Nat} : evCmp μ .ne (I a) (I b) = some (decide (a ≠ b)) := by
  simp only [evCmp, eq_int, neg?]
  congr 1
  by_cases h : a = b
  · subst h; simp
  · rw [decide_eq_true h, decide_eq_false (by omega)]; rfl
theorem lt_I {μ : Mu} {a b : Nat} : evCmp μ .lt (I a) (I b) = some (decide (a < b)) := by
  simp only [evCmp, evLt]
  congr 1
  exact decide_eq_decide.mpr (by omega)
theorem gt_I {μ : Mu} {a b : Nat} : evCmp μ .gt (I a) (I b) = some (decide (b < a)) := by
  simp only [evCmp, evLt]
  congr 1
  exact decide_eq_decide.mpr (by omega)
theorem sub_len {α : Type} [DecidableEq α] : ∀ {l q : List α}, l.Nodup → (∀ x ∈ l, x ∈ q) → l.length ≤ q.length
  | [], q, _, _ => by simp
  | a :: l, q, nd, h => by
    have ha := h a (by simp)
    have h1 := List.length_erase_of_mem ha
    have h2 := sub_len (l := l) (q := q.erase a) (List.nodup_cons.mp nd).2 fun x hx => by
      have hne : x ≠ a := fun z => (List.nodup_cons.mp nd).1 (z ▸ hx)
      exact (List.mem_erase_of_ne hne).mpr (h x (by simp [hx]))
    have : 0 < q.length := List.length_pos_of_mem ha
    simp
    omega
/-! ### plain values -/
inductive Pl (B : Nat) : Nat → U → Prop
  | non (d : Nat) : Pl B d .non
  | bl (d : Nat) (b : Bool) : Pl B d (.bl b)
  | int (d : Nat) (i : Int) : Pl B d (.int i)
  | str (d : Nat) (x : Str) : Pl B d (.str x)
  | tup {d : Nat} {xs : List U} (hz : xs.length ≤ B) (h : ∀ u ∈ xs, Pl B d u) : Pl B (d + 1) (.tup xs)
  | lst {d : Nat} {xs : List U} (hz : xs.length ≤ B) (h : ∀ u ∈ xs, Pl B d u) : Pl B (d + 1) (.lst xs)
theorem Pl.up {B B' d d' : Nat} (hB : B ≤ B') (hd : d ≤ d') {u : U} (h : Pl B d u) : Pl B' d' u := by
  induction h generalizing d' with
  | non => exact .non _
  | bl => exact .bl _ _
  | int => exact .int _ _
  | str => exact .str _ _
  | tup hz h ih =>
    obtain ⟨e, rfl⟩ : ∃ e, d' = e + 1 := ⟨d' - 1, by omega⟩
    exact .tup (by omega) fun u hu => ih u hu (by omega)
  | lst hz h ih =>
    obtain ⟨e, rfl⟩ : ∃ e, d' = e + 1 := ⟨d' - 1, by omega⟩
    exact .lst (by omega) fun u hu => ih u hu (by omega)
mutual
def tp : U → PyData
  | .non => .none
  | .bl b => .bool b
  | .int i => .int i
  | .str x => .str x
  | .tup xs => .tuple (tps xs)
  | .lst xs => .list (tps xs)
  | _ => .none
def tps : List U → List PyData
  | [] => []
  | x :: xs => tp x :: tps xs
end
theorem tps_map : ∀ xs : List U, tps xs = xs.map tp
  | [] => rfl
  | x :: xs => by simp [tps, tps_map xs]
theorem dat_tp (μ : Mu) {B d : Nat} {u : U} (h : Pl B d u) : ∀ {k : Nat}, d ≤ k → dat μ k u = some (tp u) := by
  induction h with
  | non => intro k _; cases k <;> rfl
  | bl => intro k _; cases k <;> rfl
  | int => intro k _; cases k <;> rfl
  | str => intro k _; cases k <;> rfl
  | @tup d xs hz h ih =>
    intro k hk
    obtain ⟨e, rfl⟩ : ∃ e, k = e + 1 := ⟨k - 1, by omega⟩
    have m := mapO_map (f := dat μ e) (g := id) (h := tp) (xs := xs) fun x hx => ih x hx (by omega)
    rw [List.map_id] at m
    simp only [dat, m, tp, tps_map]
  | @lst d xs hz h ih =>
    intro k hk
    obtain ⟨e, rfl⟩ : ∃ e, k = e + 1 := ⟨k - 1, by omega⟩
    have m := mapO_map (f := dat μ e) (g := id) (h := tp) (xs := xs) fun x hx => ih x hx (by omega)
    rw [List.map_id] at m
    simp only [dat, m, tp, tps_map]
theorem eqvAll_refl : ∀ {xs : List PyData}, (∀ x ∈ xs, PyData.eqv x x = true) → PyData.eqvAll xs xs = true
  | [], _ => by simp [PyData.eqvAll]
  | x :: xs, h => by
    simp only [PyData.eqvAll, Bool.and_eq_true]
    exact ⟨h x (by simp), eqvAll_refl fun y hy => h y (by simp [hy])⟩
theorem eqv_refl {B d : Nat} {u : U} (h : Pl B d u) : PyData.eqv (tp u) (tp u) = true := by
  induction h with
  | non => rfl
  | bl d b => cases b <;> rfl
  | int d i => simp [tp, PyData.eqv]
  | str d x => simp [tp, PyData.eqv]
  | tup hz h ih =>
    simp only [tp, PyData.eqv, tps_map]
    exact eqvAll_refl fun x hx => by
      obtain ⟨u, hu, rfl⟩ := List.mem_map.mp hx
      exact ih u hu
  | lst hz h ih =>
    simp only [tp, PyData.eqv, tps_map]
    exact eqvAll_refl fun x hx => by
      obtain ⟨u, hu, rfl⟩ := List.mem_map.mp hx
      exact ih u hu
theorem eq_self (μ : Mu) {B d : Nat} {u : U} (h : Pl B d u) (hd : d ≤ D0) : evEq μ u u = some true := by
  simp only [evEq, dat_tp μ h hd, eqv_refl h]
/-- numbers, nested -/
inductive Ni : Nat → U → Prop
  | int (d : Nat) (i : Int) : Ni d (.int i)
  | tup {d : Nat} {xs : List U} (h : ∀ u ∈ xs, Ni d u) : Ni (d + 1) (.tup xs)
  | lst {d : Nat} {xs : List U} (h : ∀ u ∈ xs, Ni d u) : Ni (d + 1) (.lst xs)
theorem dat_ni (μ : Mu) {d : Nat} {u : U} (h : Ni d u) : ∀ {k : Nat}, d ≤ k → dat μ k u = some (tp u) := by
  induction h with
  | int => intro k _; cases k <;> rfl
  | @tup d xs h ih =>
    intro k hk
    obtain ⟨e, rfl⟩ : ∃ e, k = e + 1 := ⟨k - 1, by omega⟩
    have m := mapO_map (f := dat μ e) (g := id) (h := tp) (xs := xs) fun x hx => ih x hx (by omega)
    rw [List.map_id] at m
    simp only [dat, m, tp, tps_map]
  | @lst d xs h ih =>
    intro k hk
    obtain ⟨e, rfl⟩ : ∃ e, k = e + 1 := ⟨k - 1, by omega⟩
    have m := mapO_map (f := dat μ e) (g := id) (h := tp) (xs := xs) fun x hx => ih x hx (by omega)
    rw [List.map_id] at m
    simp only [dat, m, tp, tps_map]
theorem eqvAll_ni : ∀ {xs ys : List U}, (∀ x ∈ xs, ∀ y ∈ ys, (PyData.eqv (tp x) (tp y) = true ↔ x = y)) → (PyData.eqvAll (xs.map tp) (ys.map tp) = true ↔ xs = ys)
  | [], [], _ => by simp [PyData.eqvAll]
  | [], y :: ys, _ => by simp [PyData.eqvAll]
  | x :: xs, [], _ => by simp [PyData.eqvAll]
  | x :: xs, y :: ys, h => by
    simp only [List.map_cons, PyData.eqvAll, Bool.and_eq_true]
    rw [h x (by simp) y (by simp), eqvAll_ni fun a ha b hb => h a (by simp [ha]) b (by simp [hb]), List.cons.injEq]
theorem eqv_ni {d : Nat} {u : U} (h : Ni d u) : ∀ {d' : Nat} {v : U}, Ni d' v → (PyData.eqv (tp u) (tp v) = true ↔ u = v) := by
  induction h with
  | int d i =>
    intro d' v hv
    cases hv with
    | int d' j => simp [tp, PyData.eqv]
    | tup _ => simp [tp, PyData.eqv]
    | lst _ => simp [tp, PyData.eqv]
  | @tup d xs h ih =>
    intro d' v hv
    cases hv with
    | int d' j => simp [tp, PyData.eqv]
    | tup h' =>
      simp only [tp, PyData.eqv, tps_map, U.tup.injEq]
      exact eqvAll_ni fun x hx y hy => ih x hx (h' y hy)
    | lst _ => simp [tp, PyData.eqv]
  | @lst d xs h ih =>
    intro d' v hv
    cases hv with
    | int d' j => simp [tp, PyData.eqv]
    | tup _ => simp [tp, PyData.eqv]
    | lst h' =>
      simp only [tp, PyData.eqv, tps_map, U.lst.injEq]
      exact eqvAll_ni fun x hx y hy => ih x hx (h' y hy)
/-- == of nested numbers -/
theorem eq_ni (μ : Mu) {d d' : Nat} {u v : U} (h : Ni d u) (h' : Ni d' v) (hd : d ≤ D0) (hd' : d' ≤ D0) : ∃ b, evEq μ u v = some b ∧ (b = true ↔ u = v) :=
  ⟨_, by simp only [evEq, dat_ni μ h hd, dat_ni μ h' hd'], eqv_ni h h'⟩
/-! ### pairs -/
abbrev pU (p : Nat × Nat) : U := .tup [I p.1, I p.2]
abbrev tU (n : Nat) (es : List (Nat × Nat)) : U := .tup [I n, .tup (es.map pU)]
def lex (p q : Nat × Nat) : Prop := p.1 < q.1 ∨ p.1 = q.1 ∧ p.2 < q.2
instance (p q : Nat × Nat) : Decidable (lex p q) := inferInstanceAs (Decidable (_ ∨ _))
theorem pU_inj {p q : Nat × Nat} (h : pU p = pU q) : p = q := by
  simp only [pU, I, U.tup.injEq, List.cons.injEq, U.int.injEq, and_true] at h
  exact Prod.ext (by omega) (by omega)
theorem chain_zip {α : Type} {R : α → α → Prop} : ∀ {l : List α}, l.Pairwise R → ∀ q ∈ l.zip (l.drop 1), R q.1 q.2
  | [], _, q, h => by simp at h
  | [a], _, q, h => by simp at h
  | a :: b :: l, hp, q, h => by
    simp only [List.drop_succ_cons, List.drop_zero, List.zip_cons_cons, List.mem_cons] at h
    rcases h with h | h
    · subst h
      exact (List.pairwise_cons.mp hp).1 b (by simp)
    · exact chain_zip (l := b :: l) (List.pairwise_cons.mp hp).2 q (by simpa using h)
theorem lex_lt {p q : Nat × Nat} (h : lex p q) (μ : Mu) : evLt μ (pU p) (pU q) = some true := by
  have e : PySem.W.dataLt (.tuple [.int p.1, .int p.2]) (.tuple [.int q.1, .int q.2]) = true := by
    rw [PySem.W.dataLt_ii]
    unfold lex at h
    simp
    omega
  simp [evLt, dat, mapO, D0, e, PySem.W.alike, PySem.W.alikeAll]
def lexLe (p q : Nat × Nat) : Bool := !decide (q.1 < p.1 ∨ q.1 = p.1 ∧ q.2 < p.2)
def srtP (K : List (Nat × Nat)) : List (Nat × Nat) := K.mergeSort lexLe
theorem srtP_mem (K : List (Nat × Nat)) (p : Nat × Nat) : p ∈ srtP K ↔ p ∈ K := (List.mergeSort_perm _ _).mem_iff
theorem srtP_len (K : List (Nat × Nat)) : (srtP K).length = K.length := List.length_mergeSort K
theorem lexLe_tr (a b c : Nat × Nat) (h1 : lexLe a b = true) (h2 : lexLe b c = true) : lexLe a c = true := by
  simp only [lexLe, Bool.not_eq_true', decide_eq_false_iff_not] at *
  omega
theorem lexLe_tot (a b : Nat × Nat) : (lexLe a b || lexLe b a) = true := by
  simp only [lexLe, Bool.or_eq_true, Bool.not_eq_true', decide_eq_false_iff_not]
  omega
theorem lexLe_as (a b : Nat × Nat) (h1 : lexLe a b = true) (h2 : lexLe b a = true) : a = b := by
  simp only [lexLe, Bool.not_eq_true', decide_eq_false_iff_not] at *
  exact Prod.ext (by omega) (by omega)
theorem srtP_le (K : List (Nat × Nat)) : (srtP K).Pairwise fun a b => lexLe a b = true := List.pairwise_mergeSort lexLe_tr lexLe_tot K
theorem srtP_asc {K : List (Nat × Nat)} (nd : K.Nodup) : (srtP K).Pairwise lex := by
  have h2 : (srtP K).Nodup := (List.mergeSort_perm K lexLe).nodup_iff.mpr nd
  refine (List.Pairwise.and (srtP_le K) h2).imp fun {a b} h => ?_
  obtain ⟨h, ne⟩ := h
  simp only [lexLe, Bool.not_eq_true', decide_eq_false_iff_not] at h
  unfold lex
  by_cases e : a.1 = b.1
  · by_cases e2 : a.2 = b.2
    · exact absurd (Prod.ext e e2) ne
    · omega
  · omega
/-- two orders of the same -/
theorem srtP_eq {K L : List (Nat × Nat)} (h : K.Perm L) : srtP K = srtP L := by
  have p : (srtP K).Perm (srtP L) := (List.mergeSort_perm K lexLe).trans (h.trans (List.mergeSort_perm L lexLe).symm)
  exact p.eq_of_pairwise (fun a b _ _ h1 h2 => lexLe_as a b h1 h2) (srtP_le K) (srtP_le L)
theorem srtP_self {K : List (Nat × Nat)} (h : K.Pairwise lex) : srtP K = K := by
  refine (List.mergeSort_perm K lexLe).eq_of_pairwise (fun a b _ _ h1 h2 => lexLe_as a b h1 h2) (srtP_le K) (h.imp fun {a b} z => ?_)
  simp only [lexLe, Bool.not_eq_true', decide_eq_false_iff_not]
  unfold lex at z
  omega
theorem srtd_pU (μ : Mu) (K : List (Nat × Nat)) (hl : K.length ≤ SZ) : srtd μ (K.map pU) = some ((srtP K).map pU) := by
  unfold srtd
  rw [mapO_map (f := dat μ D0) (h := fun p : Nat × Nat => PyData.tuple [.int p.1, .int p.2]) fun x _ => by simp [D0, dat, mapO]]
  simp only
  rw [if_pos]
  · congr 1
    have e : (K.map pU).zip (K.map fun p : Nat × Nat => PyData.tuple [.int p.1, .int p.2]) = K.map fun p => (pU p, PyData.tuple [.int p.1, .int p.2]) := List.zip_map'
    rw [e, ← List.map_mergeSort (r := lexLe) (s := PySem.W.dataLe false Prod.snd) (f := fun p : Nat × Nat => (pU p, PyData.tuple [.int p.1, .int p.2]))]
    · rw [List.map_map]; rfl
    · intro a _ b _
      show _ = !PySem.W.dataLt (.tuple [.int b.1, .int b.2]) (.tuple [.int a.1, .int a.2])
      rw [PySem.W.dataLt_ii]
      unfold lexLe
      congr 1
      rw [Bool.eq_iff_iff]
      simp
      omega
  · simp only [Bool.and_eq_true, decide_eq_true_eq, Bool.or_eq_true, List.all_eq_true]
    refine ⟨⟨fun d hd e he => ?_, .inl fun d hd => ?_⟩, by simpa using hl⟩
    · obtain ⟨i, _, rfl⟩ := List.mem_map.mp hd
      obtain ⟨j, _, rfl⟩ := List.mem_map.mp he
      simp [PySem.W.alike, PySem.W.alikeAll]
    · obtain ⟨i, _, rfl⟩ := List.mem_map.mp hd
      rfl
/-! ### numbers in order -/
def srt (r : List Nat) : List Nat := r.mergeSort fun a b => decide (a ≤ b)
theorem srt_mem (r : List Nat) (h : Nat) : h ∈ srt r ↔ h ∈ r := (List.mergeSort_perm _ _).mem_iff
theorem srt_U (r : List Nat) : ((r.map fun (x : Nat) => (x : Int)).mergeSort fun a b => decide (a ≤ b)).map U.int = (srt r).map I := by
  unfold srt
  rw [← List.map_mergeSort (r := fun a b => decide (a ≤ b)) (s := fun a b => decide (a ≤ b)) (f := fun (x : Nat) => (x : Int))]
  · rw [List.map_map]; rfl
  · intro a _ b _; simp
theorem srtd_I (μ : Mu) (r : List Nat) (h : r.length ≤ SZ) : srtd μ (r.map I) = some ((srt r).map I) := by
  have := srtd_ints μ (r.map fun (x : Nat) => (x : Int)) (by simpa using h)
  rw [srt_U, List.map_map] at this
  exact this
theorem srt_le (r : List Nat) : (srt r).Pairwise fun a b => a ≤ b := by
  have := List.pairwise_mergeSort (le := fun a b : Nat => decide (a ≤ b)) (fun a b c h1 h2 => by simp at *; omega) (fun a b => by simp; omega) r
  exact this.imp fun h => by simpa using h
/-- the ascending list of a set of numbers below n -/
theorem srt_filter {n : Nat} {r : List Nat} {p : Nat → Bool} (nd : r.Nodup) (h : ∀ x, x ∈ r ↔ x < n ∧ p x = true) : srt r = (List.range n).filter p := by
  have pm : r.Perm ((List.range n).filter p) := (List.perm_ext_iff_of_nodup nd (List.nodup_range.filter _)).mpr fun x => by simp [h]
  refine ((List.mergeSort_perm r _).trans pm).eq_of_pairwise (fun a b _ _ h1 h2 => Nat.le_antisymm h1 h2) (srt_le r) ?_
  exact (List.Pairwise.filter _ (List.pairwise_lt_range (n := n))).imp fun h => Nat.le_of_lt h
/-! ### dicts of numbers -/
theorem dkI_lk (ks : List Nat) : True := trivial
abbrev kP (p : Nat × Nat) : List Key := [kI p.1, kI p.2]
abbrev dtK (K : List (Nat × Nat)) : U := .dt (K.map kP) (K.map fun _ => .bl true)
def ins (K : List (Nat × Nat)) (q : Nat × Nat) : List (Nat × Nat) := if q ∈ K then K else K ++ [q]
theorem kP_inj {p q : Nat × Nat} (h : kP p = kP q) : p = q := by
  simp only [kP, kI, List.cons.injEq, Sum.inl.injEq, and_true] at h
  exact Prod.ext (by omega) (by omega)
theorem kP_mem {K : List (Nat × Nat)} {q : Nat × Nat} : kP q ∈ K.map kP ↔ q ∈ K := by
  constructor
  · intro h
    obtain ⟨p, hp, e⟩ := List.mem_map.mp h
    exact kP_inj e ▸ hp
  · exact fun h => List.mem_map.mpr ⟨q, h, rfl⟩
theorem rpl_true {κ : Type} [DecidableEq κ] {α : Type} (f : α → κ) (q : κ) : ∀ K : List α, rpl (K.map f) (K.map fun _ => U.bl true) q (.bl true) = K.map fun _ => U.bl true
  | [] => rfl
  | p :: K => by
    simp only [List.map_cons, rpl, rpl_true f q K, ite_self]
theorem dtK_put (K : List (Nat × Nat)) (q : Nat × Nat) : U.dt (ptk (K.map kP) (kP q)) (pt (K.map kP) (K.map fun _ => U.bl true) (kP q) (.bl true)) = dtK (ins K q) := by
  unfold ptk pt ins
  by_cases h : q ∈ K
  · rw [if_pos (kP_mem.mpr h), if_pos (kP_mem.mpr h), if_pos h, rpl_true]
  · rw [if_neg (fun z => h (kP_mem.mp z)), if_neg (fun z => h (kP_mem.mp z)), if_neg h]
    simp
theorem ins_mem {K : List (Nat × Nat)} {p q : Nat × Nat} : p ∈ ins K q ↔ p ∈ K ∨ p = q := by
  unfold ins
  by_cases h : q ∈ K
  · rw [if_pos h]
    constructor
    · exact .inl
    · rintro (z | z)
      · exact z
      · exact z ▸ h
  · rw [if_neg h]; simp
theorem ins_nd {K : List (Nat × Nat)} {q : Nat × Nat} (nd : K.Nodup) : (ins K q).Nodup := by
  unfold ins
  by_cases h : q ∈ K
  · rw [if_pos h]; exact nd
  · rw [if_neg h, List.nodup_append]
    exact ⟨nd, by simp, fun a ha b hb z => by simp at hb; subst hb; exact h (z ▸ ha)⟩
theorem ins_len {K : List (Nat × Nat)} {q : Nat × Nat} : (ins K q).length ≤ K.length + 1 := by
  unfold ins
  by_cases h : q ∈ K
  · rw [if_pos h]; omega
  · rw [if_neg h]; simp
/-- a set of numbers as a dict -/
abbrev dkI (K : List Nat) : U := .dk (K.map kI) (K.map fun _ => .bl true)
def insN (K : List Nat) (q : Nat) : List Nat := if q ∈ K then K else K ++ [q]
theorem dkI_put (K : List Nat) (q : Nat) : U.dk (ptk (K.map kI) (kI q)) (pt (K.map kI) (K.map fun _ => U.bl true) (kI q) (.bl true)) = dkI (insN K q) := by
  unfold ptk pt insN
  by_cases h : q ∈ K
  · rw [if_pos (kI_mem.mpr h), if_pos (kI_mem.mpr h), if_pos h, rpl_true]
  · rw [if_neg (fun z => h (kI_mem.mp z)), if_neg (fun z => h (kI_mem.mp z)), if_neg h]
    simp
theorem insN_mem {K : List Nat} {p q : Nat} : p ∈ insN K q ↔ p ∈ K ∨ p = q := by
  unfold insN
  by_cases h : q ∈ K
  · rw [if_pos h]
    constructor
    · exact .inl
    · rintro (z | z)
      · exact z
      · exact z ▸ h
  · rw [if_neg h]; simp
theorem insN_nd {K : List Nat} {q : Nat} (nd : K.Nodup) : (insN K q).Nodup := by
  unfold insN
  by_cases h : q ∈ K
  · rw [if_pos h]; exact nd
  · rw [if_neg h, List.nodup_append]
    exact ⟨nd, by simp, fun a ha b hb z => by simp at hb; subst hb; exact h (z ▸ ha)⟩
/-- dict(pairs), all true -/
abbrev kvU (h : Nat) : U := .tup [I h, .bl true]
theorem merge_dkI : ∀ (l K : List Nat), K.length + l.length ≤ SZ → mergeU false (l.map fun h => (I h, U.bl true)) (dkI K) = some (dkI (l.foldl insN K))
  | [], K, _ => rfl
  | h :: l, K, hz => by
    simp only [List.map_cons, mergeU, dput, sky]
    rw [if_pos (by simp at hz ⊢; omega)]
    simp only
    rw [show (Sum.inl ((h : Nat) : Int) : Key) = kI h from rfl, dkI_put]
    refine merge_dkI l (insN K h) ?_
    have : (insN K h).length ≤ K.length + 1 := by unfold insN; split <;> simp
    simp at hz
    omega
theorem col_dkI (μ : Mu) (l : List Nat) (hz : l.length ≤ SZ) : evCol false μ (.dict false) (l.map kvU) = some (dkI (l.foldl insN []), μ) := by
  simp only [evCol]
  rw [mapO_map (f := pairKV) (h := fun h => (I h, U.bl true)) fun x _ => rfl]
  simp only
  have := merge_dkI l [] (by simpa using hz)
  simp only [dkI, List.map_nil] at this
  rw [this]
  rfl
theorem merge_dtK : ∀ (l K : List (Nat × Nat)), K.length + l.length ≤ SZ → mergeU true (l.map fun p => (pU p, U.bl true)) (dtK K) = some (dtK (l.foldl ins K))
  | [], K, _ => rfl
  | p :: l, K, hz => by
    simp only [List.map_cons, mergeU, dput]
    rw [show tky (pU p) = some (kP p) from rfl]
    simp only
    rw [if_pos (by simp at hz ⊢; omega)]
    simp only
    rw [dtK_put]
    refine merge_dtK l (ins K p) ?_
    have := @ins_len K p
    simp at hz
    omega
theorem foldl_insN_mem (l : List Nat) : ∀ (K : List Nat) (x : Nat), x ∈ l.foldl insN K ↔ x ∈ K ∨ x ∈ l := by
  induction l with
  | nil => intro K x; simp
  | cons h l ih => intro K x; rw [List.foldl_cons, ih, insN_mem, List.mem_cons, or_assoc]
theorem foldl_insN_nd (l : List Nat) : ∀ (K : List Nat), K.Nodup → (l.foldl insN K).Nodup := by
  induction l with
  | nil => intro K h; exact h
  | cons h l ih => intro K nd; exact ih _ (insN_nd nd)
theorem foldl_ins_nd (l : List (Nat × Nat)) : ∀ (K : List (Nat × Nat)), K.Nodup → (l.foldl ins K).Nodup := by
  induction l with
  | nil => intro K h; exact h
  | cons h l ih => intro K nd; exact ih _ (ins_nd nd)
theorem foldl_ins_mem (l : List (Nat × Nat)) : ∀ (K : List (Nat × Nat)) (x : Nat × Nat), x ∈ l.foldl ins K ↔ x ∈ K ∨ x ∈ l := by
  induction l with
  | nil => intro K x; simp
  | cons h l ih => intro K x; rw [List.foldl_cons, ih, ins_mem, List.mem_cons, or_assoc]
end R

set_option Elab.async false
set_option linter.all false
set_option maxRecDepth 100000
set_option maxHeartbeats 4000000
/-! M2: flat tuples and lists of plain values whose parts need not be told -/
namespace R
open PySem L2
theorem cutU_mem {xs : List U} {l h : Option Int} {u : U} (z : u ∈ cutU xs l h) : u ∈ xs := List.mem_of_mem_drop (List.mem_of_mem_take z)
theorem cutU_len (xs : List U) (l h : Option Int) : (cutU xs l h).length ≤ xs.length := by
  unfold cutU
  rw [List.length_take, List.length_drop]
  omega
theorem insI_len (x : Int) : ∀ l : List Int, (insI x l).length ≤ l.length + 1
  | [] => by simp [insI]
  | y :: l => by
    have := insI_len x l
    simp only [insI]
    split
    · simp
    · split
      · simp
      · simp; omega
theorem ssrt_len : ∀ l : List Int, (ssrt l).length ≤ l.length
  | [] => by simp [ssrt]
  | x :: l => by
    have := ssrt_len l
    have := insI_len x (ssrt l)
    simp only [ssrt, List.length_cons]
    omega
section
variable {cal : Nat → List U → Mu → Option (U × Mu)} {n0 : Nat} {σ : R.Env} {μ μ1 : Mu} {a b e lo hi x : E} {l h u : U} {l' h' : Option Int} {N M B d : Nat} {es : List E}
theorem ev_sset {ns : List Int} (ha : evalE cal n0 a σ μ = some (.lst (ns.map U.int), μ1)) (hl : ns.length < 64) : evalE cal n0 (.sset false a) σ μ = some (.lst ((ssrt ns).map U.int), μ1) := by
  have mi : mapO asInt (ns.map U.int) = some ns := by
    have := mapO_map (f := asInt) (g := U.int) (h := id) (xs := ns) fun x _ => rfl
    rw [List.map_id] at this
    exact this
  simp only [evalE, ha, intT, asS, asL, mi]
  rw [if_pos (by omega)]
  rfl
/-- a flat tuple -/
def FlT (cal : Nat → List U → Mu → Option (U × Mu)) (n0 : Nat) (σ : R.Env) (μ : Mu) (N : Nat) (e : E) : Prop := ∃ xs, evalE cal n0 e σ μ = some (.tup xs, μ) ∧ xs.length ≤ N ∧ ∀ u ∈ xs, Pl 0 0 u
theorem FlT.up (h : FlT cal n0 σ μ N e) (hN : N ≤ M) : FlT cal n0 σ μ M e := by
  obtain ⟨xs, h1, h2, h3⟩ := h
  exact ⟨xs, h1, by omega, h3⟩
theorem ft_var {i : Nat} {xs : List U} (h : σ[i]? = some (some (.tup xs))) (hl : xs.length ≤ N) (hp : ∀ u ∈ xs, Pl 0 0 u) : FlT cal n0 σ μ N (.var i) := ⟨xs, ev_var h, hl, hp⟩
theorem FlT.rev (h : FlT cal n0 σ μ N e) : FlT cal n0 σ μ N (.rev false e) := by
  obtain ⟨xs, h1, h2, h3⟩ := h
  exact ⟨xs.reverse, ev_revT h1, by simpa using h2, fun u hu => h3 u (by simpa using hu)⟩
theorem FlT.slc (h : FlT cal n0 σ μ N e) {v w : U} (hl : evalE cal n0 lo σ μ = some (v, μ)) (hh : evalE cal n0 hi σ μ = some (w, μ)) (bl : bnd v = some l') (bh : bnd w = some h') : FlT cal n0 σ μ N (.slc false e lo hi) := by
  obtain ⟨xs, h1, h2, h3⟩ := h
  exact ⟨cutU xs l' h', ev_slcT h1 hl hh bl bh, by have := cutU_len xs l' h'; omega, fun u hu => h3 u (cutU_mem hu)⟩
theorem FlT.add (h1 : FlT cal n0 σ μ N a) (h2 : FlT cal n0 σ μ M b) (hz : N + M ≤ SZ) : FlT cal n0 σ μ (N + M) (.bin false .add a b) := by
  obtain ⟨xs, x1, x2, x3⟩ := h1
  obtain ⟨ys, y1, y2, y3⟩ := h2
  refine ⟨xs ++ ys, ev_addT x1 y1 (by omega), by simp; omega, fun u hu => ?_⟩
  rcases List.mem_append.mp hu with z | z
  · exact x3 u z
  · exact y3 u z
theorem ft_one (hx : evalE cal n0 x σ μ = some (u, μ)) (hp : Pl 0 0 u) : FlT cal n0 σ μ 1 (.tup [x]) :=
  ⟨[u], ev_tup (ev_l1 hx) (show 1 ≤ SZ by decide), by simp, fun v hv => by rw [List.mem_singleton] at hv; exact hv ▸ hp⟩
theorem ft_nil : FlT cal n0 σ μ 0 (.tup []) := ⟨[], ev_tup ev_lnil (show 0 ≤ SZ by decide), by simp, by simp⟩
theorem FlT.mul {j : Nat} (h : FlT cal n0 σ μ N a) (he : evalE cal n0 e σ μ = some (I j, μ)) (hj : j < 2 ^ 60) (hz : N * j ≤ SZ) : FlT cal n0 σ μ (N * j) (.bin false .mul a e) := by
  obtain ⟨xs, x1, x2, x3⟩ := h
  have hx : xs.length * j ≤ N * j := Nat.mul_le_mul_right _ x2
  refine ⟨(List.replicate j xs).flatten, ev_bin x1 he ?_, by simp; rw [Nat.mul_comm]; exact hx, fun u hu => ?_⟩
  · simp only [evBin]
    rw [if_pos ⟨by omega, by omega, by rw [Int.toNat_natCast]; omega⟩, Int.toNat_natCast]
  · obtain ⟨l, hl, hu⟩ := List.mem_flatten.mp hu
    rw [List.eq_of_mem_replicate hl] at hu
    exact x3 u hu
/-- a plain value -/
def PlE (cal : Nat → List U → Mu → Option (U × Mu)) (n0 : Nat) (σ : R.Env) (μ : Mu) (B d : Nat) (e : E) : Prop := ∃ u, evalE cal n0 e σ μ = some (u, μ) ∧ Pl B d u
theorem FlT.pl (h : FlT cal n0 σ μ N e) (hN : N ≤ B) : PlE cal n0 σ μ B (d + 1) e := by
  obtain ⟨xs, h1, h2, h3⟩ := h
  exact ⟨_, h1, .tup (by omega) fun u hu => (h3 u hu).up (Nat.zero_le _) (Nat.zero_le _)⟩
theorem FlT.col (h : FlT cal n0 σ μ N e) (hN : N ≤ B) : PlE cal n0 σ μ B (d + 1) (.col false .list .ex [e]) := by
  obtain ⟨xs, h1, h2, h3⟩ := h
  exact ⟨.lst xs, ev_col (us := [.tup xs]) (xs := xs) (ev_l1 h1) rfl rfl, .lst (by omega) fun u hu => (h3 u hu).up (Nat.zero_le _) (Nat.zero_le _)⟩
theorem ple (h : evalE cal n0 e σ μ = some (u, μ)) (hp : Pl B d u) : PlE cal n0 σ μ B d e := ⟨u, h, hp⟩
def PlL (cal : Nat → List U → Mu → Option (U × Mu)) (n0 : Nat) (σ : R.Env) (μ : Mu) (B d : Nat) (es : List E) : Prop := ∃ us, evalL cal n0 es σ μ = some (us, μ) ∧ us.length = es.length ∧ ∀ u ∈ us, Pl B d u
theorem pll_nil : PlL cal n0 σ μ B d [] := ⟨[], ev_lnil, rfl, by simp⟩
theorem pll (h : PlE cal n0 σ μ B d e) (hs : PlL cal n0 σ μ B d es) : PlL cal n0 σ μ B d (e :: es) := by
  obtain ⟨u, h1, h2⟩ := h
  obtain ⟨us, s1, s2, s3⟩ := hs
  refine ⟨u :: us, ev_lcons h1 s1, by simp [s2], fun v hv => ?_⟩
  rcases List.mem_cons.mp hv with rfl | hv
  · exact h2
  · exact s3 v hv
theorem PlL.lst (h : PlL cal n0 σ μ B d es) (hl : es.length ≤ 1000) : ∃ us, evalE cal n0 (.lst false es) σ μ = some (.lst us, μ) ∧ us.length = es.length ∧ ∀ u ∈ us, Pl B d u := by
  obtain ⟨us, s1, s2, s3⟩ := h
  exact ⟨us, ev_lst s1 (by unfold SZ; omega), s2, s3⟩
end
end R

set_option Elab.async false
set_option linter.all false
set_option maxRecDepth 1000000
set_option maxHeartbeats 4000000
/-! the defs of the law, printed by gen.py -/
namespace K05
open PySem PySem.Spec PyProof.Rows L2 R
def b_is_whole : List S := [.ret (.bool true [(.isi (.var 0) .int), (.not (.isi (.var 0) .bool)), (.chain .le .le (.var 1) (.var 0) (.var 2))])]
def d_is_whole : Df := ⟨3, 3, b_is_whole, false⟩
def b_is_tuple_of : List S := [.ret (.bool true [(.isi (.var 0) .tuple), (.chain .le .le (.var 1) (.bi .len [(.var 0)]) (.var 2))])]
def d_is_tuple_of : Df := ⟨3, 3, b_is_tuple_of, false⟩
def c_is_ascending_0 : E := .comp false (.tup [(.slot 1), (.slot 2)]) .zip [(.var 0), (.slc false (.var 0) (.int 1) .non)] (.bl true) (.cmp .lt (.var 1) (.var 2)) [1, 2]
def b_is_ascending : List S := [.ret (.bi .all [c_is_ascending_0])]
def d_is_ascending : Df := ⟨1, 3, b_is_ascending, false⟩
def c_is_set_below_0 : E := .comp false (.slot 2) .ex [(.var 0)] (.bl true) (.call 0 [(.var 2), (.int 0), (.bin false .sub (.var 1) (.int 1))]) [2]
def b_is_set_below : List S := [.iff (.bool false [(.not (.isi (.var 0) .tuple)), (.not (.bi .all [c_is_set_below_0]))]) [.ret (.bl false)] [], .ret (.call 2 [(.var 0)])]
def d_is_set_below : Df := ⟨2, 3, b_is_set_below, false⟩
def c_are_wholes_0 : E := .comp false (.slot 4) .ex [(.var 0)] (.bl true) (.call 0 [(.var 4), (.var 2), (.var 3)]) [4]
def b_are_wholes : List S := [.ret (.bool true [(.call 1 [(.var 0), (.var 1), (.var 1)]), (.bi .all [c_are_wholes_0])])]
def d_are_wholes : Df := ⟨4, 5, b_are_wholes, false⟩
def b_is_pair_of : List S := [.iff (.bool false [(.not (.call 1 [(.var 0), (.int 2), (.int 2)])), (.not (.call 0 [(.idx (.var 0) (.int 0)), (.int 0), (.bin false .sub (.var 1) (.int 1))])), (.not (.call 0 [(.idx (.var 0) (.int 1)), (.int 0), (.bin false .sub (.var 1) (.int 1))]))]) [.ret (.bl false)] [], .ret (.cmp .lt (.idx (.var 0) (.int 0)) (.idx (.var 0) (.int 1)))]
def d_is_pair_of : Df := ⟨2, 2, b_is_pair_of, false⟩
def c_are_friends_0 : E := .comp false (.slot 1) .ex [(.idx (.var 0) (.int 1))] (.bl true) (.call 5 [(.var 1), (.idx (.var 0) (.int 0))]) [1]
def b_are_friends : List S := [.iff (.bool false [(.not (.call 1 [(.var 0), (.int 2), (.int 2)])), (.not (.call 0 [(.idx (.var 0) (.int 0)), (.int 1), (.gint 60)])), (.not (.call 1 [(.idx (.var 0) (.int 1)), (.int 0), (.gint 400)]))]) [.ret (.bl false)] [], .ret (.bool true [(.bi .all [c_are_friends_0]), (.call 2 [(.idx (.var 0) (.int 1))])])]
def d_are_friends : Df := ⟨1, 2, b_are_friends, false⟩
def b_need_house : List S := [.iff (.not (.call 0 [(.var 1), (.int 0), (.bin false .sub (.var 0) (.int 1))])) [.stuck] []]
def d_need_house : Df := ⟨2, 2, b_need_house, false⟩
def b_need_few : List S := [.iff (.bool false [(.not (.call 6 [(.var 0)])), (.cmp .gt (.idx (.var 0) (.int 0)) (.gint 12))]) [.stuck] []]
def d_need_few : Df := ⟨1, 1, b_need_few, false⟩
def b_is_pair_in : List S := [.ret (.bool true [(.call 4 [(.var 1), (.int 2), (.int 0), (.bin false .sub (.idx (.var 0) (.int 0)) (.int 1))]), (.cmp .isin (.var 1) (.idx (.var 0) (.int 1)))])]
def d_is_pair_in : Df := ⟨2, 2, b_is_pair_in, false⟩
def c_fits_row_0 : E := .comp false (.slot 2) .ex [(.var 1)] (.bl true) (.call 9 [(.var 0), (.var 2)]) [2]
def b_fits_row : List S := [.ret (.bool true [(.call 1 [(.var 1), (.int 0), (.gint 200)]), (.bi .all [c_fits_row_0])])]
def d_fits_row : Df := ⟨2, 3, b_fits_row, false⟩
def b_need_row : List S := [.iff (.not (.call 10 [(.var 0), (.var 1)])) [.stuck] []]
def d_need_row : Df := ⟨2, 2, b_need_row, false⟩
def b_need_both : List S := [.ex (.call 8 [(.var 0)]), .ex (.call 11 [(.var 0), (.var 1)])]
def d_need_both : Df := ⟨2, 2, b_need_both, false⟩
def b_turned_row : List S := [.ex (.call 12 [(.var 0), (.var 1)]), .ret (.rev false (.var 1))]
def d_turned_row : Df := ⟨2, 2, b_turned_row, false⟩
def b_need_all : List S := [.ex (.call 12 [(.var 0), (.var 1)]), .ex (.call 7 [(.idx (.var 0) (.int 0)), (.var 2)]), .ex (.call 7 [(.idx (.var 0) (.int 0)), (.var 3)])]
def d_need_all : Df := ⟨4, 4, b_need_all, false⟩
def lb_came_in_0 : List S := [.iff (.bool true [(.cmp .notin (.var 6) (.var 2)), (.cmp .isin (.var 7) (.var 2))]) [.sub (.var 2) (.var 6) (.tup [(.bin false .add (.var 3) (.int 1)), (.var 3), (.var 7)])] []]
def l_came_in_0 : S := .for_ (.tup [(.slot 6), (.slot 7)]) .ex [(.tup [(.tup [(.var 4), (.var 5)]), (.tup [(.var 5), (.var 4)])])] lb_came_in_0
def lb_came_in_2 : List S := [l_came_in_0]
def l_came_in_2 : S := .for_ (.tup [(.slot 3), (.tup [(.slot 4), (.slot 5)])]) .enm [(.var 0)] lb_came_in_2
def b_came_in : List S := [.set 2 (.dct true false [(.var 1), (.tup [(.int 0), .non, .non])]), l_came_in_2, .ret (.var 2)]
def d_came_in : Df := ⟨2, 8, b_came_in, false⟩
def b_first_known : List S := [.ex (.call 14 [(.var 0), (.var 1), (.var 2), (.var 3)]), .set 4 (.call 15 [(.var 1), (.var 2)]), .ret (.ite (.cmp .isin (.var 3) (.var 4)) (.idx (.idx (.var 4) (.var 3)) (.int 0)) .non)]
def d_first_known : Df := ⟨4, 5, b_first_known, false⟩
def lb_news_way_0 : List S := [.ex (.me false .append (.var 5) [(.idx (.idx (.var 4) (.var 3)) (.int 1))]), .set 3 (.idx (.idx (.var 4) (.var 3)) (.int 2))]
def l_news_way_0 : S := .wh (.cmp .isnot (.idx (.idx (.var 4) (.var 3)) (.int 1)) .non) lb_news_way_0
def b_news_way : List S := [.ex (.call 14 [(.var 0), (.var 1), (.var 2), (.var 3)]), .par [4, 5] [(.call 15 [(.var 1), (.var 2)]), (.lst true [])], .iff (.cmp .notin (.var 3) (.var 4)) [.ret .non] [], l_news_way_0, .ret (.col false .tuple .ex [(.rev false (.var 5))])]
def d_news_way : Df := ⟨4, 6, b_news_way, false⟩
def c_news_bar_0 : E := .comp false (.slot 5) .rng [(.idx (.var 0) (.int 0))] (.bl true) (.ite (.cmp .isin (.var 5) (.var 4)) (.idx (.idx (.var 4) (.var 5)) (.int 0)) .non) [5]
def b_news_bar : List S := [.ex (.call 14 [(.var 0), (.var 1), (.var 2), (.var 3)]), .set 4 (.call 15 [(.var 1), (.var 2)]), .iff (.cmp .isin (.var 3) (.var 4)) [.ret .non] [], .ret (.col false .tuple .ex [c_news_bar_0])]
def d_news_bar : Df := ⟨4, 6, b_news_bar, false⟩
def lb_is_news_way_0 : List S := [.iff (.cmp .notin (.var 2) (.idx (.var 1) (.var 5))) [.ret (.bl false)] [], .set 2 (.ite (.cmp .eq (.idx (.idx (.var 1) (.var 5)) (.int 0)) (.var 2)) (.idx (.idx (.var 1) (.var 5)) (.int 1)) (.idx (.idx (.var 1) (.var 5)) (.int 0)))]
def l_is_news_way_0 : S := .for_ (.slot 5) .ex [(.var 4)] lb_is_news_way_0
def b_is_news_way : List S := [.ex (.call 14 [(.var 0), (.var 1), (.var 2), (.var 3)]), .iff (.not (.call 3 [(.var 4), (.bi .len [(.var 1)])])) [.ret (.bl false)] [], l_is_news_way_0, .ret (.cmp .eq (.var 2) (.var 3))]
def d_is_news_way : Df := ⟨5, 6, b_is_news_way, false⟩
def c_is_news_bar_0 : E := .comp false (.slot 10) .ex [(.var 4)] (.bl true) (.bool false [(.cmp .is_ (.var 10) .non), (.call 0 [(.var 10), (.int 0), (.bi .len [(.var 1)])])]) [10]
def lb_is_news_bar_1 : List S := [.iff (.bool true [(.cmp .isnot (.idx (.var 4) (.var 9)) .non), (.cmp .le (.idx (.var 4) (.var 9)) (.var 5)), (.bool false [(.cmp .is_ (.idx (.var 4) (.var 8)) .non), (.cmp .gt (.idx (.var 4) (.var 8)) (.bin false .add (.var 5) (.int 1)))])]) [.ret (.bl false)] []]
def l_is_news_bar_1 : S := .for_ (.tup [(.slot 8), (.slot 9)]) .ex [(.tup [(.tup [(.var 6), (.var 7)]), (.tup [(.var 7), (.var 6)])])] lb_is_news_bar_1
def lb_is_news_bar_3 : List S := [l_is_news_bar_1]
def l_is_news_bar_3 : S := .for_ (.tup [(.slot 5), (.tup [(.slot 6), (.slot 7)])]) .enm [(.var 1)] lb_is_news_bar_3
def b_is_news_bar : List S := [.ex (.call 14 [(.var 0), (.var 1), (.var 2), (.var 3)]), .iff (.not (.call 1 [(.var 4), (.idx (.var 0) (.int 0)), (.idx (.var 0) (.int 0))])) [.ret (.bl false)] [], .iff (.not (.bi .all [c_is_news_bar_0])) [.ret (.bl false)] [], .iff (.bool false [(.cmp .ne (.idx (.var 4) (.var 2)) (.int 0)), (.cmp .isnot (.idx (.var 4) (.var 3)) .non)]) [.ret (.bl false)] [], l_is_news_bar_3, .ret (.bl true)]
def d_is_news_bar : Df := ⟨5, 11, b_is_news_bar, false⟩
def b__law_cup : List S := [.set 1 (.bi .abs [(.idx (.bin false .add (.col false .list .ex [(.var 0)]) (.lst false [(.int 0)])) (.int 0))]), .ret (.lst true [(.ite (.cmp .ge (.var 1) (.bin false .pow (.int 10) (.int 18))) (.bin false .fdiv (.var 1) (.int 131)) (.int 0)), (.bin false .add (.bin false .mod (.bi .int [(.bin false .add (.bin false .mul (.var 1) (.int 379)) (.int 5503))]) (.int 1964129453)) (.int 233))])]
def d__law_cup : Df := ⟨1, 2, b__law_cup, true⟩
def b__law_roll : List S := [.iff (.cmp .gt (.idx (.var 0) (.int 0)) (.int 0)) [.set 3 (.bin false .mod (.bi .int [(.idx (.var 0) (.int 0))]) (.var 1)), .sub (.var 0) (.int 0) (.bin false .fdiv (.idx (.var 0) (.int 0)) (.var 1)), .ret (.var 3)] [], .sub (.var 0) (.int 1) (.bin false .mod (.bi .int [(.bin false .add (.bin false .mul (.idx (.var 0) (.int 1)) (.int 29819)) (.int 9203))]) (.int 2147483543)), .set 2 (.bin false .mod (.bi .int [(.bin false .mul (.idx (.var 0) (.int 1)) (.bin false .add (.idx (.var 0) (.int 1)) (.int 311)))]) (.int 2147483587)), .ret (.bin false .mod (.bi .int [(.bin false .fdiv (.var 2) (.int 907))]) (.var 1))]
def d__law_roll : Df := ⟨2, 4, b__law_roll, false⟩
def b__law_some : List S := [.ret (.idx (.var 1) (.call 22 [(.var 0), (.bi .len [(.var 1)])]))]
def d__law_some : Df := ⟨2, 2, b__law_some, false⟩
def b__law_sort : List S := [.iff (.bool false [(.cmp .is_ (.var 0) .non), (.isi (.var 0) .bool)]) [.ret (.ite (.cmp .is_ (.var 0) .non) (.int 0) (.int 1))] [], .iff (.bool false [(.isi (.var 0) .int), (.isi (.var 0) .str)]) [.ret (.ite (.isi (.var 0) .int) (.int 2) (.int 3))] [], .ret (.ite (.isi (.var 0) .tuple) (.int 4) (.ite (.isi (.var 0) .list) (.int 5) (.int 6)))]
def d__law_sort : Df := ⟨1, 1, b__law_sort, false⟩
def c__law_like_0 : E := .comp false (.tup [(.slot 3), (.slot 4)]) .zip [(.var 0), (.var 1)] (.not (.call 25 [(.var 3), (.var 4)])) (.int 1) [3, 4]
def b__law_like : List S := [.set 2 (.call 24 [(.var 1)]), .iff (.bool false [(.cmp .ne (.call 24 [(.var 0)]) (.var 2)), (.cmp .eq (.var 2) (.int 6))]) [.ret (.bl false)] [], .iff (.cmp .isin (.var 2) (.tup [(.int 4), (.int 5)])) [.ret (.bool true [(.cmp .eq (.bi .len [(.var 0)]) (.bi .len [(.var 1)])), (.cmp .eq c__law_like_0 (.lst false []))])] [], .ret (.cmp .eq (.var 0) (.var 1))]
def d__law_like : Df := ⟨2, 5, b__law_like, false⟩
def b__law_is_whole : List S := [.ret (.bool true [(.cmp .eq (.call 24 [(.var 0)]) (.int 2)), (.chain .le .le (.var 1) (.var 0) (.var 2))])]
def d__law_is_whole : Df := ⟨3, 3, b__law_is_whole, false⟩
def lb__law_tree_0 : List S := [.ex (.me false .append (.var 6) [(.me false .pop1 (.var 5) [(.call 22 [(.var 0), (.bi .len [(.var 5)])])])])]
def l__law_tree_0 : S := .for_ (.slot 2) .rng [(.var 1)] lb__law_tree_0
def lb__law_tree_2 : List S := [.par [7, 8] [(.idx (.var 6) (.var 4)), (.idx (.var 6) (.call 23 [(.var 0), (.lst false [(.call 22 [(.var 0), (.var 4)]), (.bin false .sub (.var 4) (.int 1))])]))], .ex (.me false .append (.var 3) [(.tup [(.bi .min2 [(.var 7), (.var 8)]), (.bi .max2 [(.var 7), (.var 8)])])])]
def l__law_tree_2 : S := .for_ (.slot 4) .rng [(.int 1), (.var 1)] lb__law_tree_2
def b__law_tree : List S := [.par [5, 6] [(.col true .list .rng [(.var 1)]), (.lst true [])], l__law_tree_0, .set 3 (.lst true []), l__law_tree_2, .ret (.tup [(.var 1), (.col false .tuple .ex [(.col false .sorted .ex [(.var 3)])])])]
def d__law_tree : Df := ⟨2, 9, b__law_tree, false⟩
def c__law_friends_0 : E := .comp false (.slot 7) .ex [(.idx (.call 27 [(.var 0), (.var 1)]) (.int 1))] (.bl true) (.tup [(.var 7), (.bl true)]) [7]
def lb__law_friends_1 : List S := [.set 5 (.call 22 [(.var 0), (.var 1)]), .set 6 (.bin false .mod (.bi .int [(.bin false .add (.bin false .add (.var 5) (.int 1)) (.call 22 [(.var 0), (.bin false .sub (.var 1) (.int 1))]))]) (.var 1)), .sub (.var 3) (.tup [(.bi .min2 [(.var 5), (.var 6)]), (.bi .max2 [(.var 5), (.var 6)])]) (.bl true)]
def l__law_friends_1 : S := .for_ (.slot 4) .rng [(.ite (.cmp .gt (.var 1) (.int 1)) (.call 22 [(.var 0), (.bin false .add (.var 2) (.int 1))]) (.int 0))] lb__law_friends_1
def b__law_friends : List S := [.set 3 (.col true (.dict true) .ex [c__law_friends_0]), l__law_friends_1, .ret (.tup [(.var 1), (.col false .tuple .ex [(.col false .sorted .ex [(.var 3)])])])]
def d__law_friends : Df := ⟨3, 8, b__law_friends, false⟩
def c__law_apart_0 : E := .comp false (.slot 2) .ex [(.idx (.var 1) (.int 1))] (.cmp .gt (.call 22 [(.var 0), (.int 4)]) (.int 0)) (.var 2) [2]
def b__law_apart : List S := [.ret (.tup [(.idx (.var 1) (.int 0)), (.col false .tuple .ex [c__law_apart_0])])]
def d__law_apart : Df := ⟨2, 3, b__law_apart, false⟩
def c__law_row_0 : E := .comp false (.slot 3) .rng [(.ite (.cmp .ne (.idx (.var 1) (.int 1)) (.tup [])) (.call 22 [(.var 0), (.bin false .add (.var 2) (.int 1))]) (.int 0))] (.bl true) (.call 23 [(.var 0), (.idx (.var 1) (.int 1))]) [3]
def b__law_row : List S := [.ret (.col false .tuple .ex [c__law_row_0])]
def d__law_row : Df := ⟨3, 4, b__law_row, false⟩
def c__law_known_0 : E := .comp true (.slot 6) .rng [(.var 0)] (.bl true) (.col false (.dict false) .ex [(.lst false [(.tup [(.var 6), (.bl true)])])]) [6]
def lb__law_known_1 : List S := [.set 5 (.col false (.dict false) .ex [(.bin false .add (.itms (.idx (.var 2) (.var 3))) (.itms (.idx (.var 2) (.var 4))))]), .sub2 (.var 2) (.var 3) (.var 2) (.var 4) (.var 5) (.col false (.dict false) .ex [(.itms (.var 5))])]
def l__law_known_1 : S := .for_ (.tup [(.slot 3), (.slot 4)]) .ex [(.var 1)] lb__law_known_1
def c__law_known_3 : E := .comp false (.slot 7) .ex [(.var 2)] (.bl true) (.col false .tuple .ex [(.col false .sorted .ex [(.var 7)])]) [7]
def b__law_known : List S := [.set 2 c__law_known_0, l__law_known_1, .ret c__law_known_3]
def d__law_known : Df := ⟨2, 8, b__law_known, false⟩
def c__law_line_0 : E := .comp false (.slot 1) .rng [(.bin false .sub (.var 0) (.int 1))] (.bl true) (.tup [(.var 1), (.bin false .add (.var 1) (.int 1))]) [1]
def b__law_line : List S := [.ret (.tup [(.var 0), (.col false .tuple .ex [c__law_line_0])])]
def d__law_line : Df := ⟨1, 2, b__law_line, false⟩
def c__law_is_way_0 : E := .comp false (.slot 4) .ex [(.var 3)] (.not (.call 26 [(.var 4), (.int 0), (.bin false .sub (.bi .len [(.var 0)]) (.int 1))])) (.var 4) [4]
def c__law_is_way_1 : E := .comp false (.slot 5) .ex [(.idx (.var 0) (.var 4))] (.cmp .ne (.var 5) (.var 1)) (.var 5) [5]
def lb__law_is_way_2 : List S := [.iff (.cmp .notin (.var 1) (.idx (.var 0) (.var 4))) [.ret (.bl false)] [], .set 1 (.idx c__law_is_way_1 (.int 0))]
def l__law_is_way_2 : S := .for_ (.slot 4) .ex [(.var 3)] lb__law_is_way_2
def b__law_is_way : List S := [.iff (.bool false [(.cmp .ne (.call 24 [(.var 3)]) (.int 4)), (.cmp .ne c__law_is_way_0 (.lst false [])), (.cmp .ne (.col false .list .ex [(.var 3)]) (.sset false (.var 3)))]) [.ret (.bl false)] [], l__law_is_way_2, .ret (.cmp .eq (.var 1) (.var 2))]
def d__law_is_way : Df := ⟨4, 6, b__law_is_way, false⟩
def c__law_is_bar_0 : E := .comp false (.slot 9) .ex [(.var 4)] (.bool true [(.cmp .isnot (.var 9) .non), (.not (.call 26 [(.var 9), (.int 0), (.bi .len [(.var 1)])]))]) (.var 9) [9]
def lb__law_is_bar_1 : List S := [.iff (.bool true [(.cmp .isnot (.idx (.var 4) (.var 7)) .non), (.cmp .le (.idx (.var 4) (.var 7)) (.var 5)), (.bool false [(.cmp .is_ (.idx (.var 4) (.var 8)) .non), (.cmp .gt (.idx (.var 4) (.var 8)) (.bin false .add (.var 5) (.int 1)))])]) [.ret (.bl false)] []]
def l__law_is_bar_1 : S := .for_ (.tup [(.slot 7), (.slot 8)]) .ex [(.tup [(.var 6), (.rev false (.var 6))])] lb__law_is_bar_1
def lb__law_is_bar_3 : List S := [l__law_is_bar_1]
def l__law_is_bar_3 : S := .for_ (.tup [(.slot 5), (.slot 6)]) .enm [(.var 1)] lb__law_is_bar_3
def b__law_is_bar : List S := [.iff (.bool false [(.cmp .ne (.call 24 [(.var 4)]) (.int 4)), (.cmp .ne (.bi .len [(.var 4)]) (.var 0)), (.cmp .ne c__law_is_bar_0 (.lst false []))]) [.ret (.bl false)] [], .iff (.bool false [(.cmp .ne (.idx (.var 4) (.var 2)) (.int 0)), (.cmp .isnot (.idx (.var 4) (.var 3)) .non)]) [.ret (.bl false)] [], l__law_is_bar_3, .ret (.bl true)]
def d__law_is_bar : Df := ⟨5, 10, b__law_is_bar, false⟩
def c__law_first_0 : E := .comp false (.slot 5) .rng [(.bin false .add (.bi .len [(.var 1)]) (.int 1))] (.cmp .isin (.var 2) (.idx (.call 31 [(.var 0), (.slc false (.var 1) .non (.var 5))]) (.var 3))) (.var 5) [5]
def b__law_first : List S := [.set 4 c__law_first_0, .ret (.ite (.cmp .ne (.var 4) (.lst false [])) (.idx (.var 4) (.int 0)) .non)]
def d__law_first : Df := ⟨4, 6, b__law_first, false⟩
def c__law_right_0 : E := .comp false (.slot 17) .rng [(.int 3)] (.bl true) (.call 22 [(.var 0), (.bin false .add (.bi .len [(.var 2)]) (.int 1))]) [17]
def c__law_right_1 : E := .comp false (.slot 17) .rng [(.int 2)] (.bl true) (.call 22 [(.var 0), (.bin false .add (.bi .len [(.var 2)]) (.int 1))]) [17]
def lb__law_right_2 : List S := [.iff (.not (.call 25 [(.call 19 [(.var 1), (.var 2), (.var 10), (.var 11), (.var 8)]), (.call 33 [(.var 2), (.var 10), (.var 11), (.var 8)])])) [.ret (.bl false)] []]
def l__law_right_2 : S := .for_ (.slot 8) .ex [(.var 7)] lb__law_right_2
def c__law_right_4 : E := .comp false (.slot 15) .rng [(.var 3)] (.bl true) (.call 35 [(.var 3), (.var 2), (.var 10), (.var 15)]) [15]
def c__law_right_5 : E := .comp false (.slot 15) .rng [(.var 3)] (.bl true) (.ite (.cmp .eq (.var 15) (.var 10)) (.int 0) .non) [15]
def c__law_right_6 : E := .comp false (.slot 16) .ex [(.tup [.non, (.int 0), (.int 1), (.bi .len [(.var 2)]), (.bin false .add (.bi .len [(.var 2)]) (.int 1)), (.neg (.int 1)), (.bl true)])] (.bl true) (.bin false .add (.bin false .add (.slc false (.var 5) .non (.var 6)) (.tup [(.var 16)])) (.slc false (.var 5) (.bin false .add (.var 6) (.int 1)) .non)) [16]
def c__law_right_7 : E := .comp false (.slot 8) .ex [(.var 7)] (.not (.call 25 [(.call 20 [(.var 1), (.var 2), (.var 10), (.var 11), (.var 8)]), (.call 34 [(.var 3), (.var 2), (.var 10), (.var 11), (.var 8)])])) (.var 8) [8]
def b__law_right : List S := [.set 3 (.idx (.var 1) (.int 0)), .asg (.tup [(.slot 10), (.slot 11)]) (.tup [(.call 22 [(.var 0), (.var 3)]), (.call 22 [(.var 0), (.var 3)])]), .par [12, 13, 14] [(.call 35 [(.var 3), (.var 2), (.var 10), (.var 11)]), (.call 17 [(.var 1), (.var 2), (.var 10), (.var 11)]), (.call 18 [(.var 1), (.var 2), (.var 10), (.var 11)])], .iff (.not (.call 25 [(.lst false [(.call 16 [(.var 1), (.var 2), (.var 10), (.var 11)]), (.cmp .is_ (.var 13) .non), (.cmp .is_ (.var 14) .non)]), (.lst false [(.var 12), (.cmp .is_ (.var 12) .non), (.cmp .isnot (.var 12) .non)])])) [.ret (.bl false)] [], .iff (.bool false [(.bool true [(.cmp .isnot (.var 13) .non), (.bool false [(.not (.call 33 [(.var 2), (.var 10), (.var 11), (.var 13)])), (.bool true [(.cmp .ne (.var 13) (.tup [])), (.cmp .lt (.bin false .add (.idx (.var 13) (.neg (.int 1))) (.int 1)) (.var 12))])])]), (.bool true [(.cmp .isnot (.var 14) .non), (.not (.call 34 [(.var 3), (.var 2), (.var 10), (.var 11), (.var 14)]))])]) [.ret (.bl false)] [], .set 4 (.call 16 [(.var 1), (.call 13 [(.var 1), (.var 2)]), (.var 11), (.var 10)]), .iff (.cmp .ne (.cmp .is_ (.var 4) .non) (.cmp .is_ (.var 12) .non)) [.ret (.bl false)] [], .set 5 (.ite (.cmp .isnot (.var 13) .non) (.var 13) (.col false .tuple .ex [(.sset false c__law_right_0)])), .set 6 (.call 22 [(.var 0), (.bin false .add (.bi .len [(.var 5)]) (.int 1))]), .set 7 (.lst false [(.var 5), (.rev false (.var 5)), (.col false .list .ex [(.var 5)]), (.slc false (.var 5) (.int 1) .non), (.slc false (.var 5) .non (.neg (.int 1))), (.bin false .add (.var 5) (.tup [(.bi .len [(.var 2)])])), (.bin false .add (.bin false .add (.slc false (.var 5) .non (.var 6)) (.tup [(.int 0)])) (.slc false (.var 5) (.var 6) .non)), (.tup []), .non, (.tup [(.int 0)]), (.tup [(.bl true)]), (.tup [(.neg (.int 1))])]), .set 7 (.bin false .add (.var 7) (.lst false [(.col false .tuple .rng [(.bi .len [(.var 2)])]), (.col false .tuple .ex [(.sset false c__law_right_1)])])), l__law_right_2, .set 9 c__law_right_4, .set 5 (.col false .tuple .ex [(.var 9)]), .set 6 (.call 22 [(.var 0), (.var 3)]), .set 7 (.lst false [(.var 5), (.var 14), (.col false .list .ex [(.var 5)]), (.slc false (.var 5) (.int 1) .non), (.bin false .add (.var 5) (.tup [.non])), .non, (.tup []), (.bin false .mul (.tup [(.int 0)]) (.var 3)), (.bin false .mul (.tup [.non]) (.var 3)), (.col false .tuple .ex [c__law_right_5])]), .set 7 (.bin false .add (.var 7) c__law_right_6), .ret (.cmp .eq c__law_right_7 (.lst false []))]
def d__law_right : Df := ⟨3, 18, b__law_right, false⟩
def b__law_great_right : List S := [.set 1 (.bin false .add (.int 3) (.call 22 [(.var 0), (.int 10)])), .set 2 (.call 32 [(.var 1)]), .par [7, 8] [(.idx (.var 2) (.int 1)), (.bin false .sub (.var 1) (.int 1))], .set 3 (.lst false [(.call 16 [(.var 2), (.var 7), (.int 0), (.var 8)]), (.call 17 [(.var 2), (.var 7), (.int 0), (.var 8)]), (.call 16 [(.var 2), (.var 7), (.var 8), (.int 0)]), (.call 16 [(.var 2), (.rev false (.var 7)), (.var 8), (.int 0)]), (.call 18 [(.var 2), (.var 7), (.int 0), (.var 8)])]), .iff (.not (.call 25 [(.var 3), (.lst false [(.var 8), (.col false .tuple .rng [(.var 8)]), .non, (.var 8), .non])])) [.ret (.bl false)] [], .set 4 (.slc false (.bin false .mul (.var 7) (.int 20)) .non (.int 200)), .set 5 (.bin false .add (.int 1) (.call 22 [(.var 0), (.bi .min2 [(.var 8), (.bin false .fdiv (.bi .len [(.var 4)]) (.var 8))])])), .set 6 (.bin false .add (.bin false .sub (.bin false .add (.bin false .mul (.bin false .sub (.var 5) (.int 1)) (.var 8)) (.var 8)) (.var 5)) (.int 1)), .set 3 (.lst false [(.call 16 [(.var 2), (.var 4), (.var 8), (.bin false .sub (.var 8) (.var 5))]), (.call 16 [(.var 2), (.var 4), (.int 0), (.var 8)]), (.call 20 [(.var 2), (.var 7), (.var 8), (.int 0), (.bin false .add (.bin false .mul (.tup [.non]) (.bin false .sub (.var 8) (.int 1))) (.tup [(.var 8), (.int 0)]))])]), .ret (.call 25 [(.var 3), (.lst false [(.var 6), (.var 8), (.bl true)])])]
def d__law_great_right : Df := ⟨1, 9, b__law_great_right, false⟩
def lb_law_0 : List S := [.set 5 (.call 28 [(.var 1), (.bin false .add (.int 1) (.call 22 [(.var 1), (.int 6)])), (.int 4)]), .set 5 (.call 23 [(.var 1), (.lst false [(.var 5), (.var 5), (.call 29 [(.var 1), (.var 5)])])]), .iff (.not (.call 36 [(.var 1), (.var 5), (.call 30 [(.var 1), (.var 5), (.call 23 [(.var 1), (.lst false [(.int 2), (.int 6), (.int 14)])])])])) [.ret (.bl false)] []]
def l_law_0 : S := .for_ (.slot 2) .rng [(.int 8)] lb_law_0
def b_law : List S := [.set 1 (.call 21 [(.var 0)]), l_law_0, .par [6, 7, 8] [(.call 32 [(.int 4)]), (.tup [(.tup [(.int 0), (.int 1)]), (.tup [(.int 1), (.int 2)])]), (.tup [(.tup [(.int 1), (.int 2)]), (.tup [(.int 0), (.int 1)])])], .set 3 (.lst false [(.call 17 [(.var 6), (.var 7), (.int 0), (.int 2)]), (.call 17 [(.var 6), (.var 8), (.int 0), (.int 2)]), (.call 16 [(.var 6), (.var 7), (.int 0), (.int 2)]), (.call 16 [(.var 6), (.var 8), (.int 3), (.int 3)]), (.call 20 [(.var 6), (.var 8), (.int 0), (.int 2), (.tup [(.int 0), (.int 2), .non, .non])])]), .set 3 (.bin false .add (.var 3) (.lst false [(.call 20 [(.var 6), (.var 8), (.int 0), (.int 2), (.tup [(.int 0), .non, .non, .non])]), (.call 18 [(.var 6), (.var 8), (.int 2), (.int 1)]), (.call 17 [(.var 6), (.tup []), (.int 1), (.int 1)]), (.call 19 [(.var 6), (.var 7), (.int 0), (.int 0), (.tup [])])])), .set 3 (.bin false .add (.var 3) (.lst false [(.call 19 [(.var 6), (.bin false .add (.var 7) (.slc false (.var 7) .non (.int 1))), (.int 0), (.int 0), (.tup [(.int 0), (.int 2)])]), (.call 20 [(.var 6), (.tup []), (.int 0), (.int 3), (.tup [(.int 0), (.int 0), (.int 0), .non])])])), .set 3 (.bin false .add (.var 3) (.lst false [(.call 20 [(.var 6), (.var 7), (.int 0), (.int 0), (.tup [(.int 0), .non, .non, .non])]), (.call 20 [(.var 6), (.var 8), (.int 0), (.int 2), (.tup [(.int 0), (.int 1), .non, .non])]), (.call 20 [(.var 6), (.var 8), (.int 0), (.int 2), (.tup [(.int 0), (.int 0), .non, .non])])])), .set 4 (.lst false [(.tup [(.int 0), (.int 1)]), .non, (.int 2), (.int 0), (.bl true), (.bl false), .non, (.tup []), (.bl true), (.bl true), (.bl true), (.bl false), (.bl true), (.bl false)]), .ret (.bool true [(.call 25 [(.var 3), (.var 4)]), (.call 37 [(.var 1)])])]
def d_law : Df := ⟨1, 9, b_law, false⟩
def defs : List Df := d_is_whole :: d_is_tuple_of :: d_is_ascending :: d_is_set_below :: d_are_wholes :: d_is_pair_of :: d_are_friends :: d_need_house :: d_need_few :: d_is_pair_in :: d_fits_row :: d_need_row :: d_need_both :: d_turned_row :: d_need_all :: d_came_in :: d_first_known :: d_news_way :: d_news_bar :: d_is_news_way :: d_is_news_bar :: d__law_cup :: d__law_roll :: d__law_some :: d__law_sort :: d__law_like :: d__law_is_whole :: d__law_tree :: d__law_friends :: d__law_apart :: d__law_row :: d__law_known :: d__law_line :: d__law_is_way :: d__law_is_bar :: d__law_first :: d__law_right :: d__law_great_right :: d_law :: []
theorem run_is_whole (k : Nat) (us : List U) (μ : Mu) : runF defs (k + 1) 0 us μ = (if us.length = 3 then endO false μ.length (exL (runF defs k) μ.length b_is_whole (us.map some ++ List.replicate 0 none) μ) else none) := rfl
theorem run_is_tuple_of (k : Nat) (us : List U) (μ : Mu) : runF defs (k + 1) 1 us μ = (if us.length = 3 then endO false μ.length (exL (runF defs k) μ.length b_is_tuple_of (us.map some ++ List.replicate 0 none) μ) else none) := rfl
theorem run_is_ascending (k : Nat) (us : List U) (μ : Mu) : runF defs (k + 1) 2 us μ = (if us.length = 1 then endO false μ.length (exL (runF defs k) μ.length b_is_ascending (us.map some ++ List.replicate 2 none) μ) else none) := rfl
theorem run_is_set_below (k : Nat) (us : List U) (μ : Mu) : runF defs (k + 1) 3 us μ = (if us.length = 2 then endO false μ.length (exL (runF defs k) μ.length b_is_set_below (us.map some ++ List.replicate 1 none) μ) else none) := rfl
theorem run_are_wholes (k : Nat) (us : List U) (μ : Mu) : runF defs (k + 1) 4 us μ = (if us.length = 4 then endO false μ.length (exL (runF defs k) μ.length b_are_wholes (us.map some ++ List.replicate 1 none) μ) else none) := rfl
theorem run_is_pair_of (k : Nat) (us : List U) (μ : Mu) : runF defs (k + 1) 5 us μ = (if us.length = 2 then endO false μ.length (exL (runF defs k) μ.length b_is_pair_of (us.map some ++ List.replicate 0 none) μ) else none) := rfl
theorem run_are_friends (k : Nat) (us : List U) (μ : Mu) : runF defs (k + 1) 6 us μ = (if us.length = 1 then endO false μ.length (exL (runF defs k) μ.length b_are_friends (us.map some ++ List.replicate 1 none) μ) else none) := rfl
theorem run_need_house (k : Nat) (us : List U) (μ : Mu) : runF defs (k + 1) 7 us μ = (if us.length = 2 then endO false μ.length (exL (runF defs k) μ.length b_need_house (us.map some ++ List.replicate 0 none) μ) else none) := rfl
theorem run_need_few (k : Nat) (us : List U) (μ : Mu) : runF defs (k + 1) 8 us μ = (if us.length = 1 then endO false μ.length (exL (runF defs k) μ.length b_need_few (us.map some ++ List.replicate 0 none) μ) else none) := rfl
theorem run_is_pair_in (k : Nat) (us : List U) (μ : Mu) : runF defs (k + 1) 9 us μ = (if us.length = 2 then endO false μ.length (exL (runF defs k) μ.length b_is_pair_in (us.map some ++ List.replicate 0 none) μ) else none) := rfl
theorem run_fits_row (k : Nat) (us : List U) (μ : Mu) : runF defs (k + 1) 10 us μ = (if us.length = 2 then endO false μ.length (exL (runF defs k) μ.length b_fits_row (us.map some ++ List.replicate 1 none) μ) else none) := rfl
theorem run_need_row (k : Nat) (us : List U) (μ : Mu) : runF defs (k + 1) 11 us μ = (if us.length = 2 then endO false μ.length (exL (runF defs k) μ.length b_need_row (us.map some ++ List.replicate 0 none) μ) else none) := rfl
theorem run_need_both (k : Nat) (us : List U) (μ : Mu) : runF defs (k + 1) 12 us μ = (if us.length = 2 then endO false μ.length (exL (runF defs k) μ.length b_need_both (us.map some ++ List.replicate 0 none) μ) else none) := rfl
theorem run_turned_row (k : Nat) (us : List U) (μ : Mu) : runF defs (k + 1) 13 us μ = (if us.length = 2 then endO false μ.length (exL (runF defs k) μ.length b_turned_row (us.map some ++ List.replicate 0 none) μ) else none) := rfl
theorem run_need_all (k : Nat) (us : List U) (μ : Mu) : runF defs (k + 1) 14 us μ = (if us.length = 4 then endO false μ.length (exL (runF defs k) μ.length b_need_all (us.map some ++ List.replicate 0 none) μ) else none) := rfl
theorem run_came_in (k : Nat) (us : List U) (μ : Mu) : runF defs (k + 1) 15 us μ = (if us.length = 2 then endO false μ.length (exL (runF defs k) μ.length b_came_in (us.map some ++ List.replicate 6 none) μ) else none) := rfl
theorem run_first_known (k : Nat) (us : List U) (μ : Mu) : runF defs (k + 1) 16 us μ = (if us.length = 4 then endO false μ.length (exL (runF defs k) μ.length b_first_known (us.map some ++ List.replicate 1 none) μ) else none) := rfl
theorem run_news_way (k : Nat) (us : List U) (μ : Mu) : runF defs (k + 1) 17 us μ = (if us.length = 4 then endO false μ.length (exL (runF defs k) μ.length b_news_way (us.map some ++ List.replicate 2 none) μ) else none) := rfl
theorem run_news_bar (k : Nat) (us : List U) (μ : Mu) : runF defs (k + 1) 18 us μ = (if us.length = 4 then endO false μ.length (exL (runF defs k) μ.length b_news_bar (us.map some ++ List.replicate 2 none) μ) else none) := rfl
theorem run_is_news_way (k : Nat) (us : List U) (μ : Mu) : runF defs (k + 1) 19 us μ = (if us.length = 5 then endO false μ.length (exL (runF defs k) μ.length b_is_news_way (us.map some ++ List.replicate 1 none) μ) else none) := rfl
theorem run_is_news_bar (k : Nat) (us : List U) (μ : Mu) : runF defs (k + 1) 20 us μ = (if us.length = 5 then endO false μ.length (exL (runF defs k) μ.length b_is_news_bar (us.map some ++ List.replicate 6 none) μ) else none) := rfl
theorem run__law_cup (k : Nat) (us : List U) (μ : Mu) : runF defs (k + 1) 21 us μ = (if us.length = 1 then endO true μ.length (exL (runF defs k) μ.length b__law_cup (us.map some ++ List.replicate 1 none) μ) else none) := rfl
theorem run__law_roll (k : Nat) (us : List U) (μ : Mu) : runF defs (k + 1) 22 us μ = (if us.length = 2 then endO false μ.length (exL (runF defs k) μ.length b__law_roll (us.map some ++ List.replicate 2 none) μ) else none) := rfl
theorem run__law_some (k : Nat) (us : List U) (μ : Mu) : runF defs (k + 1) 23 us μ = (if us.length = 2 then endO false μ.length (exL (runF defs k) μ.length b__law_some (us.map some ++ List.replicate 0 none) μ) else none) := rfl
theorem run__law_sort (k : Nat) (us : List U) (μ : Mu) : runF defs (k + 1) 24 us μ = (if us.length = 1 then endO false μ.length (exL (runF defs k) μ.length b__law_sort (us.map some ++ List.replicate 0 none) μ) else none) := rfl
theorem run__law_like (k : Nat) (us : List U) (μ : Mu) : runF defs (k + 1) 25 us μ = (if us.length = 2 then endO false μ.length (exL (runF defs k) μ.length b__law_like (us.map some ++ List.replicate 3 none) μ) else none) := rfl
theorem run__law_is_whole (k : Nat) (us : List U) (μ : Mu) : runF defs (k + 1) 26 us μ = (if us.length = 3 then endO false μ.length (exL (runF defs k) μ.length b__law_is_whole (us.map some ++ List.replicate 0 none) μ) else none) := rfl
theorem run__law_tree (k : Nat) (us : List U) (μ : Mu) : runF defs (k + 1) 27 us μ = (if us.length = 2 then endO false μ.length (exL (runF defs k) μ.length b__law_tree (us.map some ++ List.replicate 7 none) μ) else none) := rfl
theorem run__law_friends (k : Nat) (us : List U) (μ : Mu) : runF defs (k + 1) 28 us μ = (if us.length = 3 then endO false μ.length (exL (runF defs k) μ.length b__law_friends (us.map some ++ List.replicate 5 none) μ) else none) := rfl
theorem run__law_apart (k : Nat) (us : List U) (μ : Mu) : runF defs (k + 1) 29 us μ = (if us.length = 2 then endO false μ.length (exL (runF defs k) μ.length b__law_apart (us.map some ++ List.replicate 1 none) μ) else none) := rfl
theorem run__law_row (k : Nat) (us : List U) (μ : Mu) : runF defs (k + 1) 30 us μ = (if us.length = 3 then endO false μ.length (exL (runF defs k) μ.length b__law_row (us.map some ++ List.replicate 1 none) μ) else none) := rfl
theorem run__law_known (k : Nat) (us : List U) (μ : Mu) : runF defs (k + 1) 31 us μ = (if us.length = 2 then endO false μ.length (exL (runF defs k) μ.length b__law_known (us.map some ++ List.replicate 6 none) μ) else none) := rfl
theorem run__law_line (k : Nat) (us : List U) (μ : Mu) : runF defs (k + 1) 32 us μ = (if us.length = 1 then endO false μ.length (exL (runF defs k) μ.length b__law_line (us.map some ++ List.replicate 1 none) μ) else none) := rfl
theorem run__law_is_way (k : Nat) (us : List U) (μ : Mu) : runF defs (k + 1) 33 us μ = (if us.length = 4 then endO false μ.length (exL (runF defs k) μ.length b__law_is_way (us.map some ++ List.replicate 2 none) μ) else none) := rfl
theorem run__law_is_bar (k : Nat) (us : List U) (μ : Mu) : runF defs (k + 1) 34 us μ = (if us.length = 5 then endO false μ.length (exL (runF defs k) μ.length b__law_is_bar (us.map some ++ List.replicate 5 none) μ) else none) := rfl
theorem run__law_first (k : Nat) (us : List U) (μ : Mu) : runF defs (k + 1) 35 us μ = (if us.length = 4 then endO false μ.length (exL (runF defs k) μ.length b__law_first (us.map some ++ List.replicate 2 none) μ) else none) := rfl
theorem run__law_right (k : Nat) (us : List U) (μ : Mu) : runF defs (k + 1) 36 us μ = (if us.length = 3 then endO false μ.length (exL (runF defs k) μ.length b__law_right (us.map some ++ List.replicate 15 none) μ) else none) := rfl
theorem run__law_great_right (k : Nat) (us : List U) (μ : Mu) : runF defs (k + 1) 37 us μ = (if us.length = 1 then endO false μ.length (exL (runF defs k) μ.length b__law_great_right (us.map some ++ List.replicate 8 none) μ) else none) := rfl
theorem run_law (k : Nat) (us : List U) (μ : Mu) : runF defs (k + 1) 38 us μ = (if us.length = 1 then endO false μ.length (exL (runF defs k) μ.length b_law (us.map some ++ List.replicate 8 none) μ) else none) := rfl
end K05

set_option Elab.async false
set_option linter.all false
set_option maxRecDepth 100000
set_option maxHeartbeats 4000000
namespace K05
open PySem L2 R
/-! ### the cup -/
def Cup (c : U) : Prop := ∃ c0 c1 : Int, c = .lst [.int c0, .int c1] ∧ 0 ≤ c0 ∧ 0 ≤ c1 ∧ c1 < 2147483648
theorem at0 {u v : U} : atI [u, v] (0 : Int) = some u := rfl
theorem at1 {u v : U} : atI [u, v] (1 : Int) = some v := rfl
theorem ix0 : ixN 2 (0 : Int) = some 0 := rfl
theorem ix1 : ixN 2 (1 : Int) = some 1 := rfl
theorem roll_ok (k : Nat) {c : U} (ρ : Mu) (C : Cup c) {many : Nat} (h1 : 1 ≤ many) (h2 : many < 1073741824) :
    ∃ (r : Nat) (c' : U), runF defs (k + 1) 22 [.ob 0, I many] (c :: ρ) = some (I r, c' :: ρ) ∧ r < many ∧ Cup c' := by
  obtain ⟨c0, c1, rfl, p0, p1, p2⟩ := C
  have hm : (0 : Int) < many := by omega
  have hm2 : (many : Int) < 1073741824 := by omega
  have i0 : ∀ {u v : U} {l : Mu} {cal} {n0} {σ : R.Env}, σ[0]? = some (some (.ob 0)) → evalE cal n0 (.idx (.var 0) (.int 0)) σ (.lst [u, v] :: l) = some (u, .lst [u, v] :: l) := fun h => ev_idxL1 (ev_var h) ev_int rfl rfl
  have i1 : ∀ {u v : U} {l : Mu} {cal} {n0} {σ : R.Env}, σ[0]? = some (some (.ob 0)) → evalE cal n0 (.idx (.var 0) (.int 1)) σ (.lst [u, v] :: l) = some (v, .lst [u, v] :: l) := fun h => ev_idxL1 (ev_var h) ev_int rfl rfl
  rw [run__law_roll]
  by_cases hc : 0 < c0
  · refine ⟨(c0 % many).toNat, .lst [.int (c0 / many), .int c1], ?_, ?_, c0 / many, c1, rfl, Int.ediv_nonneg p0 (by omega), p1, p2⟩
    · have e : ((c0 % many).toNat : Int) = c0 % many := Int.toNat_of_nonneg (Int.emod_nonneg _ (by omega))
      have b : exL (runF defs k) (ρ.length + 1) b__law_roll [some (.ob 0), some (I many), none, none] (.lst [.int c0, .int c1] :: ρ) = some (.rt (.int (c0 % many)) (.lst [.int (c0 / many), .int c1] :: ρ)) := by
        unfold b__law_roll
        have x : exS (runF defs k) (ρ.length + 1) (.iff (.cmp .gt (.idx (.var 0) (.int 0)) (.int 0)) [.set 3 (.bin false .mod (.bi .int [(.idx (.var 0) (.int 0))]) (.var 1)), .sub (.var 0) (.int 0) (.bin false .fdiv (.idx (.var 0) (.int 0)) (.var 1)), .ret (.var 3)] []) [some (.ob 0), some (I many), none, none] (.lst [.int c0, .int c1] :: ρ) = some (.rt (.int (c0 % many)) (.lst [.int (c0 / many), .int c1] :: ρ)) := by
          refine (ex_ifT (ev_cmp (d := true) (i0 rfl) ev_int (by simp only [evCmp, evLt]; rw [decide_eq_true hc])) rfl).trans ?_
          refine (ex_seq (ex_set (u := .int (c0 % many)) (ev_bin (ev_bi (ev_l1 (i0 rfl)) rfl) (ev_var rfl) (by simp only [evBin]; rw [if_pos hm])))).trans ?_
          refine (ex_seq (show exS _ _ _ _ _ = some (.nx [some (.ob 0), some (I many), none, some (.int (c0 % many))] (.lst [.int (c0 / many), .int c1] :: ρ)) from ?_)).trans ?_
          · have f : evalE (runF defs k) (ρ.length + 1) (.bin false .fdiv (.idx (.var 0) (.int 0)) (.var 1)) [some (.ob 0), some (I many), none, some (.int (c0 % many))] (.lst [.int c0, .int c1] :: ρ) = some (.int (c0 / many), .lst [.int c0, .int c1] :: ρ) := ev_bin (i0 rfl) (ev_var rfl) (by simp only [evBin]; rw [if_pos ⟨hm, hm2⟩])
            exact ex_subL (i := 0) (xs := [.int c0, .int c1]) (jj := 0) (q := 0) f (ev_var rfl) ev_int rfl ix0 (by simp [okw, nomut])
          · exact ex_ret (ev_var rfl)
        simp only [exL, x]
      show _ = some (U.int ((c0 % many).toNat : Int), _)
      rw [e]
      exact (if_pos rfl).trans (run_rt b (fin_cut rfl (by simp)))
    · have := Int.emod_lt_of_pos c0 hm
      have := Int.emod_nonneg c0 (show (many : Int) ≠ 0 by omega)
      omega
  · have q0 := Int.emod_nonneg (c1 * 29819 + 9203) (show (2147483543 : Int) ≠ 0 by omega)
    have q1 := Int.emod_lt_of_pos (c1 * 29819 + 9203) (show (0 : Int) < 2147483543 by omega)
    generalize hv : (c1 * 29819 + 9203) % 2147483543 = v at q0 q1
    have r0 := Int.emod_nonneg ((v * (v + 311)) % 2147483587 / 907) (show (many : Int) ≠ 0 by omega)
    have r1 := Int.emod_lt_of_pos ((v * (v + 311)) % 2147483587 / 907) hm
    refine ⟨(((v * (v + 311)) % 2147483587 / 907) % many).toNat, .lst [.int c0, .int v], ?_, by omega, c0, v, rfl, p0, q0, by omega⟩
    have e : ((((v * (v + 311)) % 2147483587 / 907) % many).toNat : Int) = ((v * (v + 311)) % 2147483587 / 907) % many := Int.toNat_of_nonneg r0
    have b : exL (runF defs k) (ρ.length + 1) b__law_roll [some (.ob 0), some (I many), none, none] (.lst [.int c0, .int c1] :: ρ) = some (.rt (.int (((v * (v + 311)) % 2147483587 / 907) % many)) (.lst [.int c0, .int v] :: ρ)) := by
      unfold b__law_roll
      refine (ex_seq ((ex_ifF (ev_cmp (d := false) (i0 rfl) ev_int (by simp only [evCmp, evLt]; rw [decide_eq_false hc])) rfl).trans ex_nil)).trans ?_
      refine (ex_seq (show exS _ _ _ _ _ = some (.nx [some (.ob 0), some (I many), none, none] (.lst [.int c0, .int v] :: ρ)) from ?_)).trans ?_
      · have f : evalE (runF defs k) (ρ.length + 1) (.bin false .mod (.bi .int [(.bin false .add (.bin false .mul (.idx (.var 0) (.int 1)) (.int 29819)) (.int 9203))]) (.int 2147483543)) [some (.ob 0), some (I many), none, none] (.lst [.int c0, .int c1] :: ρ) = some (.int v, .lst [.int c0, .int c1] :: ρ) := by
          refine ev_bin (ev_bi (ev_l1 (ev_bin (ev_bin (i1 rfl) ev_int (by simp only [evBin]; rw [if_pos (by simp [mulOk])])) ev_int rfl)) rfl) ev_int ?_
          simp only [evBin]
          rw [if_pos (by omega), hv]
        exact ex_subL (i := 0) (xs := [.int c0, .int c1]) (jj := 1) (q := 1) f (ev_var rfl) ev_int rfl ix1 (by simp [okw, nomut])
      · have mk : mulOk v (v + 311) = true := by
          simp only [mulOk, Bool.or_eq_true, Bool.and_eq_true, decide_eq_true_eq]
          left; omega
        refine (ex_seq (ex_set (u := .int ((v * (v + 311)) % 2147483587)) (ev_bin (ev_bi (ev_l1 (ev_bin (i1 rfl) (ev_bin (i1 rfl) ev_int rfl) (by simp only [evBin]; rw [if_pos mk]))) rfl) ev_int (by simp only [evBin]; rw [if_pos (by omega)])))).trans ?_
        refine ex_ret (ev_bin (ev_bi (ev_l1 (ev_bin (ev_var rfl) ev_int (by simp only [evBin]; rw [if_pos (by omega)]))) rfl) (ev_var rfl) ?_)
        simp only [evBin]
        rw [if_pos hm]
    show _ = some (U.int ((((v * (v + 311)) % 2147483587 / 907) % many).toNat : Int), _)
    rw [e]
    exact (if_pos rfl).trans (run_rt b (fin_cut rfl (by simp)))
theorem cup_ok (k : Nat) (ns : List Int) (h : ns.length ≤ 63) : ∃ c, Cup c ∧ runF defs (k + 1) 21 [.scr ns] [] = some (.ob 0, [c]) := by
  rw [run__law_cup]
  obtain ⟨v, hv, h0⟩ : ∃ v : Int, atI (ns.map U.int ++ [U.int 0]) (0 : Int) = some (.int v) ∧ True := by
    cases ns with
    | nil => exact ⟨0, rfl, trivial⟩
    | cons a l => exact ⟨a, atI_of (j := 0) rfl, trivial⟩
  generalize ha : (if v < 0 then -v else v) = a
  have a0 : 0 ≤ a := by subst ha; split <;> omega
  have q0 := Int.emod_nonneg (a * 379 + 5503) (show (1964129453 : Int) ≠ 0 by omega)
  have q1 := Int.emod_lt_of_pos (a * 379 + 5503) (show (0 : Int) < 1964129453 by omega)
  refine ⟨.lst [.int (if a < 10 ^ 18 then 0 else a / 131), .int ((a * 379 + 5503) % 1964129453 + 233)], ⟨_, _, rfl, ?_, by omega, by omega⟩, ?_⟩
  · split
    · omega
    · exact Int.ediv_nonneg a0 (by omega)
  · have s : evalE (runF defs k) 0 (.bi .abs [(.idx (.bin false .add (.col false .list .ex [(.var 0)]) (.lst false [(.int 0)])) (.int 0))]) [some (.scr ns), none] [] = some (.int a, []) := by
      refine ev_bi (ev_l1 (ev_idxL (u := .lst (ns.map U.int ++ [U.int 0])) (ev_bin (ev_col (ev_l1 (ev_var rfl)) rfl rfl) (show evalE _ _ (.lst false [(.int 0)]) _ _ = some (.lst [.int 0], []) from ?_) ?_) ev_int rfl hv)) ?_
      · simp [evalE, evalL, SZ, R.fresh]
      · simp only [evBin, asL, R.fresh]
        rw [if_pos (by simp; unfold SZ; omega)]
        rfl
      · simp only [evBi, ha]
    have b : exL (runF defs k) 0 b__law_cup [some (.scr ns), none] [] = some (.rt (.ob 0) [.lst [.int (if a < 10 ^ 18 then 0 else a / 131), .int ((a * 379 + 5503) % 1964129453 + 233)]]) := by
      unfold b__law_cup
      refine (ex_seq (ex_set s)).trans ?_
      refine ex_ret ?_
      by_cases hlt : a < 10 ^ 18
      · have hlt' : a < 1000000000000000000 := by omega
        simp [exL, exS, evalE, evalL, evalB, evBin, evCmp, evEq, evIn, evLt, neg?, evIdx, evBi, evIsi, truth, asL, asS, cont, asInt, R.fresh, bindP, bindPs, bindI, R.finish, frz, wipeE, R.isNon, okw, okm, evMe, sky, tky, evSlc, evRev, bnd, walk, items, evCol, dget, dput, storeSub, intL, intT, bls, pairKV, keyU, keysU, mulOk, dat, mapO, nomut, nomuts, lk, biF, D0, hlt', SZ, mulOk]
      · have hlt' : ¬ a < 1000000000000000000 := by omega
        simp [exL, exS, evalE, evalL, evalB, evBin, evCmp, evEq, evIn, evLt, neg?, evIdx, evBi, evIsi, truth, asL, asS, cont, asInt, R.fresh, bindP, bindPs, bindI, R.finish, frz, wipeE, R.isNon, okw, okm, evMe, sky, tky, evSlc, evRev, bnd, walk, items, evCol, dget, dput, storeSub, intL, intT, bls, pairKV, keyU, keysU, mulOk, dat, mapO, nomut, nomuts, lk, biF, D0, hlt', SZ, mulOk]
    exact (if_pos rfl).trans (run_rt b rfl)
end K05

set_option Elab.async false
set_option linter.all false
set_option maxRecDepth 100000
set_option maxHeartbeats 4000000
namespace K05
open PySem L2 R
/-! ### sorts and likeness of plain values -/
def srtU : U → Int
  | .non => 0
  | .bl _ => 1
  | .int _ => 2
  | .str _ => 3
  | .tup _ => 4
  | .lst _ => 5
  | _ => 6
theorem sort_pl (k : Nat) {B d : Nat} {u : U} (h : Pl B d u) (μ : Mu) : runF defs (k + 1) 24 [u] μ = some (.int (srtU u), μ) := by
  rw [run__law_sort]
  cases h <;> simp [b__law_sort, exL, exS, evalE, evalL, evalB, evBin, evCmp, evEq, evIn, evLt, neg?, evIdx, evBi, evIsi, truth, asL, asS, cont, asInt, R.fresh, bindP, bindPs, bindI, R.finish, frz, wipeE, R.isNon, okw, okm, evMe, sky, tky, evSlc, evRev, bnd, walk, items, evCol, dget, dput, storeSub, intL, intT, bls, pairKV, keyU, keysU, mulOk, dat, mapO, nomut, nomuts, lk, biF, D0, endO, srtU]
theorem like_pl {B : Nat} (hB : B ≤ SZ) {d : Nat} {u : U} (h : Pl B d u) : ∀ (k : Nat) (μ : Mu), d ≤ D0 → runF defs (k + d + 2) 25 [u, u] μ = some (.bl true, μ) := by
  have flat : ∀ (u : U) (k : Nat) (μ : Mu), Pl B 0 u → runF defs (k + 2) 25 [u, u] μ = some (.bl true, μ) := fun u k μ h => by
    rw [run__law_like]
    have s := sort_pl k h μ
    have e := eq_self μ h (by decide)
    have n6 : srtU u ≠ 6 ∧ srtU u ≠ 4 ∧ srtU u ≠ 5 := by cases h <;> simp [srtU]
    have e6 : (srtU u == 6) = false := by simpa using n6.1
    have e4 : PyData.eqv (.int 4) (.int (srtU u)) = false := by simp [PyData.eqv]; intro z; exact n6.2.1 z.symm
    have e5 : PyData.eqv (.int 5) (.int (srtU u)) = false := by simp [PyData.eqv]; intro z; exact n6.2.2 z.symm
    have e6' : PyData.eqv (.int (srtU u)) (.int 6) = false := by simp [PyData.eqv]; exact n6.1
    have er : PyData.eqv (.int (srtU u)) (.int (srtU u)) = true := by simp [PyData.eqv]
    simp only [evEq] at e
    simp [b__law_like, s, evalE, evalL, evalB, evCmp, evEq, neg?, dat_int, er, e6', exL, exS, truth, evIn, cont, SZ, D0, dat, mapO, e4, e5]
    simp only [D0] at e
    simp [e, endO, R.finish, frz]
  induction h with
  | non d => intro k μ _; exact flat _ (k + d) μ (.non 0)
  | bl d b => intro k μ _; exact flat _ (k + d) μ (.bl 0 b)
  | int d i => intro k μ _; exact flat _ (k + d) μ (.int 0 i)
  | str d x => intro k μ _; exact flat _ (k + d) μ (.str 0 x)
  | @tup d xs hz h ih =>
    intro k μ hd
    rw [show k + (d + 1) + 2 = (k + d + 2) + 1 by omega, run__law_like]
    have s := sort_pl (k + d + 1) (Pl.tup hz h) μ
    rw [show k + d + 1 + 1 = k + d + 2 by omega] at s
    have c : evalE (runF defs (k + d + 2)) μ.length c__law_like_0 [some (.tup xs), some (.tup xs), some (.int 4), none, none] μ = some (.lst [], μ) := by
      have e : zips xs xs = xs.map fun u => .tup [u, u] := by
        have := zip_enc id id xs xs
        rw [List.map_id] at this
        rw [this]
        clear this s h hz ih
        induction xs with
        | nil => rfl
        | cons x xs ih => simpa using ih
      refine (ev_comp (us := [.tup xs, .tup xs]) (μ1 := μ) (xs := xs.map fun u => .tup [u, u]) (ev_l2 (ev_var rfl) (ev_var rfl)) (by simp only [walk, e]) (compL_filter (enc := fun u => U.tup [u, u]) (g := id) (p := fun _ => false) (fun u hu => ?_) (by simp; omega))).trans (by simp [R.fresh])
      exact cs_no (v := .bl false) rfl (ev_not (d := true) (ev_call (ev_l2 (ev_var rfl) (ev_var rfl)) (ih u hu k μ (by omega))) rfl) rfl
    simp only [srtU] at s
    have sz2 : 2 ≤ SZ := by decide
    simp [b__law_like, sz2, s, c, exL, exS, evalE, evalL, evalB, evBin, evCmp, evEq, evIn, evLt, neg?, evIdx, evBi, evIsi, truth, asL, asS, cont, asInt, R.fresh, bindP, bindPs, bindI, R.finish, frz, wipeE, R.isNon, okw, okm, evMe, sky, tky, evSlc, evRev, bnd, walk, items, evCol, dget, dput, storeSub, intL, intT, bls, pairKV, keyU, keysU, mulOk, dat, mapO, nomut, nomuts, lk, biF, D0, endO, PyData.eqv, PyData.eqvAll]
  | @lst d xs hz h ih =>
    intro k μ hd
    rw [show k + (d + 1) + 2 = (k + d + 2) + 1 by omega, run__law_like]
    have s := sort_pl (k + d + 1) (Pl.lst hz h) μ
    rw [show k + d + 1 + 1 = k + d + 2 by omega] at s
    have c : evalE (runF defs (k + d + 2)) μ.length c__law_like_0 [some (.lst xs), some (.lst xs), some (.int 5), none, none] μ = some (.lst [], μ) := by
      have e : zips xs xs = xs.map fun u => .tup [u, u] := by
        have := zip_enc id id xs xs
        rw [List.map_id] at this
        rw [this]
        clear this s h hz ih
        induction xs with
        | nil => rfl
        | cons x xs ih => simpa using ih
      refine (ev_comp (us := [.lst xs, .lst xs]) (μ1 := μ) (xs := xs.map fun u => .tup [u, u]) (ev_l2 (ev_var rfl) (ev_var rfl)) (by simp only [walk, e]) (compL_filter (enc := fun u => U.tup [u, u]) (g := id) (p := fun _ => false) (fun u hu => ?_) (by simp; omega))).trans (by simp [R.fresh])
      exact cs_no (v := .bl false) rfl (ev_not (d := true) (ev_call (ev_l2 (ev_var rfl) (ev_var rfl)) (ih u hu k μ (by omega))) rfl) rfl
    simp only [srtU] at s
    have sz2 : 2 ≤ SZ := by decide
    simp [b__law_like, sz2, s, c, exL, exS, evalE, evalL, evalB, evBin, evCmp, evEq, evIn, evLt, neg?, evIdx, evBi, evIsi, truth, asL, asS, cont, asInt, R.fresh, bindP, bindPs, bindI, R.finish, frz, wipeE, R.isNon, okw, okm, evMe, sky, tky, evSlc, evRev, bnd, walk, items, evCol, dget, dput, storeSub, intL, intT, bls, pairKV, keyU, keysU, mulOk, dat, mapO, nomut, nomuts, lk, biF, D0, endO, PyData.eqv, PyData.eqvAll]
/-! ### one of some -/
theorem some_ok (k : Nat) {c : U} (ρ : Mu) (C : Cup c) {u : U} {xs : List U} (hu : u = .lst xs ∨ u = .tup xs) (hf : frz (ρ.length + 1) (c :: ρ) D0 u = some u → True) (h1 : 1 ≤ xs.length) (h2 : xs.length < 1073741824) (hfr : ∀ x ∈ xs, ∀ c', frz (ρ.length + 1) (c' :: ρ) D0 x = some x) :
    ∃ (v : U) (c' : U), runF defs (k + 2) 23 [.ob 0, u] (c :: ρ) = some (v, c' :: ρ) ∧ v ∈ xs ∧ Cup c' := by
  obtain ⟨r, c', e, hr, C'⟩ := roll_ok k ρ C h1 h2
  refine ⟨xs[r], c', ?_, List.getElem_mem hr, C'⟩
  rw [run__law_some]
  have b : exL (runF defs (k + 1)) (ρ.length + 1) b__law_some [some (.ob 0), some u] (c :: ρ) = some (.rt xs[r] (c' :: ρ)) := by
    unfold b__law_some
    refine ex_ret (ev_idx (ev_var rfl) (ev_call (us := [.ob 0, I xs.length]) (ev_l2 (ev_var rfl) (ev_bi (ev_l1 (ev_var rfl)) ?_)) e) ?_)
    · rcases hu with rfl | rfl <;> rfl
    · rcases hu with rfl | rfl <;> exact atI_of (by simp [hr])
  exact (if_pos rfl).trans (run_rt b (fin_cut (hfr _ (List.getElem_mem hr) _) (by simp)))
/-! ### what is whole, what is a tuple -/
def isW (lo hi : Int) : U → Bool
  | .int i => decide (lo ≤ i ∧ i ≤ hi)
  | _ => false
def isT (lo hi : Nat) : U → Bool
  | .tup xs => decide (lo ≤ xs.length ∧ xs.length ≤ hi)
  | _ => false
theorem whole_pl (k : Nat) {B d : Nat} {u : U} (h : Pl B d u) (lo hi : Int) (μ : Mu) : runF defs (k + 1) 0 [u, .int lo, .int hi] μ = some (.bl (isW lo hi u), μ) := by
  rw [run_is_whole]
  cases h with
  | int d i =>
    by_cases h1 : i < lo
    · have : isW lo hi (.int i) = false := by simp [isW]; omega
      rw [this]
      simp [b_is_whole, h1, exL, exS, evalE, evalL, evalB, evBin, evCmp, evEq, evIn, evLt, neg?, evIdx, evBi, evIsi, truth, asL, asS, cont, asInt, R.fresh, bindP, bindPs, bindI, R.finish, frz, wipeE, R.isNon, okw, okm, evMe, sky, tky, evSlc, evRev, bnd, walk, items, evCol, dget, dput, storeSub, intL, intT, bls, pairKV, keyU, keysU, mulOk, dat, mapO, nomut, nomuts, lk, biF, D0, endO]
    · by_cases h2 : hi < i
      · have : isW lo hi (.int i) = false := by simp [isW]; omega
        rw [this]
        simp [b_is_whole, h1, h2, exL, exS, evalE, evalL, evalB, evBin, evCmp, evEq, evIn, evLt, neg?, evIdx, evBi, evIsi, truth, asL, asS, cont, asInt, R.fresh, bindP, bindPs, bindI, R.finish, frz, wipeE, R.isNon, okw, okm, evMe, sky, tky, evSlc, evRev, bnd, walk, items, evCol, dget, dput, storeSub, intL, intT, bls, pairKV, keyU, keysU, mulOk, dat, mapO, nomut, nomuts, lk, biF, D0, endO]
      · have : isW lo hi (.int i) = true := by simp [isW]; omega
        rw [this]
        simp [b_is_whole, h1, h2, exL, exS, evalE, evalL, evalB, evBin, evCmp, evEq, evIn, evLt, neg?, evIdx, evBi, evIsi, truth, asL, asS, cont, asInt, R.fresh, bindP, bindPs, bindI, R.finish, frz, wipeE, R.isNon, okw, okm, evMe, sky, tky, evSlc, evRev, bnd, walk, items, evCol, dget, dput, storeSub, intL, intT, bls, pairKV, keyU, keysU, mulOk, dat, mapO, nomut, nomuts, lk, biF, D0, endO]
  | _ => simp [b_is_whole, exL, exS, evalE, evalL, evalB, evBin, evCmp, evEq, evIn, evLt, neg?, evIdx, evBi, evIsi, truth, asL, asS, cont, asInt, R.fresh, bindP, bindPs, bindI, R.finish, frz, wipeE, R.isNon, okw, okm, evMe, sky, tky, evSlc, evRev, bnd, walk, items, evCol, dget, dput, storeSub, intL, intT, bls, pairKV, keyU, keysU, mulOk, dat, mapO, nomut, nomuts, lk, biF, D0, endO, isW]
theorem tuple_pl (k : Nat) {B d : Nat} {u : U} (h : Pl B d u) (lo hi : Nat) (μ : Mu) : runF defs (k + 1) 1 [u, I lo, I hi] μ = some (.bl (isT lo hi u), μ) := by
  rw [run_is_tuple_of]
  cases h with
  | @tup d xs hz h =>
    by_cases h1 : (xs.length : Int) < lo
    · have : isT lo hi (.tup xs) = false := by simp [isT]; omega
      rw [this]
      have h1' : xs.length < lo := by omega
      simp [b_is_tuple_of, h1', exL, exS, evalE, evalL, evalB, evBin, evCmp, evEq, evIn, evLt, neg?, evIdx, evBi, evIsi, truth, asL, asS, cont, asInt, R.fresh, bindP, bindPs, bindI, R.finish, frz, wipeE, R.isNon, okw, okm, evMe, sky, tky, evSlc, evRev, bnd, walk, items, evCol, dget, dput, storeSub, intL, intT, bls, pairKV, keyU, keysU, mulOk, dat, mapO, nomut, nomuts, lk, biF, D0, endO]
    · by_cases h2 : (hi : Int) < xs.length
      · have : isT lo hi (.tup xs) = false := by simp [isT]; omega
        rw [this]
        have h1' : ¬ xs.length < lo := by omega
        have h2' : hi < xs.length := by omega
        simp [b_is_tuple_of, h1', h2', exL, exS, evalE, evalL, evalB, evBin, evCmp, evEq, evIn, evLt, neg?, evIdx, evBi, evIsi, truth, asL, asS, cont, asInt, R.fresh, bindP, bindPs, bindI, R.finish, frz, wipeE, R.isNon, okw, okm, evMe, sky, tky, evSlc, evRev, bnd, walk, items, evCol, dget, dput, storeSub, intL, intT, bls, pairKV, keyU, keysU, mulOk, dat, mapO, nomut, nomuts, lk, biF, D0, endO]
      · have : isT lo hi (.tup xs) = true := by simp [isT]; omega
        rw [this]
        have h1' : ¬ xs.length < lo := by omega
        have h2' : ¬ hi < xs.length := by omega
        simp [b_is_tuple_of, h1', h2', exL, exS, evalE, evalL, evalB, evBin, evCmp, evEq, evIn, evLt, neg?, evIdx, evBi, evIsi, truth, asL, asS, cont, asInt, R.fresh, bindP, bindPs, bindI, R.finish, frz, wipeE, R.isNon, okw, okm, evMe, sky, tky, evSlc, evRev, bnd, walk, items, evCol, dget, dput, storeSub, intL, intT, bls, pairKV, keyU, keysU, mulOk, dat, mapO, nomut, nomuts, lk, biF, D0, endO]
  | _ => simp [b_is_tuple_of, exL, exS, evalE, evalL, evalB, evBin, evCmp, evEq, evIn, evLt, neg?, evIdx, evBi, evIsi, truth, asL, asS, cont, asInt, R.fresh, bindP, bindPs, bindI, R.finish, frz, wipeE, R.isNon, okw, okm, evMe, sky, tky, evSlc, evRev, bnd, walk, items, evCol, dget, dput, storeSub, intL, intT, bls, pairKV, keyU, keysU, mulOk, dat, mapO, nomut, nomuts, lk, biF, D0, endO, isT]
/-! ### friends -/
structure Town (n : Nat) (es : List (Nat × Nat)) : Prop where
  n1 : 1 ≤ n
  n12 : n ≤ 12
  len : es.length ≤ 400
  lt : ∀ p ∈ es, p.1 < p.2 ∧ p.2 < n
  asc : es.Pairwise lex
theorem pl_pU {B d : Nat} (p : Nat × Nat) (hB : 2 ≤ B) : Pl B (d + 1) (pU p) := .tup (by simpa using hB) fun u hu => by
  simp only [List.mem_cons, List.not_mem_nil, or_false] at hu
  rcases hu with rfl | rfl <;> exact .int _ _
theorem pl_es {B d : Nat} {es : List (Nat × Nat)} (hB : 2 ≤ B) (h : es.length ≤ B) : Pl B (d + 2) (.tup (es.map pU)) := .tup (by simpa using h) fun u hu => by
  obtain ⟨p, _, rfl⟩ := List.mem_map.mp hu
  exact pl_pU p hB
theorem pl_tU {B d : Nat} {n : Nat} {es : List (Nat × Nat)} (hB : 2 ≤ B) (h : es.length ≤ B) : Pl B (d + 3) (tU n es) := .tup (by simpa using hB) fun u hu => by
  simp only [List.mem_cons, List.not_mem_nil, or_false] at hu
  rcases hu with rfl | rfl
  · exact .int _ _
  · exact pl_es hB h
theorem pair_ok (k : Nat) (p : Nat × Nat) (n : Nat) (μ : Mu) (h : p.1 < p.2 ∧ p.2 < n) : runF defs (k + 2) 5 [pU p, I n] μ = some (.bl true, μ) := by
  rw [run_is_pair_of]
  have t := tuple_pl k (pl_pU (B := 2) (d := 0) p (by omega)) 2 2 μ
  have w1 := whole_pl k (Pl.int (B := 0) 0 (p.1 : Int)) 0 ((n : Int) - 1) μ
  have w2 := whole_pl k (Pl.int (B := 0) 0 (p.2 : Int)) 0 ((n : Int) - 1) μ
  have e1 : isW 0 ((n : Int) - 1) (I p.1) = true := by simp [isW]; omega
  have e2 : isW 0 ((n : Int) - 1) (I p.2) = true := by simp [isW]; omega
  have e3 : isT 2 2 (pU p) = true := by simp [isT]
  rw [e1] at w1
  rw [e2] at w2
  rw [e3] at t
  have a0 : atI [I p.1, I p.2] (0 : Int) = some (I p.1) := rfl
  have a1 : atI [I p.1, I p.2] (1 : Int) = some (I p.2) := rfl
  unfold b_is_pair_of
  refine (if_pos rfl).trans (run_rt (μ1 := μ) (u := .bl true) ?_ (fin_cut rfl (by simp)))
  refine (ex_seq ((ex_ifF (u := .bl false) (μ1 := μ) (ev_orF (μ1 := μ) (ev_not (d := true) (ev_call (ev_lcons (ev_var rfl) (ev_l2 ev_int ev_int)) t) rfl) (ev_orF (μ1 := μ) (ev_not (d := true) (ev_call (ev_lcons (ev_idxT (ev_var rfl) ev_int a0) (ev_l2 ev_int (ev_bin (ev_var rfl) ev_int rfl))) w1) rfl) (ev_b1 (ev_not (d := true) (ev_call (ev_lcons (ev_idxT (ev_var rfl) ev_int a1) (ev_l2 ev_int (ev_bin (ev_var rfl) ev_int rfl))) w2) rfl)))) rfl).trans ex_nil)).trans ?_
  refine ex_ret (ev_cmp (d := true) (ev_idxT (ev_var rfl) ev_int a0) (ev_idxT (ev_var rfl) ev_int a1) ?_)
  exact lt_I.trans (by rw [decide_eq_true h.1])
theorem asc_ok (k : Nat) (es : List (Nat × Nat)) (μ : Mu) (h : es.Pairwise lex) (hz : es.length ≤ 400) : runF defs (k + 1) 2 [.tup (es.map pU)] μ = some (.bl true, μ) := by
  rw [run_is_ascending]
  have c : evalE (runF defs k) μ.length c_is_ascending_0 [some (.tup (es.map pU)), none, none] μ = some (.lst ((es.zip (es.drop 1)).map fun _ => .bl true), μ) := by
    refine (ev_comp (us := [.tup (es.map pU), .tup ((es.drop 1).map pU)]) (μ1 := μ) ?_ ?_ (compL_all (enc := fun q : (Nat × Nat) × (Nat × Nat) => .tup [pU q.1, pU q.2]) (g := fun _ => .bl true) (xs := es.zip (es.drop 1)) (fun q hq => ?_) (by simp; unfold SZ; omega))).trans rfl
    · have := cutU_from (es.map pU) 1
      simp [exL, exS, evalE, evalL, evalB, evBin, evCmp, evEq, evIn, evLt, neg?, evIdx, evBi, evIsi, truth, asL, asS, cont, asInt, R.fresh, bindP, bindPs, bindI, R.finish, frz, wipeE, R.isNon, okw, okm, evMe, sky, tky, evSlc, evRev, bnd, walk, items, evCol, dget, dput, storeSub, intL, intT, bls, pairKV, keyU, keysU, mulOk, dat, mapO, nomut, nomuts, lk, biF, D0, endO] at this ⊢
      exact this
    · simp only [walk, zip_enc]
    · have hl := lex_lt (chain_zip h q hq) μ
      simp only [cstep, bindP, bindPs, wipeE, evalE, truth]
      simp [evCmp, hl]
  simp [b_is_ascending, c, exL, exS, evalE, evalL, evalB, evBin, evCmp, evEq, evIn, evLt, neg?, evIdx, evBi, evIsi, truth, asL, asS, cont, asInt, R.fresh, bindP, bindPs, bindI, R.finish, frz, wipeE, R.isNon, okw, okm, evMe, sky, tky, evSlc, evRev, bnd, walk, items, evCol, dget, dput, storeSub, intL, intT, bls, pairKV, keyU, keysU, mulOk, dat, mapO, nomut, nomuts, lk, biF, D0, endO, all_bls, -List.map_const', -List.drop_one]
theorem friends_ok (k : Nat) {n : Nat} {es : List (Nat × Nat)} (μ : Mu) (T : Town n es) : runF defs (k + 3) 6 [tU n es] μ = some (.bl true, μ) := by
  rw [run_are_friends]
  have n1 := T.n1
  have n12 := T.n12
  have hl := T.len
  have t := tuple_pl (k + 1) (pl_tU (B := 400) (d := 0) (n := n) (es := es) (by omega) hl) 2 2 μ
  have w := whole_pl (k + 1) (Pl.int (B := 0) 0 (n : Int)) 1 60 μ
  have t2 := tuple_pl (k + 1) (pl_es (B := 400) (d := 0) (es := es) (by omega) hl) 0 400 μ
  have a := asc_ok (k + 1) es μ T.asc T.len
  have e1 : isT 2 2 (tU n es) = true := by simp [isT]
  have e2 : isW 1 60 (I n) = true := by simp [isW]; omega
  have e3 : isT 0 400 (.tup (es.map pU)) = true := by simp [isT]; omega
  rw [e1] at t
  rw [e2] at w
  rw [e3] at t2
  have a0 : atI [I n, .tup (es.map pU)] (0 : Int) = some (I n) := rfl
  have a1 : atI [I n, .tup (es.map pU)] (1 : Int) = some (.tup (es.map pU)) := rfl
  have c : evalE (runF defs (k + 2)) μ.length c_are_friends_0 [some (tU n es), none] μ = some (.lst (es.map fun _ => .bl true), μ) := by
    refine (ev_comp (us := [.tup (es.map pU)]) (μ1 := μ) ?_ rfl (compL_all (enc := pU) (g := fun _ => .bl true) (xs := es) (fun q hq => ?_) (by simp; unfold SZ; omega))).trans rfl
    · simp [exL, exS, evalE, evalL, evalB, evBin, evCmp, evEq, evIn, evLt, neg?, evIdx, evBi, evIsi, truth, asL, asS, cont, asInt, R.fresh, bindP, bindPs, bindI, R.finish, frz, wipeE, R.isNon, okw, okm, evMe, sky, tky, evSlc, evRev, bnd, walk, items, evCol, dget, dput, storeSub, intL, intT, bls, pairKV, keyU, keysU, mulOk, dat, mapO, nomut, nomuts, lk, biF, D0, endO, a1]
    · simp [cstep, exL, exS, evalE, evalL, evalB, evBin, evCmp, evEq, evIn, evLt, neg?, evIdx, evBi, evIsi, truth, asL, asS, cont, asInt, R.fresh, bindP, bindPs, bindI, R.finish, frz, wipeE, R.isNon, okw, okm, evMe, sky, tky, evSlc, evRev, bnd, walk, items, evCol, dget, dput, storeSub, intL, intT, bls, pairKV, keyU, keysU, mulOk, dat, mapO, nomut, nomuts, lk, biF, D0, endO, a0, pair_ok k q n μ (T.lt q hq)]
  unfold b_are_friends
  refine (if_pos rfl).trans (run_rt (μ1 := μ) (u := .bl true) ?_ (fin_cut rfl (by simp)))
  refine (ex_seq ((ex_ifF (u := .bl false) (μ1 := μ) (ev_orF (μ1 := μ) (ev_not (d := true) (ev_call (ev_lcons (ev_var rfl) (ev_l2 ev_int ev_int)) t) rfl) (ev_orF (μ1 := μ) (ev_not (d := true) (ev_call (ev_lcons (ev_idxT (ev_var rfl) ev_int a0) (ev_l2 ev_int ev_gint)) w) rfl) (ev_b1 (ev_not (d := true) (ev_call (ev_lcons (ev_idxT (ev_var rfl) ev_int a1) (ev_l2 ev_int ev_gint)) t2) rfl)))) rfl).trans ex_nil)).trans ?_
  refine ex_ret (ev_andT (μ1 := μ) (ev_bi (ev_l1 c) ?_) (ev_b1 (ev_call (ev_l1 (ev_idxT (ev_var rfl) ev_int a1)) a)))
  simp [evBi, bls, asL, all_bls, -List.map_const']
theorem need_few_ok (k : Nat) {n : Nat} {es : List (Nat × Nat)} (μ : Mu) (T : Town n es) : runF defs (k + 4) 8 [tU n es] μ = some (.non, μ) := by
  rw [run_need_few]
  unfold b_need_few
  refine (if_pos rfl).trans (run_nx (μ1 := μ) (σ := [some (tU n es)]) ?_ (fin_cut rfl (by simp)))
  refine (ex_seq ((ex_ifF (u := .bl false) (μ1 := μ) (ev_orF (μ1 := μ) (ev_not (d := true) (ev_call (ev_l1 (ev_var rfl)) (friends_ok k μ T)) rfl) (ev_b1 (ev_cmp (d := false) (ev_idxT (ev_var rfl) ev_int (w := I n) rfl) ev_gint ?_))) rfl).trans ex_nil)).trans ex_nil
  have := T.n12
  simp only [evCmp, evLt]
  rw [decide_eq_false (by omega)]
end K05

set_option Elab.async false
set_option linter.all false
set_option maxRecDepth 100000
set_option maxHeartbeats 4000000
/-! who knows what behind a row of calls; nothing of the program here -/
namespace K05
abbrev Kn := Nat → Nat → Bool
def k0 : Kn := fun h o => h == o
def stp (K : Kn) (p : Nat × Nat) : Kn := fun h o => if h = p.1 ∨ h = p.2 then K p.1 o || K p.2 o else K h o
def kn (row : List (Nat × Nat)) : Kn := row.foldl stp k0
def tab (n : Nat) (K : Kn) : List (List Nat) := (List.range n).map fun h => (List.range n).filter (K h)
theorem snoc_ind {α : Type} {P : List α → Prop} (h0 : P []) (h1 : ∀ l a, P l → P (l ++ [a])) (l : List α) : P l := by
  have : ∀ l : List α, P l.reverse := fun l => by
    induction l with
    | nil => exact h0
    | cons a l ih => rw [List.reverse_cons]; exact h1 _ _ ih
  have := this l.reverse
  rwa [List.reverse_reverse] at this
theorem kn_snoc (row : List (Nat × Nat)) (p : Nat × Nat) : kn (row ++ [p]) = stp (kn row) p := by simp [kn]
theorem k0_iff {h o : Nat} : k0 h o = true ↔ h = o := by simp [k0]
theorem stp_iff {K : Kn} {p : Nat × Nat} {h o : Nat} : stp K p h o = true ↔ ∃ x, stp k0 p h x = true ∧ K x o = true := by
  unfold stp
  by_cases c : h = p.1 ∨ h = p.2
  · simp only [if_pos c, Bool.or_eq_true, k0_iff]
    constructor
    · rintro (z | z)
      · exact ⟨p.1, .inl rfl, z⟩
      · exact ⟨p.2, .inr rfl, z⟩
    · rintro ⟨x, rfl | rfl, z⟩
      · exact .inl z
      · exact .inr z
  · simp only [if_neg c, k0_iff]
    constructor
    · exact fun z => ⟨h, rfl, z⟩
    · rintro ⟨x, rfl, z⟩
      exact z
theorem stp_sym {p : Nat × Nat} {h o : Nat} : stp k0 p h o = true ↔ stp k0 p o h = true := by
  unfold stp
  by_cases c : h = p.1 ∨ h = p.2 <;> by_cases d : o = p.1 ∨ o = p.2
  · simp only [if_pos c, if_pos d, Bool.or_eq_true, k0_iff]
    omega
  · simp only [if_pos c, if_neg d, Bool.or_eq_true, k0_iff]
    omega
  · simp only [if_neg c, if_pos d, Bool.or_eq_true, k0_iff]
    omega
  · simp only [if_neg c, if_neg d, k0_iff]
    omega
theorem fold_lin : ∀ (row : List (Nat × Nat)) (S : Kn) (h o : Nat), row.foldl stp S h o = true ↔ ∃ x, kn row h x = true ∧ S x o = true
  | [], S, h, o => by
    simp only [List.foldl_nil, kn, k0_iff]
    constructor
    · exact fun z => ⟨h, rfl, z⟩
    · rintro ⟨x, rfl, z⟩
      exact z
  | p :: row, S, h, o => by
    rw [List.foldl_cons, fold_lin row]
    have e : ∀ x, kn (p :: row) h x = true ↔ ∃ y, kn row h y = true ∧ stp k0 p y x = true := fun x => fold_lin row (stp k0 p) h x
    constructor
    · rintro ⟨y, h1, h2⟩
      obtain ⟨x, h3, h4⟩ := stp_iff.mp h2
      exact ⟨x, (e x).mpr ⟨y, h1, h3⟩, h4⟩
    · rintro ⟨x, h1, h2⟩
      obtain ⟨y, h3, h4⟩ := (e x).mp h1
      exact ⟨y, h3, stp_iff.mpr ⟨x, h4, h2⟩⟩
/-- the row turned over: who knows is known -/
theorem kn_rev : ∀ (row : List (Nat × Nat)) (h o : Nat), kn row.reverse h o = kn row o h
  | [], h, o => by
    rw [Bool.eq_iff_iff]
    simp only [List.reverse_nil, kn, List.foldl_nil, k0_iff]
    omega
  | p :: row, h, o => by
    rw [Bool.eq_iff_iff, List.reverse_cons, kn_snoc, stp_iff]
    have e : kn (p :: row) o h = true ↔ ∃ y, kn row o y = true ∧ stp k0 p y h = true := fold_lin row (stp k0 p) o h
    rw [e]
    constructor
    · rintro ⟨x, h1, h2⟩
      rw [kn_rev row] at h2
      exact ⟨x, h2, stp_sym.mp h1⟩
    · rintro ⟨x, h1, h2⟩
      exact ⟨x, stp_sym.mp h2, by rw [kn_rev row]; exact h1⟩
def InN (n : Nat) (row : List (Nat × Nat)) : Prop := ∀ p ∈ row, p.1 < n ∧ p.2 < n
theorem InN.snoc {n : Nat} {row : List (Nat × Nat)} {p : Nat × Nat} (h : InN n (row ++ [p])) : InN n row ∧ p.1 < n ∧ p.2 < n := ⟨fun q hq => h q (by simp [hq]), h p (by simp)⟩
theorem InN.take {n : Nat} {row : List (Nat × Nat)} (h : InN n row) (i : Nat) : InN n (row.take i) := fun q hq => h q (List.mem_of_mem_take hq)
theorem InN.rev {n : Nat} {row : List (Nat × Nat)} (h : InN n row) : InN n row.reverse := fun q hq => h q (by simpa using hq)
theorem kn_lt {n : Nat} (row : List (Nat × Nat)) (hr : InN n row) : ∀ {h o : Nat}, kn row h o = true → h < n → o < n := by
  induction row using snoc_ind with
  | h0 => intro h o z hh; have := k0_iff.mp z; omega
  | h1 row p ih =>
    intro h o z hh
    obtain ⟨h1, h2, h3⟩ := hr.snoc
    rw [kn_snoc] at z
    unfold stp at z
    split at z
    · rcases Bool.or_eq_true .. ▸ z with z | z
      · exact ih h1 z h2
      · exact ih h1 z h3
    · exact ih h1 z hh
/-! ### alike on n houses -/
def Eqn (n : Nat) (K L : Kn) : Prop := ∀ h, h < n → ∀ o, o < n → K h o = L h o
theorem tab_eq {n : Nat} {K L : Kn} : tab n K = tab n L ↔ Eqn n K L := by
  unfold tab Eqn
  rw [List.map_inj_left]
  constructor
  · intro z h hh o ho
    have := z h (by simpa using hh)
    rw [Bool.eq_iff_iff]
    have e : o ∈ (List.range n).filter (K h) ↔ o ∈ (List.range n).filter (L h) := by rw [this]
    simpa [ho] using e
  · intro z h hh
    exact List.filter_congr fun o ho => z h (by simpa using hh) o (by simpa using ho)
theorem Eqn.stp {n : Nat} {K L : Kn} (e : Eqn n K L) {p : Nat × Nat} (h1 : p.1 < n) (h2 : p.2 < n) : Eqn n (stp K p) (stp L p) := fun h hh o ho => by
  unfold K05.stp
  split
  · rw [e _ h1 o ho, e _ h2 o ho]
  · exact e h hh o ho
theorem Eqn.symm {n : Nat} {K L : Kn} (e : Eqn n K L) : Eqn n L K := fun h hh o ho => (e h hh o ho).symm
theorem Eqn.trans {n : Nat} {K L M : Kn} (e : Eqn n K L) (f : Eqn n L M) : Eqn n K M := fun h hh o ho => (e h hh o ho).trans (f h hh o ho)
/-! ### who knows all -/
def rowFull (n : Nat) (K : Kn) (h : Nat) : Bool := (List.range n).all (K h)
def fullB (n : Nat) (K : Kn) : Bool := (List.range n).all (rowFull n K)
def someFull (n : Nat) (K : Kn) : Bool := (List.range n).any (rowFull n K)
theorem rowFull_len {n : Nat} {K : Kn} {h : Nat} : rowFull n K h = true ↔ ((List.range n).filter (K h)).length = n := by
  have := List.length_filter_eq_length_iff (p := K h) (l := List.range n)
  rw [List.length_range] at this
  rw [this, rowFull, List.all_eq_true]
theorem full_rev (n : Nat) (row : List (Nat × Nat)) : fullB n (kn row.reverse) = fullB n (kn row) := by
  rw [Bool.eq_iff_iff]
  simp only [fullB, rowFull, List.all_eq_true, List.mem_range]
  constructor
  · intro z h hh o ho
    have := z o ho h hh
    rwa [kn_rev] at this
  · intro z h hh o ho
    have := z o ho h hh
    rwa [kn_rev]
/-! ### idle calls -/
def idle (n : Nat) (row : List (Nat × Nat)) (i : Nat) : Bool := decide (tab n (kn (row.take i)) = tab n (kn (row.take (i + 1))))
def idles (n : Nat) (row : List (Nat × Nat)) : List Nat := (List.range row.length).filter (idle n row)
def rest (n : Nat) (row : List (Nat × Nat)) : List (Nat × Nat) := (((List.range row.length).zip row).filter fun q => decide (q.1 ∉ idles n row)).map (·.2)
theorem idle_old (n : Nat) (row : List (Nat × Nat)) (p : Nat × Nat) {i : Nat} (h : i < row.length) : idle n (row ++ [p]) i = idle n row i := by
  unfold idle
  rw [List.take_append_of_le_length (by omega), List.take_append_of_le_length (by omega)]
theorem idle_new (n : Nat) (row : List (Nat × Nat)) (p : Nat × Nat) : idle n (row ++ [p]) row.length = decide (tab n (kn row) = tab n (kn (row ++ [p]))) := by
  unfold idle
  rw [List.take_append_of_le_length (Nat.le_refl _), List.take_length, List.take_of_length_le (by simp)]
theorem idles_snoc (n : Nat) (row : List (Nat × Nat)) (p : Nat × Nat) : idles n (row ++ [p]) = idles n row ++ if tab n (kn row) = tab n (kn (row ++ [p])) then [row.length] else [] := by
  unfold idles
  rw [List.length_append, List.length_singleton, List.range_succ, List.filter_append]
  congr 1
  · exact List.filter_congr fun i hi => idle_old n row p (by simpa using hi)
  · rw [List.filter_cons, idle_new]
    simp
theorem idles_lt {n : Nat} {row : List (Nat × Nat)} {i : Nat} (h : i ∈ idles n row) : i < row.length := by
  unfold idles at h
  simp at h
  exact h.1
theorem rest_snoc (n : Nat) (row : List (Nat × Nat)) (p : Nat × Nat) : rest n (row ++ [p]) = rest n row ++ if tab n (kn row) = tab n (kn (row ++ [p])) then [] else [p] := by
  unfold rest
  rw [List.length_append, List.length_singleton, List.range_succ, List.zip_append (by simp), List.filter_append, List.map_append]
  congr 1
  · congr 1
    refine List.filter_congr fun q hq => ?_
    have hl : q.1 < row.length := by
      have := (List.of_mem_zip hq).1
      simpa using this
    rw [idles_snoc]
    congr 1
    rw [List.mem_append, eq_iff_iff]
    constructor
    · exact fun z w => z (.inl w)
    · intro z w
      rcases w with w | w
      · exact z w
      · split at w
        · simp at w; omega
        · simp at w
  · rw [idles_snoc]
    split
    · simp
    · have : row.length ∉ idles n row := fun z => by have := idles_lt z; omega
      simp [this]
theorem rest_ok {n : Nat} (row : List (Nat × Nat)) (hr : InN n row) : Eqn n (kn (rest n row)) (kn row) ∧ idles n (rest n row) = [] ∧ InN n (rest n row) ∧ (idles n row).length + (rest n row).length = row.length := by
  induction row using snoc_ind with
  | h0 => exact ⟨fun _ _ _ _ => rfl, rfl, fun q hq => by simp [rest] at hq, rfl⟩
  | h1 row p ih =>
    obtain ⟨r1, r2, r3⟩ := hr.snoc
    obtain ⟨a, b, c, d⟩ := ih r1
    rw [rest_snoc, idles_snoc]
    by_cases e : tab n (kn row) = tab n (kn (row ++ [p]))
    · rw [if_pos e, if_pos e, List.append_nil]
      exact ⟨a.trans (tab_eq.mp e), b, c, by simp; omega⟩
    · rw [if_neg e, if_neg e, List.append_nil]
      have s : Eqn n (kn (rest n row ++ [p])) (kn (row ++ [p])) := by
        rw [kn_snoc, kn_snoc]
        exact a.stp r2 r3
      refine ⟨s, ?_, fun q hq => ?_, by simp; omega⟩
      · rw [idles_snoc, b, if_neg fun z => e ?_]
        · rfl
        · exact tab_eq.mpr (a.symm.trans ((tab_eq.mp z).trans s))
      · rcases List.mem_append.mp hq with q1 | q1
        · exact c q q1
        · simp at q1; subst q1; exact ⟨r2, r3⟩
/-! ### the first who knows all -/
def firstF (n : Nat) (row : List (Nat × Nat)) : Option Nat := (List.range (row.length + 1)).find? fun i => someFull n (kn (row.take i))
/-! ### bits -/
def b0 (n : Nat) : List Nat := (List.range n).map fun h => 1 <<< h
def bstp (bs : List Nat) (p : Nat × Nat) : List Nat := (bs.set p.1 (bs[p.1]?.getD 0 ||| bs[p.2]?.getD 0)).set p.2 (bs[p.1]?.getD 0 ||| bs[p.2]?.getD 0)
def bits (n : Nat) (row : List (Nat × Nat)) : List Nat := row.foldl bstp (b0 n)
theorem bits_snoc (n : Nat) (row : List (Nat × Nat)) (p : Nat × Nat) : bits n (row ++ [p]) = bstp (bits n row) p := by simp [bits]
theorem bits_len (n : Nat) (row : List (Nat × Nat)) : (bits n row).length = n := by
  induction row using snoc_ind with
  | h0 => simp [bits, b0]
  | h1 row p ih => rw [bits_snoc]; simp [bstp, ih]
theorem bits_at {n : Nat} (row : List (Nat × Nat)) (hr : InN n row) : ∀ {h : Nat}, h < n → ∀ o, ((bits n row)[h]?.getD 0).testBit o = kn row h o := by
  induction row using snoc_ind with
  | h0 =>
    intro h hh o
    rw [Bool.eq_iff_iff, show kn [] h o = k0 h o from rfl, k0_iff]
    simp [bits, b0, hh, Nat.testBit_shiftLeft, Nat.one_shiftLeft, Nat.testBit_two_pow]
  | h1 row p ih =>
    intro h hh o
    obtain ⟨r1, r2, r3⟩ := hr.snoc
    have hl := bits_len n row
    rw [bits_snoc, kn_snoc]
    unfold bstp stp
    by_cases c2 : p.2 = h
    · rw [List.getElem?_set, if_pos c2, if_pos (by rw [List.length_set]; omega), if_pos (.inr c2.symm)]
      simp only [Option.getD_some, Nat.testBit_or, ih r1 r2, ih r1 r3]
    · rw [List.getElem?_set, if_neg c2, List.getElem?_set]
      by_cases c1 : p.1 = h
      · rw [if_pos c1, if_pos (by omega), if_pos (.inl c1.symm)]
        simp only [Option.getD_some, Nat.testBit_or, ih r1 r2, ih r1 r3]
      · rw [if_neg c1, if_neg (fun z => z.elim (fun z => c1 z.symm) fun z => c2 z.symm)]
        exact ih r1 hh o
theorem bits_lt {n : Nat} (row : List (Nat × Nat)) (hr : InN n row) {h : Nat} (hh : h < n) : (bits n row)[h]?.getD 0 < 2 ^ n := by
  refine Nat.lt_pow_two_of_testBit _ fun i hi => ?_
  rw [bits_at row hr hh]
  cases e : kn row h i with
  | false => rfl
  | true => have := kn_lt row hr e hh; omega
/-- alike bits, alike tables -/
theorem bits_eq {n : Nat} {row row' : List (Nat × Nat)} (hr : InN n row) (hr' : InN n row') : bits n row = bits n row' ↔ tab n (kn row) = tab n (kn row') := by
  rw [tab_eq]
  constructor
  · intro z h hh o _
    rw [← bits_at row hr hh, ← bits_at row' hr' hh, z]
  · intro z
    apply List.ext_getElem?
    intro i
    by_cases hi : i < n
    · have e : (bits n row)[i]?.getD 0 = (bits n row')[i]?.getD 0 := Nat.eq_of_testBit_eq fun o => by
        rw [bits_at row hr hi, bits_at row' hr' hi]
        by_cases ho : o < n
        · exact z i hi o ho
        · cases e : kn row i o with
          | true => have := kn_lt row hr e hi; omega
          | false =>
            cases e' : kn row' i o with
            | true => have := kn_lt row' hr' e' hi; omega
            | false => rfl
      have l := bits_len n row
      have l' := bits_len n row'
      rw [List.getElem?_eq_getElem (by omega), List.getElem?_eq_getElem (by omega)] at e ⊢
      simpa using e
    · rw [List.getElem?_eq_none_iff.mpr (by rw [bits_len]; omega), List.getElem?_eq_none_iff.mpr (by rw [bits_len]; omega)]
theorem bits_all {n : Nat} (row : List (Nat × Nat)) (hr : InN n row) {h : Nat} (hh : h < n) : (bits n row)[h]?.getD 0 = 2 ^ n - 1 ↔ rowFull n (kn row) h = true := by
  simp only [rowFull, List.all_eq_true, List.mem_range]
  constructor
  · intro z o ho
    rw [← bits_at row hr hh, z, Nat.testBit_two_pow_sub_one]
    simpa using ho
  · intro z
    refine Nat.eq_of_testBit_eq fun o => ?_
    rw [bits_at row hr hh, Nat.testBit_two_pow_sub_one]
    by_cases ho : o < n
    · rw [z o ho, decide_eq_true ho]
    · rw [decide_eq_false ho]
      cases e : kn row h o with
      | true => have := kn_lt row hr e hh; omega
      | false => rfl
theorem tab_bits {n : Nat} (row : List (Nat × Nat)) (hr : InN n row) : tab n (kn row) = (bits n row).map fun b => (List.range n).filter b.testBit := by
  have e : (bits n row).map (fun b => (List.range n).filter b.testBit) = (List.range n).map fun h => (List.range n).filter ((bits n row)[h]?.getD 0).testBit := by
    apply List.ext_getElem?
    intro i
    simp only [List.getElem?_map]
    by_cases hi : i < n
    · have hb : i < (bits n row).length := by rw [bits_len]; exact hi
      rw [List.getElem?_range hi, List.getElem?_eq_getElem hb, Option.map_some, Option.map_some, List.getElem?_eq_getElem hb, Option.getD_some]
    · rw [List.getElem?_eq_none_iff.mpr (by rw [bits_len]; omega), List.getElem?_eq_none_iff.mpr (by simp; omega)]
      rfl
  rw [e]
  unfold tab
  refine List.map_congr_left fun h hh => List.filter_congr fun o _ => ?_
  rw [bits_at row hr (by simpa using hh)]
end K05

set_option Elab.async false
set_option linter.all false
set_option maxRecDepth 100000
set_option maxHeartbeats 4000000
namespace K05
open PySem L2 R
abbrev bU (bs : List Nat) : U := .lst (bs.map I)
abbrev rU (row : List (Nat × Nat)) : U := .tup (row.map pU)
theorem set_last {α : Type} (m : List α) (x y : α) : (m ++ [x]).set m.length y = m ++ [y] := by simp
theorem set_mapI (bs : List Nat) (p v : Nat) : (bs.map I).set p (I v) = (bs.set p v).map I := by simp [List.map_set]
theorem frz_I (m : Nat) (μ : Mu) (k : Nat) (r : List Nat) : mapO (frz m μ k) (r.map I) = some (r.map I) := mapO_map fun x _ => by cases k <;> rfl
theorem frz_bU (m : Nat) (μ : Mu) (k : Nat) (r : List Nat) : frz m μ (k + 1) (bU r) = some (bU r) := by simp only [frz, frz_I]
theorem all_bls2 {α : Type} (p : α → Bool) (l : List α) : mapO asBl (l.map fun x => U.bl (p x)) = some (l.map p) := mapO_map fun _ _ => rfl
theorem ev_all {cal : Nat → List U → Mu → Option (U × Mu)} {n0 : Nat} {σ : R.Env} {μ μ1 : Mu} {a : E} {α : Type} {p : α → Bool} {l : List α} (h : evalE cal n0 a σ μ = some (.lst (l.map fun x => U.bl (p x)), μ1)) : evalE cal n0 (.bi .all [a]) σ μ = some (.bl (l.all p), μ1) := by
  refine ev_bi (ev_l1 h) ?_
  simp only [evBi, bls, asL, all_bls2, Option.map_some]
  congr 2
  induction l with
  | nil => rfl
  | cons a l ih => simp
def arW (m : Nat) (lo hi : Int) : U → Bool
  | .tup xs => decide (xs.length = m) && xs.all (isW lo hi)
  | _ => false
theorem wholes_pl (k : Nat) {B d : Nat} (hB : B ≤ SZ) {u : U} (h : Pl B d u) (m : Nat) (lo hi : Int) (μ : Mu) : runF defs (k + 2) 4 [u, I m, .int lo, .int hi] μ = some (.bl (arW m lo hi u), μ) := by
  rw [run_are_wholes]
  have t := tuple_pl k h m m μ
  refine (if_pos rfl).trans (run_rt (μ1 := μ) (u := .bl (arW m lo hi u)) ?_ (fin_cut rfl (by simp)))
  cases h with
  | @tup d xs hz h =>
    by_cases e : xs.length = m
    · have e1 : isT m m (.tup xs) = true := by simp [isT]; omega
      rw [e1] at t
      have c : evalE (runF defs (k + 1)) μ.length c_are_wholes_0 [some (.tup xs), some (I m), some (.int lo), some (.int hi), none] μ = some (.lst (xs.map fun x => .bl (isW lo hi x)), μ) := by
        have := compL_all (step := cstep (runF defs (k + 1)) μ.length (.slot 4) (.bl true) (.call 0 [(.var 4), (.var 2), (.var 3)]) [4] [some (.tup xs), some (I m), some (.int lo), some (.int hi), none]) (enc := id) (g := fun x => .bl (isW lo hi x)) (μ := μ) (xs := xs) (acc := []) (fun x hx => cs_yes rfl (ev_call (ev_lcons (ev_var rfl) (ev_l2 (ev_var rfl) (ev_var rfl))) (whole_pl k (h x hx) lo hi μ))) (by simp; omega)
        rw [List.map_id] at this
        exact (ev_comp (us := [.tup xs]) (μ1 := μ) (xs := xs) (ev_l1 (ev_var rfl)) rfl this).trans rfl
      have e2 : arW m lo hi (.tup xs) = xs.all (isW lo hi) := by simp [arW, e]
      rw [e2]
      exact ex_ret (ev_andT (μ1 := μ) (ev_call (ev_lcons (ev_var rfl) (ev_l2 (ev_var rfl) (ev_var rfl))) t) (ev_b1 (ev_all c)))
    · have e1 : isT m m (.tup xs) = false := by simp [isT]; omega
      rw [e1] at t
      have e2 : arW m lo hi (.tup xs) = false := by simp [arW, e]
      rw [e2]
      exact ex_ret (ev_andF (ev_call (ev_lcons (ev_var rfl) (ev_l2 (ev_var rfl) (ev_var rfl))) t))
  | _ => exact ex_ret (ev_andF (ev_call (ev_lcons (ev_var rfl) (ev_l2 (ev_var rfl) (ev_var rfl))) t))
def inE (es : List (Nat × Nat)) : U → Bool
  | .tup [.int i, .int j] => es.any fun p => decide ((p.1 : Int) = i ∧ (p.2 : Int) = j)
  | _ => false
theorem in_es (μ : Mu) (es : List (Nat × Nat)) (i j : Int) : evIn μ (.tup [.int i, .int j]) (.tup (es.map pU)) = some (inE es (.tup [.int i, .int j])) := by
  have m : dat μ D0 (.tup (es.map pU)) = some (.tuple (es.map fun p : Nat × Nat => PyData.tuple [.int p.1, .int p.2])) := by
    rw [show D0 = 11 + 1 from rfl]
    simp only [dat]
    rw [mapO_map (f := dat μ 11) (h := fun p : Nat × Nat => PyData.tuple [.int p.1, .int p.2]) fun x _ => by simp [dat, mapO]]
  have m2 : dat μ D0 (.tup [.int i, .int j]) = some (.tuple [.int i, .int j]) := by simp [dat, mapO, D0]
  simp only [evIn, cont, m, m2]
  congr 1
  unfold inE
  rw [List.any_map]
  congr 1
  funext p
  simp only [Function.comp, PyData.eqv, PyData.eqvAll, Bool.and_true]
  rw [Bool.eq_iff_iff]
  simp
def okCall (n : Nat) (es : List (Nat × Nat)) (v : U) : Bool := arW 2 0 ((n : Int) - 1) v && inE es v
theorem arW_two {lo hi : Int} {u : U} (h : arW 2 lo hi u = true) : ∃ i j, u = .tup [.int i, .int j] := by
  unfold arW at h
  split at h
  · rename_i xs
    simp only [Bool.and_eq_true, decide_eq_true_eq] at h
    match xs, h with
    | [a, b], ⟨_, h⟩ =>
      simp only [List.all_cons, List.all_nil, Bool.and_true, Bool.and_eq_true] at h
      obtain ⟨h1, h2⟩ := h
      cases a <;> simp [isW] at h1
      cases b <;> simp [isW] at h2
      exact ⟨_, _, rfl⟩
  · cases h
theorem pair_in_ok (k : Nat) {B d : Nat} (hB : B ≤ SZ) {u : U} (h : Pl B d u) {n : Nat} {es : List (Nat × Nat)} (μ : Mu) : runF defs (k + 3) 9 [tU n es, u] μ = some (.bl (okCall n es u), μ) := by
  rw [run_is_pair_in]
  have w := wholes_pl k hB h 2 0 ((n : Int) - 1) μ
  refine (if_pos rfl).trans (run_rt (μ1 := μ) (u := .bl (okCall n es u)) ?_ (fin_cut rfl (by simp)))
  have l : evalL (runF defs (k + 2)) μ.length [(.var 1), (.int 2), (.int 0), (.bin false .sub (.idx (.var 0) (.int 0)) (.int 1))] [some (tU n es), some u] μ = some ([u, I 2, .int 0, .int ((n : Int) - 1)], μ) :=
    ev_lcons (ev_var rfl) (ev_lcons ev_int (ev_l2 ev_int (ev_bin (ev_idxT (ev_var rfl) ev_int (w := I n) rfl) ev_int rfl)))
  unfold okCall
  cases e : arW 2 0 ((n : Int) - 1) u with
  | false =>
    rw [e] at w
    exact ex_ret (ev_andF (ev_call l w))
  | true =>
    rw [e] at w
    obtain ⟨i, j, rfl⟩ := arW_two e
    exact ex_ret (ev_andT (μ1 := μ) (ev_call l w) (ev_b1 (ev_cmp (ev_var rfl) (ev_idxT (ev_var rfl) ev_int (w := .tup (es.map pU)) rfl) (in_es μ es i j))))
def itms (u : U) : List U := match u with
  | .tup xs => xs
  | _ => []
def okRow (n : Nat) (es : List (Nat × Nat)) (v : U) : Bool := isT 0 200 v && (itms v).all (okCall n es)
theorem fits_row_ok (k : Nat) {B d : Nat} (hB : B ≤ SZ) {u : U} (h : Pl B d u) {n : Nat} {es : List (Nat × Nat)} (μ : Mu) : runF defs (k + 4) 10 [tU n es, u] μ = some (.bl (okRow n es u), μ) := by
  rw [run_fits_row]
  have t := tuple_pl (k + 2) h 0 200 μ
  refine (if_pos rfl).trans (run_rt (μ1 := μ) (u := .bl (okRow n es u)) ?_ (fin_cut rfl (by simp)))
  unfold okRow
  cases e : isT 0 200 u with
  | false =>
    rw [e] at t
    exact ex_ret (ev_andF (ev_call (ev_lcons (ev_var rfl) (ev_l2 ev_int ev_gint)) t))
  | true =>
    rw [e] at t
    cases h with
    | @tup d xs hz h =>
      have c : evalE (runF defs (k + 3)) μ.length c_fits_row_0 [some (tU n es), some (.tup xs), none] μ = some (.lst (xs.map fun x => .bl (okCall n es x)), μ) := by
        have := compL_all (step := cstep (runF defs (k + 3)) μ.length (.slot 2) (.bl true) (.call 9 [(.var 0), (.var 2)]) [2] [some (tU n es), some (.tup xs), none]) (enc := id) (g := fun x => .bl (okCall n es x)) (μ := μ) (xs := xs) (acc := []) (fun x hx => cs_yes rfl (ev_call (ev_l2 (ev_var rfl) (ev_var rfl)) (pair_in_ok k hB (h x hx) μ))) (by simp; omega)
        rw [List.map_id] at this
        exact (ev_comp (us := [.tup xs]) (μ1 := μ) (xs := xs) (ev_l1 (ev_var rfl)) rfl this).trans rfl
      exact ex_ret (ev_andT (μ1 := μ) (ev_call (ev_lcons (ev_var rfl) (ev_l2 ev_int ev_gint)) t) (ev_b1 (ev_all c)))
    | _ => cases e
structure Row (n : Nat) (es row : List (Nat × Nat)) : Prop where
  mem : ∀ p ∈ row, p ∈ es
  len : row.length ≤ 200
theorem Row.inN {n : Nat} {es row : List (Nat × Nat)} (T : Town n es) (r : Row n es row) : InN n row := fun p hp => by
  have := T.lt p (r.mem p hp)
  omega
theorem Row.take {n : Nat} {es row : List (Nat × Nat)} (r : Row n es row) (i : Nat) : Row n es (row.take i) := ⟨fun p hp => r.mem p (List.mem_of_mem_take hp), by have := r.len; simp; omega⟩
theorem Row.rev {n : Nat} {es row : List (Nat × Nat)} (r : Row n es row) : Row n es row.reverse := ⟨fun p hp => r.mem p (by simpa using hp), by simpa using r.len⟩
theorem pl_row {B d : Nat} {row : List (Nat × Nat)} (hB : 2 ≤ B) (h : row.length ≤ B) : Pl B (d + 2) (rU row) := pl_es hB h
theorem okCall_row {n : Nat} {es : List (Nat × Nat)} (T : Town n es) {p : Nat × Nat} (h : p ∈ es) : okCall n es (pU p) = true := by
  have := T.lt p h
  unfold okCall
  have e1 : arW 2 0 ((n : Int) - 1) (pU p) = true := by simp [arW, isW]; omega
  have e2 : inE es (pU p) = true := by
    simp only [inE, List.any_eq_true, decide_eq_true_eq]
    exact ⟨p, h, rfl, rfl⟩
  rw [e1, e2]
  rfl
theorem okRow_row {n : Nat} {es row : List (Nat × Nat)} (T : Town n es) (r : Row n es row) : okRow n es (rU row) = true := by
  unfold okRow
  have e1 : isT 0 200 (rU row) = true := by have := r.len; simp [isT]; omega
  have e2 : (itms (rU row)).all (okCall n es) = true := by
    simp only [itms, List.all_map, List.all_eq_true, Function.comp]
    exact fun p hp => okCall_row T (r.mem p hp)
  rw [e1, e2]
  rfl
theorem need_both_ok (k : Nat) {n : Nat} {es row : List (Nat × Nat)} (T : Town n es) (r : Row n es row) (μ : Mu) : runF defs (k + 6) 12 [tU n es, rU row] μ = some (.non, μ) := by
  rw [run_need_both]
  refine (if_pos rfl).trans (run_nx (μ1 := μ) (σ := [some (tU n es), some (rU row)]) ?_ (fin_cut rfl (by simp)))
  have f := fits_row_ok k (B := 200) (by decide) (pl_row (d := 0) (by omega) r.len) (n := n) (es := es) μ
  rw [okRow_row T r] at f
  have nr : runF defs (k + 5) 11 [tU n es, rU row] μ = some (.non, μ) := by
    rw [run_need_row]
    refine (if_pos rfl).trans (run_nx (μ1 := μ) (σ := [some (tU n es), some (rU row)]) ?_ (fin_cut rfl (by simp)))
    exact (ex_seq ((ex_ifF (u := .bl false) (μ1 := μ) (ev_not (d := true) (ev_call (ev_l2 (ev_var rfl) (ev_var rfl)) f) rfl) rfl).trans ex_nil)).trans ex_nil
  refine (ex_seq (ex_ex (ev_call (ev_l1 (ev_var rfl)) (need_few_ok (k + 1) μ T)))).trans ?_
  exact (ex_seq (ex_ex (ev_call (ev_l2 (ev_var rfl) (ev_var rfl)) nr))).trans ex_nil
theorem frz_pl {B d : Nat} {u : U} (h : Pl B d u) (m : Nat) (μ : Mu) : ∀ {k : Nat}, d ≤ k → frz m μ k u = some u := by
  induction h with
  | non => intro k _; cases k <;> rfl
  | bl => intro k _; cases k <;> rfl
  | int => intro k _; cases k <;> rfl
  | str => intro k _; cases k <;> rfl
  | @tup d xs hz h ih =>
    intro k hk
    obtain ⟨e, rfl⟩ : ∃ e, k = e + 1 := ⟨k - 1, by omega⟩
    have m' := mapO_map (f := frz m μ e) (g := id) (h := id) (xs := xs) fun x hx => ih x hx (by omega)
    rw [List.map_id] at m'
    simp only [frz, m']
  | @lst d xs hz h ih =>
    intro k hk
    obtain ⟨e, rfl⟩ : ∃ e, k = e + 1 := ⟨k - 1, by omega⟩
    have m' := mapO_map (f := frz m μ e) (g := id) (h := id) (xs := xs) fun x hx => ih x hx (by omega)
    rw [List.map_id] at m'
    simp only [frz, m']
abbrev lU (l : List Nat) : U := .tup (l.map I)
abbrev kT (n : Nat) (row : List (Nat × Nat)) : U := .tup ((tab n (kn row)).map lU)
abbrev kL (n : Nat) (row : List (Nat × Nat)) : U := .lst ((tab n (kn row)).map lU)
theorem pl_ints {B d : Nat} {l : List Nat} (h : l.length ≤ B) : Pl B (d + 1) (.tup (l.map I)) ∧ Pl B (d + 1) (.lst (l.map I)) :=
  ⟨.tup (by simpa using h) fun u hu => by obtain ⟨x, _, rfl⟩ := List.mem_map.mp hu; exact .int _ _, .lst (by simpa using h) fun u hu => by obtain ⟨x, _, rfl⟩ := List.mem_map.mp hu; exact .int _ _⟩
theorem tab_len (n : Nat) (K : Kn) : (tab n K).length = n := by simp [tab]
theorem tab_row_len {n : Nat} {K : Kn} {l : List Nat} (h : l ∈ tab n K) : l.length ≤ n := by
  obtain ⟨x, _, rfl⟩ := List.mem_map.mp h
  have := List.length_filter_le (K x) (List.range n)
  simpa using this
theorem pl_kT {n d : Nat} {row : List (Nat × Nat)} : Pl n (d + 2) (kT n row) ∧ Pl n (d + 2) (kL n row) := by
  have h : ∀ u ∈ (tab n (kn row)).map lU, Pl n (d + 1) u := fun u hu => by
    obtain ⟨l, hl, rfl⟩ := List.mem_map.mp hu
    exact (pl_ints (tab_row_len hl)).1
  exact ⟨.tup (by simp [tab_len]) h, .lst (by simp [tab_len]) h⟩
theorem map_I_inj {x y : List Nat} (h : x.map I = y.map I) : x = y := List.map_inj_right (fun a b e => by injection e with e; omega) |>.mp h
theorem eq_bU (μ : Mu) (x y : List Nat) : evCmp μ .eq (bU x) (bU y) = some (decide (x = y)) := by
  have ni : ∀ l : List Nat, Ni 1 (bU l) := fun l => .lst fun u hu => by obtain ⟨x, _, rfl⟩ := List.mem_map.mp hu; exact .int _ _
  obtain ⟨b, e, hb⟩ := eq_ni μ (ni x) (ni y) (by decide) (by decide)
  simp only [evCmp]
  rw [e]
  congr 1
  rw [Bool.eq_iff_iff, hb, decide_eq_true_eq, U.lst.injEq]
  exact ⟨map_I_inj, fun z => by rw [z]⟩
theorem in_bU (μ : Mu) (i : Nat) (l : List Nat) : evIn μ (I i) (bU l) = some (decide (i ∈ l)) := by
  have m : dat μ D0 (bU l) = some (.list (l.map fun x : Nat => PyData.int x)) := by
    rw [show D0 = 11 + 1 from rfl]
    simp only [dat]
    rw [mapO_map (f := dat μ 11) (h := fun x : Nat => PyData.int x) fun x _ => rfl]
  simp only [evIn, cont, m, dat_int]
  congr 1
  rw [Bool.eq_iff_iff, List.any_map, List.any_eq_true, decide_eq_true_eq]
  constructor
  · rintro ⟨x, hx, e⟩
    simp only [Function.comp, PyData.eqv, beq_iff_eq] at e
    have : x = i := by omega
    exact this ▸ hx
  · exact fun h => ⟨i, h, by simp [PyData.eqv]⟩
theorem enum_range (m : Nat) (f : Nat → U) : enum ((List.range m).map f) = (List.range m).map fun i => .tup [I i, f i] := by
  unfold enum
  rw [List.length_map, List.length_range]
  have : (List.range m).zip ((List.range m).map f) = (List.range m).map fun i => (i, f i) := by
    have := List.zip_map' (f := id) (g := f) (l := List.range m)
    simpa using this
  rw [this, List.map_map]
  rfl
theorem enum_map {α : Type} (f : α → U) (l : List α) : enum (l.map f) = ((List.range l.length).zip l).map fun q => .tup [I q.1, f q.2] := by
  unfold enum
  rw [List.length_map]
  have : (List.range l.length).zip (l.map f) = ((List.range l.length).zip l).map fun q => (q.1, f q.2) := by
    have := List.zip_map (f := id) (g := f) (l₁ := List.range l.length) (l₂ := l)
    rw [List.map_id] at this
    exact this
  rw [this, List.map_map]
  rfl
section
variable {n : Nat} {es row : List (Nat × Nat)} (k : Nat) (μ : Mu)
abbrev oU : Option Nat → U
  | none => .non
  | some i => I i
theorem turned_ok (T : Town n es) (r : Row n es row) : runF defs (k + 7) 13 [tU n es, rU row] μ = some (rU row.reverse, μ) := by
  rw [run_turned_row]
  have p := pl_row (d := 0) (B := 200) (row := row.reverse) (by omega) (by simpa using r.len)
  refine (if_pos rfl).trans (run_rt (μ1 := μ) (u := rU row.reverse) ?_ (fin_cut (frz_pl p _ _ (by decide)) (by simp)))
  refine (ex_seq (ex_ex (ev_call (ev_l2 (ev_var rfl) (ev_var rfl)) (need_both_ok k T r μ)))).trans ?_
  refine ex_ret ?_
  have e : rU row.reverse = .tup (row.map pU).reverse := by rw [rU, List.map_reverse]
  rw [e]
  exact ev_revT (ev_var rfl)
end
end K05

set_option Elab.async false
set_option linter.all false
set_option maxRecDepth 100000
set_option maxHeartbeats 4000000
namespace K05
open PySem L2 R
/-! ### the law's own tables -/
theorem compV_all {α : Type} {step : U → Mu → Option (Option U × Mu)} {enc g : α → U} {μ : Mu} {i : Nat} {xs : List α} (hm : μ[i]? = some (.lst (xs.map enc))) (h : ∀ x ∈ xs, step (enc x) μ = some (some (g x), μ)) (hz : xs.length ≤ SZ) :
    ∀ {f k : Nat} {acc : List U}, k ≤ xs.length → xs.length - k < f → acc.length ≤ k → compV step i f k acc μ = some (acc ++ (xs.drop k).map g, μ)
  | 0, k, acc, _, hf, _ => by omega
  | f + 1, k, acc, hk, hf, ha => by
    simp only [compV, hm]
    by_cases hlt : k < xs.length
    · rw [List.getElem?_map, List.getElem?_eq_getElem hlt]
      simp only [Option.map_some]
      rw [h _ (List.getElem_mem hlt)]
      simp only
      rw [if_pos (by omega), compV_all hm h hz (by omega) (by omega) (by simp; omega), List.drop_eq_getElem_cons hlt, List.map_cons, List.append_assoc]
      rfl
    · have e : k = xs.length := by omega
      subst e
      rw [List.getElem?_eq_none_iff.mpr (by simp)]
      simp
theorem ev_compV {cal : Nat → List U → Mu → Option (U × Mu)} {n0 : Nat} {al : Bool} {p : Pt} {ik : Ik} {its : List E} {c e : E} {ws : List Nat} {σ : R.Env} {μ μ1 μ2 : Mu} {us ys : List U} {i : Nat} (h1 : evalL cal n0 its σ μ = some (us, μ1)) (h2 : walk μ1 ik us = some (.inr i)) (h3 : compV (cstep cal n0 p c e ws σ) i FU 0 [] μ1 = some (ys, μ2)) :
    evalE cal n0 (.comp al p ik its c e ws) σ μ = some (R.fresh al (.lst ys) μ2) := by
  simp only [evalE, h1, h2]
  have e0 : (match compV (cstep cal n0 p c e ws σ) i FU 0 [] μ1 with
    | some (ys, μ) => some (R.fresh al (.lst ys) μ)
    | none => none) = some (R.fresh al (.lst ys) μ2) := by rw [h3]
  exact e0
def dstp (S : List (List Nat)) (p : Nat × Nat) : List (List Nat) :=
  let u := ((S[p.1]?.getD []) ++ (S[p.2]?.getD [])).foldl insN []
  (S.set p.1 u).set p.2 (u.foldl insN [])
def dsets (n : Nat) (row : List (Nat × Nat)) : List (List Nat) := row.foldl dstp ((List.range n).map fun h => [h])
theorem dsets_snoc (n : Nat) (row : List (Nat × Nat)) (p : Nat × Nat) : dsets n (row ++ [p]) = dstp (dsets n row) p := by simp [dsets]
theorem dsets_len (n : Nat) (row : List (Nat × Nat)) : (dsets n row).length = n := by
  induction row using snoc_ind with
  | h0 => simp [dsets]
  | h1 row p ih => rw [dsets_snoc]; simp [dstp, ih]
theorem dsets_at {n : Nat} (row : List (Nat × Nat)) (hr : InN n row) : ∀ {h : Nat}, h < n → ((dsets n row)[h]?.getD []).Nodup ∧ ∀ o, o ∈ (dsets n row)[h]?.getD [] ↔ kn row h o = true := by
  induction row using snoc_ind with
  | h0 =>
    intro h hh
    have e : (dsets n [])[h]?.getD [] = [h] := by simp [dsets, hh]
    rw [e]
    exact ⟨by simp, fun o => by rw [show kn [] h o = k0 h o from rfl, k0_iff]; simp; omega⟩
  | h1 row p ih =>
    intro h hh
    obtain ⟨r1, r2, r3⟩ := hr.snoc
    have hl := dsets_len n row
    obtain ⟨n1, m1⟩ := ih r1 r2
    obtain ⟨n2, m2⟩ := ih r1 r3
    have mu : ∀ o, o ∈ ((dsets n row)[p.1]?.getD [] ++ (dsets n row)[p.2]?.getD []).foldl insN [] ↔ kn row p.1 o = true ∨ kn row p.2 o = true := fun o => by
      rw [foldl_insN_mem, List.mem_append, m1, m2]
      simp
    rw [dsets_snoc, kn_snoc]
    unfold dstp stp
    simp only
    by_cases c2 : p.2 = h
    · rw [List.getElem?_set, if_pos c2, if_pos (by rw [List.length_set]; omega), Option.getD_some]
      refine ⟨foldl_insN_nd _ _ List.nodup_nil, fun o => ?_⟩
      rw [if_pos (.inr c2.symm), foldl_insN_mem, mu, Bool.or_eq_true]
      simp
    · rw [List.getElem?_set, if_neg c2, List.getElem?_set]
      by_cases c1 : p.1 = h
      · rw [if_pos c1, if_pos (by omega), Option.getD_some]
        refine ⟨foldl_insN_nd _ _ List.nodup_nil, fun o => ?_⟩
        rw [if_pos (.inl c1.symm), mu, Bool.or_eq_true]
      · rw [if_neg c1]
        obtain ⟨n3, m3⟩ := ih r1 hh
        refine ⟨n3, fun o => ?_⟩
        rw [if_neg (fun z => z.elim (fun z => c1 z.symm) fun z => c2 z.symm)]
        exact m3 o
theorem dsets_sz {n : Nat} (row : List (Nat × Nat)) (hr : InN n row) {h : Nat} (hh : h < n) : ((dsets n row)[h]?.getD []).length ≤ n := by
  obtain ⟨a, b⟩ := dsets_at row hr hh
  exact nodup_lt a fun x hx => kn_lt row hr ((b x).mp hx) hh
theorem itm_dkI (μ : Mu) (K : List Nat) : itmU μ (dkI K) = some (K.map kvU) := by
  simp only [itmU, cont]
  have : (K.map kI).zip (K.map fun _ => U.bl true) = K.map fun h => (kI h, U.bl true) := List.zip_map'
  rw [this, List.map_map]
  rfl
abbrev dL (S : List (List Nat)) : U := .lst (S.map dkI)
theorem dsets_take {n : Nat} {row : List (Nat × Nat)} {i : Nat} {p : Nat × Nat} (h : row[i]? = some p) : dsets n (row.take (i + 1)) = dstp (dsets n (row.take i)) p := by
  rw [List.take_add_one, h]
  exact dsets_snoc n _ p
theorem known_loop (k : Nat) (μ : Mu) {n : Nat} {row : List (Nat × Nat)} (hn : n ≤ 12) (hr : InN n row) (hl : row.length ≤ 200) (x3 x4 x5 : Option U) :
    ∃ y3 y4 y5, forL (fstep (runF defs k) μ.length (.tup [(.slot 3), (.slot 4)]) lb__law_known_1) (row.map pU) [some (I n), some (rU row), some (.ob μ.length), x3, x4, x5, none, none] (μ ++ [dL (dsets n [])]) =
      some (.nx [some (I n), some (rU row), some (.ob μ.length), y3, y4, y5, none, none] (μ ++ [dL (dsets n row)])) := by
  obtain ⟨σ', μ', e, y3, y4, y5, rfl, rfl⟩ := forL_inv0 (step := fstep (runF defs k) μ.length (.tup [(.slot 3), (.slot 4)]) lb__law_known_1) (xs := row.map pU)
    (fun i σ μ' => ∃ y3 y4 y5, σ = [some (I n), some (rU row), some (.ob μ.length), y3, y4, y5, none, none] ∧ μ' = μ ++ [dL (dsets n (row.take i))]) (σ := [some (I n), some (rU row), some (.ob μ.length), x3, x4, x5, none, none]) (μ := μ ++ [dL (dsets n [])])
    ⟨x3, x4, x5, rfl, rfl⟩ (fun i x σ μ' hx hp => by
      obtain ⟨y3, y4, y5, rfl, rfl⟩ := hp
      obtain ⟨p, hp, hm, rfl⟩ := map_at hx
      obtain ⟨h1, h2⟩ := hr p hm
      have dl := dsets_len n (row.take i)
      have z1 := dsets_sz (row.take i) (hr.take i) h1
      have z2 := dsets_sz (row.take i) (hr.take i) h2
      generalize hS : dsets n (row.take i) = S at dl z1 z2
      have a1 : atI (S.map dkI) (p.1 : Int) = some (dkI (S[p.1]?.getD [])) := atI_of (by simp [dl, h1])
      have a2 : atI (S.map dkI) (p.2 : Int) = some (dkI (S[p.2]?.getD [])) := atI_of (by simp [dl, h2])
      generalize hA : S[p.1]?.getD [] = A at a1 z1
      generalize hB : S[p.2]?.getD [] = B at a2 z2
      have sz : A.length + B.length ≤ SZ := by unfold SZ; omega
      have ul : ((A ++ B).foldl insN []).length ≤ A.length + B.length := by
        have := sub_len (l := (A ++ B).foldl insN []) (q := A ++ B) (foldl_insN_nd _ _ List.nodup_nil) fun x hx => by
          rw [foldl_insN_mem] at hx
          simpa using hx
        simpa using this
      refine ⟨[some (I n), some (rU row), some (.ob μ.length), some (I p.1), some (I p.2), some (dkI ((A ++ B).foldl insN [])), none, none], μ ++ [dL (dsets n (row.take (i + 1)))], .inl ?_, some (I p.1), some (I p.2), _, rfl, rfl⟩
      show exL (runF defs k) μ.length lb__law_known_1 [some (I n), some (rU row), some (.ob μ.length), some (I p.1), some (I p.2), y5, none, none] (μ ++ [dL S]) = _
      unfold lb__law_known_1
      have m1 : (μ ++ [dL S])[μ.length]? = some (dL S) := by simp
      have c1 : cont (μ ++ [dL S]) (.ob μ.length) = some (dL S) := by simp only [cont, m1]
      refine (ex_seq (ex_set (u := dkI ((A ++ B).foldl insN [])) (μ' := μ ++ [dL S]) (ev_col (us := [.lst ((A ++ B).map kvU)]) (xs := (A ++ B).map kvU) (ev_l1 ?_) rfl (col_dkI _ _ (by simpa using sz))))).trans ?_
      · rw [List.map_append]
        exact ev_addL (ev_itms (ev_idxL1 (ev_var rfl) (ev_var rfl) c1 a1) (itm_dkI _ _)) (ev_itms (ev_idxL1 (ev_var rfl) (ev_var rfl) c1 a2) (itm_dkI _ _)) (by simpa using sz)
      generalize hU : (A ++ B).foldl insN [] = W at ul
      have s1 : (μ ++ [dL S]).set μ.length (.lst ((S.map dkI).set p.1 (dkI W))) = μ ++ [dL (S.set p.1 W)] := by
        rw [set_last]
        simp [dL, List.map_set]
      have m2 : (μ ++ [dL (S.set p.1 W)])[μ.length]? = some (dL (S.set p.1 W)) := by simp
      have s2 : (μ ++ [dL (S.set p.1 W)]).set μ.length (.lst (((S.set p.1 W).map dkI).set p.2 (dkI (W.foldl insN [])))) = μ ++ [dL (dsets n (row.take (i + 1)))] := by
        rw [dsets_take hp, hS, set_last]
        unfold dstp
        rw [hA, hB]
        simp only [hU]
        simp [dL, List.map_set]
      refine (ex_seq (ex_sub2 (μ1 := μ ++ [dL S]) (μ2 := μ ++ [dL S]) (ev_var rfl) (ev_col (xs := W.map kvU) (ev_l1 (ev_itms (ev_var rfl) (itm_dkI _ _))) rfl (col_dkI _ _ (by unfold SZ; omega))) ((sto (ev_var rfl) (ev_var rfl) m1 (ixN_nat (by rw [List.length_map, dl]; exact h1)) (by simp [okw])).trans (by rw [s1]))
        ((sto (ev_var rfl) (ev_var rfl) m2 (ixN_nat (by rw [List.length_map, List.length_set, dl]; exact h2)) (by simp [okw])).trans (by rw [s2])))).trans ?_
      exact ex_nil)
  refine ⟨y3, y4, y5, ?_⟩
  rw [e]
  simp
theorem law_known_ok (k : Nat) (μ : Mu) {n : Nat} {row : List (Nat × Nat)} (hn : n ≤ 12) (hr : InN n row) (hl : row.length ≤ 200) : runF defs (k + 1) 31 [I n, rU row] μ = some (kL n row, μ) := by
  rw [run__law_known]
  obtain ⟨y3, y4, y5, e⟩ := known_loop k μ hn hr hl none none none
  have c : evalE (runF defs k) μ.length c__law_known_0 [some (I n), some (rU row), none, none, none, none, none, none] μ = some (.ob μ.length, μ ++ [dL (dsets n [])]) := by
    refine (ev_comp (us := [I n]) (μ1 := μ) (xs := (List.range n).map I) (ev_l1 (ev_var rfl)) (walk_rng (by omega)) (compL_all (enc := I) (g := fun h => dkI [h]) (xs := List.range n) (fun h hh => ?_) (by simp; unfold SZ; omega))).trans ?_
    · exact cs_yes rfl (ev_col (us := [.lst ([h].map kvU)]) (xs := [h].map kvU) (ev_l1 (ev_lst (ev_l1 (ev_tup (ev_l2 (ev_var rfl) ev_bl) (show 2 ≤ SZ by decide))) (show 1 ≤ SZ by decide))) rfl (col_dkI _ [h] (show 1 ≤ SZ by decide)))
    · simp [R.fresh, dL, dsets]
  have mL : (μ ++ [dL (dsets n row)])[μ.length]? = some (dL (dsets n row)) := by simp
  have c3 : evalE (runF defs k) μ.length c__law_known_3 [some (I n), some (rU row), some (.ob μ.length), y3, y4, y5, none, none] (μ ++ [dL (dsets n row)]) = some (kL n row, μ ++ [dL (dsets n row)]) := by
    have dl := dsets_len n row
    have cv := compV_all (step := cstep (runF defs k) μ.length (.slot 7) (.bl true) (.col false .tuple .ex [(.col false .sorted .ex [(.var 7)])]) [7] [some (I n), some (rU row), some (.ob μ.length), y3, y4, y5, none, none]) (enc := dkI) (g := fun l => lU (srt l)) (μ := μ ++ [dL (dsets n row)]) (i := μ.length) (xs := dsets n row) mL (fun l hl => by
      obtain ⟨h, hh, rfl⟩ := List.mem_iff_getElem.mp hl
      have z := dsets_sz row hr (h := h) (by omega)
      rw [List.getElem?_eq_getElem hh, Option.getD_some] at z
      refine cs_yes rfl (ev_col (us := [.lst ((srt (dsets n row)[h]).map I)]) (xs := (srt (dsets n row)[h]).map I) (ev_l1 (ev_col (us := [dkI (dsets n row)[h]]) (xs := ((dsets n row)[h]).map I) (ev_l1 (ev_var rfl)) ?_ ?_)) rfl rfl)
      · simp only [items, asS, asL, cont, List.map_map]
        rfl
      · simp only [evCol]
        rw [srtd_I _ _ (by unfold SZ; omega)]
        rfl) (by rw [dl]; unfold SZ; omega) (f := FU) (k := 0) (acc := []) (Nat.zero_le _) (by rw [dl]; unfold FU; omega) (by simp)
    refine (ev_compV (ev_l1 (ev_var rfl)) (show walk _ .ex [.ob μ.length] = some (.inr μ.length) by simp only [walk, mL]) cv).trans ?_
    have e2 : (dsets n row).map (fun l => lU (srt l)) = (tab n (kn row)).map lU := by
      have : (dsets n row).map srt = tab n (kn row) := by
        have e3 : (dsets n row).map srt = (List.range n).map fun h => srt ((dsets n row)[h]?.getD []) := by
          apply List.ext_getElem?
          intro i
          simp only [List.getElem?_map]
          by_cases hi : i < n
          · have hb : i < (dsets n row).length := by omega
            rw [List.getElem?_range hi, List.getElem?_eq_getElem hb, Option.map_some, Option.map_some, List.getElem?_eq_getElem hb, Option.getD_some]
          · rw [List.getElem?_eq_none_iff.mpr (by omega), List.getElem?_eq_none_iff.mpr (by simp; omega)]
            rfl
        rw [e3]
        unfold tab
        refine List.map_congr_left fun h hh => ?_
        have hh : h < n := by simpa using hh
        obtain ⟨a, b⟩ := dsets_at row hr hh
        exact srt_filter a fun x => by rw [b]; exact ⟨fun z => ⟨kn_lt row hr z hh, z⟩, fun z => z.2⟩
      rw [← this, List.map_map]
      rfl
    rw [List.nil_append, List.drop_zero, e2]
    rfl
  have b : exL (runF defs k) μ.length b__law_known [some (I n), some (rU row), none, none, none, none, none, none] μ = some (.rt (kL n row) (μ ++ [dL (dsets n row)])) := by
    unfold b__law_known
    refine (ex_seq (ex_set c)).trans ?_
    refine (ex_seq (((show exS _ _ l__law_known_1 _ _ = _ from ex_for (ev_l1 (ev_var rfl)) rfl)).trans e)).trans ?_
    exact ex_ret c3
  exact (if_pos rfl).trans (run_rt b (fin_cut (frz_pl (pl_kT (d := 0)).2 _ _ (by decide)) (by simp)))
theorem kL_ni (n : Nat) (row : List (Nat × Nat)) : Ni 2 (kL n row) := .lst fun u hu => by
  obtain ⟨l, _, rfl⟩ := List.mem_map.mp hu
  exact .tup fun v hv => by
    obtain ⟨x, _, rfl⟩ := List.mem_map.mp hv
    exact .int _ _
theorem lU_inj {x y : List Nat} (h : lU x = lU y) : x = y := map_I_inj (by injection h)
theorem kL_eq (μ : Mu) (n : Nat) (row row' : List (Nat × Nat)) : evCmp μ .eq (kL n row) (kL n row') = some (decide (tab n (kn row) = tab n (kn row'))) := by
  obtain ⟨b, e, hb⟩ := eq_ni μ (kL_ni n row) (kL_ni n row') (by decide) (by decide)
  simp only [evCmp]
  rw [e]
  congr 1
  rw [Bool.eq_iff_iff, hb, decide_eq_true_eq, U.lst.injEq]
  exact ⟨fun z => List.map_inj_right (fun a b => lU_inj) |>.mp z, fun z => by rw [z]⟩
end K05

set_option Elab.async false
set_option linter.all false
set_option maxRecDepth 100000
set_option maxHeartbeats 4000000
namespace K05
open PySem L2 R
theorem forL_test {step : U → R.Env → Mu → Option Out} {p : U → Bool} {Q : R.Env → Prop} {μ : Mu} {w : U} : ∀ {xs : List U} {σ : R.Env}, Q σ → (∀ x ∈ xs, ∀ σ, Q σ → if p x = true then ∃ σ', step x σ μ = some (.nx σ' μ) ∧ Q σ' else step x σ μ = some (.rt w μ)) →
    if xs.all p = true then ∃ σ', forL step xs σ μ = some (.nx σ' μ) ∧ Q σ' else forL step xs σ μ = some (.rt w μ)
  | [], σ, h, _ => by
    rw [if_pos (show ([] : List U).all p = true from rfl)]
    exact ⟨σ, by simp [forL], h⟩
  | x :: xs, σ, h, hs => by
    have h1 := hs x (by simp) σ h
    by_cases hp : p x = true
    · rw [if_pos hp] at h1
      obtain ⟨σ1, e1, q1⟩ := h1
      have h2 := forL_test (xs := xs) q1 fun y hy => hs y (by simp [hy])
      simp only [forL, e1, List.all_cons, hp, Bool.true_and]
      exact h2
    · rw [if_neg hp] at h1
      have hp' : p x = false := by simpa using hp
      rw [List.all_cons, hp', Bool.false_and, if_neg (by simp)]
      simp only [forL, h1]
theorem ex_bad {cal : Nat → List U → Mu → Option (U × Mu)} {n0 : Nat} {σ : R.Env} {μ μ1 μ2 : Mu} {c e : E} {f ss : List S} {w : U} (hc : evalE cal n0 c σ μ = some (.bl true, μ1)) (he : evalE cal n0 e σ μ1 = some (w, μ2)) : exL cal n0 (.iff c [.ret e] f :: ss) σ μ = some (.rt w μ2) := by
  have h : exS cal n0 (.iff c [.ret e] f) σ μ = some (.rt w μ2) := (ex_ifT hc rfl).trans (ex_ret he)
  simp only [exL, h]
theorem sort_ne (k : Nat) {B d : Nat} {u : U} (h : Pl B d u) (μ : Mu) (n0 : Nat) {σ : R.Env} {e : E} (he : evalE (runF defs (k + 1)) n0 e σ μ = some (u, μ)) (j : Int) : evalE (runF defs (k + 1)) n0 (.cmp .ne (.call 24 [e]) (.int j)) σ μ = some (.bl (!decide (srtU u = j)), μ) := by
  refine ev_cmp (ev_call (ev_l1 he) (sort_pl k h μ)) ev_int ?_
  simp only [evCmp, eq_int, neg?]
theorem ne_nil (μ : Mu) {B d : Nat} {xs : List U} (h : ∀ u ∈ xs, Pl B d u) (hd : d + 1 ≤ D0) : evCmp μ .ne (.lst xs) (.lst []) = some (!xs.isEmpty) := by
  have m := mapO_map (f := dat μ 11) (g := id) (h := tp) (xs := xs) fun x hx => dat_tp μ (h x hx) (by unfold D0 at hd; omega)
  rw [List.map_id] at m
  simp only [evCmp, evEq, show D0 = 11 + 1 from rfl, dat, m, mapO]
  cases xs with
  | nil => rfl
  | cons x xs => simp [PyData.eqv, PyData.eqvAll, neg?]
theorem okCall_inE {n : Nat} {es : List (Nat × Nat)} (T : Town n es) (u : U) : okCall n es u = inE es u := by
  unfold okCall
  cases h : inE es u with
  | false => rw [Bool.and_false]
  | true =>
    rw [Bool.and_true]
    unfold inE at h
    split at h
    · rename_i i j
      rw [List.any_eq_true] at h
      obtain ⟨p, hp, e⟩ := h
      have e := of_decide_eq_true e
      have := T.lt p hp
      simp [arW, isW]
      omega
    · cases h
theorem eq_nilT (μ : Mu) {B d : Nat} {xs : List U} (h : ∀ u ∈ xs, Pl B d u) (hd : d + 1 ≤ D0) : evCmp μ .eq (.tup xs) (.tup []) = some xs.isEmpty := by
  have m := mapO_map (f := dat μ 11) (g := id) (h := tp) (xs := xs) fun x hx => dat_tp μ (h x hx) (by unfold D0 at hd; omega)
  rw [List.map_id] at m
  simp only [evCmp, evEq, show D0 = 11 + 1 from rfl, dat, m, mapO]
  cases xs with
  | nil => rfl
  | cons x xs => simp [PyData.eqv, PyData.eqvAll]
def lineE (n : Nat) : List (Nat × Nat) := (List.range (n - 1)).map fun i => (i, i + 1)
theorem frz_tU (m : Nat) (μ : Mu) (n : Nat) {es : List (Nat × Nat)} (h : es.length ≤ 400) : frz m μ D0 (tU n es) = some (tU n es) := frz_pl (pl_tU (B := 400) (d := 0) (by omega) h) _ _ (by decide)
theorem line_ok (k : Nat) (μ : Mu) {n : Nat} (h1 : 1 ≤ n) (hn : n ≤ 12) : runF defs (k + 1) 32 [I n] μ = some (tU n (lineE n), μ) := by
  rw [run__law_line]
  have c : evalE (runF defs k) μ.length c__law_line_0 [some (I n), none] μ = some (.lst ((lineE n).map pU), μ) := by
    unfold lineE
    rw [List.map_map]
    refine (ev_comp (us := [I (n - 1)]) (μ1 := μ) (xs := (List.range (n - 1)).map I) (ev_l1 (ev_bin (ev_var rfl) ev_int (by simp only [evBin]; congr 3; omega))) (walk_rng (by omega)) (compL_all (enc := I) (g := fun i => pU (i, i + 1)) (fun i _ => ?_) (by simp; unfold SZ; omega))).trans rfl
    exact cs_yes rfl (ev_tup (ev_l2 (ev_var rfl) (ev_bin (ev_var rfl) ev_int rfl)) (show 2 ≤ SZ by decide))
  exact (if_pos rfl).trans (run_rt (ex_ret (ev_tup (ev_l2 (ev_var rfl) (ev_col (ev_l1 c) rfl rfl)) (show 2 ≤ SZ by decide))) (fin_cut (frz_tU _ _ _ (by simp [lineE]; omega)) (by simp)))
end K05

set_option Elab.async false
set_option linter.all false
set_option maxRecDepth 100000
set_option maxHeartbeats 4000000
namespace K05
open PySem L2 R
/-! ### friends by lot -/
theorem min2_I (μ : Mu) (a b : Nat) : evBi μ .min2 [I a, I b] = some (I (min a b)) := by
  simp only [evBi]
  congr 2
  split <;> omega
theorem max2_I (μ : Mu) (a b : Nat) : evBi μ .max2 [I a, I b] = some (I (max a b)) := by
  simp only [evBi]
  congr 2
  split <;> omega
theorem ev_pop1 {cal : Nat → List U → Mu → Option (U × Mu)} {n0 : Nat} {σ : R.Env} {μ μ1 : Mu} {al : Bool} {a e : E} {i j : Nat} {u : U} {xs : List U} (ha : evalE cal n0 a σ μ = some (.ob i, μ)) (hs : (asL μ (.ob i)).isSome = true) (he : evalE cal n0 e σ μ = some (I j, μ1)) (h : μ1[i]? = some (.lst xs)) (hj : j < xs.length) (hj2 : j < 1000) (hx : xs[j]? = some u) :
    evalE cal n0 (.me al .pop1 a [e]) σ μ = some (u, μ1.set i (.lst (xs.eraseIdx j))) := by
  simp only [evalE, evalL, ha, he, okm, hs, evMe, h]
  rw [if_pos (by omega)]
  simp only [L2.ixN]
  rw [if_pos (by omega), if_pos (by omega)]
  simp only [Int.toNat_natCast, hx]
section
variable (c : U) (ρ : Mu) (A B P A' B' P' : U)
theorem t1a : (c :: (ρ ++ [A]))[ρ.length + 1]? = some A := by simp
theorem t1s : (c :: (ρ ++ [A])).set (ρ.length + 1) A' = c :: (ρ ++ [A']) := by simp
theorem t2a : (c :: (ρ ++ [A, B]))[ρ.length + 1]? = some A := by simp
theorem t2b : (c :: (ρ ++ [A, B]))[ρ.length + 2]? = some B := by simp
theorem t2s : (c :: (ρ ++ [A, B])).set (ρ.length + 1) A' = c :: (ρ ++ [A', B]) := by simp
theorem t2t : (c :: (ρ ++ [A, B])).set (ρ.length + 2) B' = c :: (ρ ++ [A, B']) := by simp
theorem t3b : (c :: (ρ ++ [A, B, P]))[ρ.length + 2]? = some B := by simp
theorem t3c : (c :: (ρ ++ [A, B, P]))[ρ.length + 3]? = some P := by simp
theorem t3u : (c :: (ρ ++ [A, B, P])).set (ρ.length + 3) P' = c :: (ρ ++ [A, B, P']) := by simp
end
abbrev nL (l : List Nat) : U := .lst (l.map I)
theorem erase_map {α β : Type} (f : α → β) : ∀ (l : List α) (r : Nat), (l.map f).eraseIdx r = (l.eraseIdx r).map f
  | [], _ => rfl
  | _ :: _, 0 => rfl
  | a :: l, r + 1 => by simp [erase_map f l r]
theorem tree_loop1 (k : Nat) (ρ : Mu) {c : U} (C : Cup c) {n : Nat} (hn : n ≤ 12) (x2 x3 x4 x7 x8 : Option U) :
    ∃ c' m y2, forL (fstep (runF defs (k + 1)) (ρ.length + 1) (.slot 2) lb__law_tree_0) ((List.range n).map I) [some (.ob 0), some (I n), x2, x3, x4, some (.ob (ρ.length + 1)), some (.ob (ρ.length + 2)), x7, x8] (c :: (ρ ++ [nL (List.range n), nL []])) =
      some (.nx [some (.ob 0), some (I n), y2, x3, x4, some (.ob (ρ.length + 1)), some (.ob (ρ.length + 2)), x7, x8] (c' :: (ρ ++ [nL [], nL m]))) ∧ Cup c' ∧ m.length = n ∧ m.Nodup ∧ ∀ x ∈ m, x < n := by
  obtain ⟨σ', μ', e, y2, c', l, m, rfl, rfl, C', h1, h2, h3, h4⟩ := forL_inv0 (step := fstep (runF defs (k + 1)) (ρ.length + 1) (.slot 2) lb__law_tree_0) (xs := (List.range n).map I)
    (fun i σ μ' => ∃ y2 c l m, σ = [some (.ob 0), some (I n), y2, x3, x4, some (.ob (ρ.length + 1)), some (.ob (ρ.length + 2)), x7, x8] ∧ μ' = c :: (ρ ++ [nL l, nL m]) ∧ Cup c ∧ l.length = n - i ∧ m.length = i ∧ (l ++ m).Nodup ∧ ∀ x ∈ l ++ m, x < n)
    (σ := [some (.ob 0), some (I n), x2, x3, x4, some (.ob (ρ.length + 1)), some (.ob (ρ.length + 2)), x7, x8]) (μ := c :: (ρ ++ [nL (List.range n), nL []]))
    ⟨x2, c, List.range n, [], rfl, rfl, C, by simp, rfl, by simpa using List.nodup_range, by simp⟩ (fun i x σ μ' hx hp => by
      obtain ⟨y2, c, l, m, rfl, rfl, C, h1, h2, h3, h4⟩ := hp
      obtain ⟨hi, rfl⟩ := rng_at hx
      obtain ⟨r, c', er, hr, C'⟩ := roll_ok k (ρ ++ [nL l, nL m]) C (many := l.length) (by omega) (by omega)
      have pm : (l.eraseIdx r ++ (m ++ [l[r]])).Perm (l ++ m) := by
        have e1 : l = l.take r ++ l[r] :: l.drop (r + 1) := by rw [← List.drop_eq_getElem_cons hr, List.take_append_drop]
        have e2 : l.eraseIdx r = l.take r ++ l.drop (r + 1) := List.eraseIdx_eq_take_drop_succ ..
        rw [e2]
        conv => rhs; rw [e1]
        rw [← List.append_assoc]
        refine (List.perm_append_comm).trans ?_
        refine (List.Perm.trans (by rw [List.singleton_append]) (?_ : (l[r] :: (l.take r ++ l.drop (r + 1) ++ m)).Perm _))
        simp only [List.append_assoc, List.cons_append]
        exact List.perm_middle.symm
      refine ⟨[some (.ob 0), some (I n), some (I i), x3, x4, some (.ob (ρ.length + 1)), some (.ob (ρ.length + 2)), x7, x8], c' :: (ρ ++ [nL (l.eraseIdx r), nL (m ++ [l[r]])]), .inl ?_, some (I i), c', l.eraseIdx r, m ++ [l[r]], rfl, rfl, C', by rw [List.length_eraseIdx_of_lt hr]; omega, by simp [h2], pm.nodup_iff.mpr h3, fun x hx => h4 x (pm.mem_iff.mp hx)⟩
      show exL (runF defs (k + 1)) (ρ.length + 1) lb__law_tree_0 [some (.ob 0), some (I n), some (I i), x3, x4, some (.ob (ρ.length + 1)), some (.ob (ρ.length + 2)), x7, x8] (c :: (ρ ++ [nL l, nL m])) = _
      unfold lb__law_tree_0
      have a1 := t2a c ρ (nL l) (nL m)
      have b1 := t2b c ρ (nL l) (nL m)
      have pop := ev_pop1 (cal := runF defs (k + 1)) (n0 := ρ.length + 1) (σ := [some (.ob 0), some (I n), some (I i), x3, x4, some (.ob (ρ.length + 1)), some (.ob (ρ.length + 2)), x7, x8]) (μ := c :: (ρ ++ [nL l, nL m])) (μ1 := c' :: (ρ ++ [nL l, nL m])) (al := false) (a := .var 5) (e := .call 22 [(.var 0), (.bi .len [(.var 5)])]) (i := ρ.length + 1) (j := r) (u := I l[r]) (xs := l.map I) (ev_var rfl) (by simp only [asL, a1]; rfl) (ev_call (us := [.ob 0, I l.length]) (ev_l2 (ev_var rfl) (ev_bi (ev_l1 (ev_var rfl)) (by simp only [evBi, cont, a1, List.length_map]))) er) (t2a c' ρ (nL l) (nL m)) (by simpa using hr) (by omega) (by simp [hr])
      rw [t2s] at pop
      refine (ex_seq (ex_appendA (ev_var rfl) (by simp only [asL, b1]; rfl) pop (t2b c' ρ _ (nL m)) (by simp [h2]; unfold SZ; omega) (by simp [okw, nomut]))).trans ?_
      rw [t2t, ex_nil]
      simp only [nL, List.map_append, List.map_singleton, erase_map])
  rw [List.length_map, List.length_range] at h1 h2
  have hl : l = [] := List.eq_nil_of_length_eq_zero (by omega)
  subst hl
  exact ⟨c', m, y2, e, C', h2, by simpa using h3, fun x hx => h4 x (by simpa using hx)⟩
theorem tree_loop2 (k : Nat) (ρ : Mu) {c : U} (C : Cup c) {n : Nat} (hn : n ≤ 12) (A : U) {m : List Nat} (hm : m.length = n) (nd : m.Nodup) (hlt : ∀ x ∈ m, x < n) (x2 x4 x7 x8 : Option U) :
    ∃ (c' : U) (ps : List (Nat × Nat)) (y4 y7 y8 : Option U), forL (fstep (runF defs (k + 2)) (ρ.length + 1) (.slot 4) lb__law_tree_2) ((List.range (n - 1)).map fun i => I (1 + i)) [some (.ob 0), some (I n), x2, some (.ob (ρ.length + 3)), x4, some (.ob (ρ.length + 1)), some (.ob (ρ.length + 2)), x7, x8] (c :: (ρ ++ [A, nL m, .lst []])) =
      some (.nx [some (.ob 0), some (I n), x2, some (.ob (ρ.length + 3)), y4, some (.ob (ρ.length + 1)), some (.ob (ρ.length + 2)), y7, y8] (c' :: (ρ ++ [A, nL m, .lst (ps.map pU)]))) ∧ Cup c' ∧ ps.length = n - 1 ∧ ∀ p ∈ ps, p.1 < p.2 ∧ p.2 < n := by
  obtain ⟨σ', μ', e, y4, y7, y8, c', ps, rfl, rfl, C', h1, h2⟩ := forL_inv0 (step := fstep (runF defs (k + 2)) (ρ.length + 1) (.slot 4) lb__law_tree_2) (xs := (List.range (n - 1)).map fun i => I (1 + i))
    (fun i σ μ' => ∃ (y4 y7 y8 : Option U) (c : U) (ps : List (Nat × Nat)), σ = [some (.ob 0), some (I n), x2, some (.ob (ρ.length + 3)), y4, some (.ob (ρ.length + 1)), some (.ob (ρ.length + 2)), y7, y8] ∧ μ' = c :: (ρ ++ [A, nL m, .lst (ps.map pU)]) ∧ Cup c ∧ ps.length = i ∧ ∀ p ∈ ps, p.1 < p.2 ∧ p.2 < n)
    (σ := [some (.ob 0), some (I n), x2, some (.ob (ρ.length + 3)), x4, some (.ob (ρ.length + 1)), some (.ob (ρ.length + 2)), x7, x8]) (μ := c :: (ρ ++ [A, nL m, .lst []]))
    ⟨x4, x7, x8, c, [], rfl, rfl, C, rfl, by simp⟩ (fun i x σ μ' hx hp => by
      obtain ⟨y4, y7, y8, c, ps, rfl, rfl, C, h1, h2⟩ := hp
      obtain ⟨i', h3, _, rfl⟩ := map_at hx
      obtain ⟨h4, h5⟩ := List.getElem?_eq_some_iff.mp h3
      simp at h4 h5
      subst h5
      obtain ⟨r, c1, er, hr, C1⟩ := roll_ok (k + 1) (ρ ++ [A, nL m, .lst (ps.map pU)]) C (many := 1 + i) (by omega) (by omega)
      obtain ⟨w, c2, es, hw, C2⟩ := some_ok k (ρ ++ [A, nL m, .lst (ps.map pU)]) C1 (u := nL [r, i]) (xs := [r, i].map I) (.inl rfl) (fun _ => trivial) (by simp) (by simp) fun x hx c' => by
        simp at hx
        rcases hx with rfl | rfl <;> rfl
      obtain ⟨j, hj, rfl⟩ : ∃ j, j < 1 + i ∧ w = I j := by
        simp at hw
        rcases hw with rfl | rfl
        · exact ⟨r, hr, rfl⟩
        · exact ⟨i, by omega, rfl⟩
      have hne : m[j] ≠ m[1 + i] := List.pairwise_iff_getElem.mp nd j (1 + i) (by omega) (by omega) hj
      have l1 := hlt _ (List.getElem_mem (show 1 + i < m.length by omega))
      have l2 := hlt _ (List.getElem_mem (show j < m.length by omega))
      let q : Nat × Nat := (min m[1 + i] m[j], max m[1 + i] m[j])
      refine ⟨[some (.ob 0), some (I n), x2, some (.ob (ρ.length + 3)), some (I (1 + i)), some (.ob (ρ.length + 1)), some (.ob (ρ.length + 2)), some (I m[1 + i]), some (I m[j])], c2 :: (ρ ++ [A, nL m, .lst ((ps ++ [q]).map pU)]), .inl ?_, _, _, _, c2, ps ++ [q], rfl, rfl, C2, by simp [h1], fun p hp => ?_⟩
      · show exL (runF defs (k + 2)) (ρ.length + 1) lb__law_tree_2 [some (.ob 0), some (I n), x2, some (.ob (ρ.length + 3)), some (I (1 + i)), some (.ob (ρ.length + 1)), some (.ob (ρ.length + 2)), y7, y8] (c :: (ρ ++ [A, nL m, .lst (ps.map pU)])) = _
        unfold lb__law_tree_2
        have cb : ∀ c, cont (c :: (ρ ++ [A, nL m, .lst (ps.map pU)])) (.ob (ρ.length + 2)) = some (nL m) := fun c => by simp only [cont, t3b]
        have ai : ∀ a (h : a < m.length), atI (m.map I) (a : Int) = some (I m[a]) := fun a h => atI_of (by simp [h])
        refine (ex_seq (ex_par (us := [I m[1 + i], I m[j]]) (μ' := c2 :: (ρ ++ [A, nL m, .lst (ps.map pU)])) (ev_l2 (ev_idxL1 (ev_var rfl) (ev_var rfl) (cb c) (ai (1 + i) (by omega)))
          (ev_idxL1 (ev_var rfl) (ev_call (us := [.ob 0, nL [r, i]]) (ev_l2 (ev_var rfl) (ev_lst (us := [I r, I i]) (ev_l2 (ev_call (us := [.ob 0, I (1 + i)]) (ev_l2 (ev_var rfl) (ev_var rfl)) er) (ev_bin (ev_var rfl) ev_int (by simp only [evBin]; congr 3; omega))) (show 2 ≤ SZ by decide))) es) (cb c2) (ai j (by omega)))) rfl)).trans ?_
        have lc := t3c c2 ρ A (nL m) (.lst (ps.map pU))
        refine (ex_seq (ex_appendA (u := pU q) (ev_var rfl) (by simp only [asL, lc]; rfl) (ev_tup (ev_l2 (ev_bi (ev_l2 (ev_var rfl) (ev_var rfl)) (min2_I _ _ _)) (ev_bi (ev_l2 (ev_var rfl) (ev_var rfl)) (max2_I _ _ _))) (show 2 ≤ SZ by decide)) lc (by simp [h1]; unfold SZ; omega) (by simp [okw, nomut, nomuts]))).trans ?_
        rw [t3u, ex_nil]
        simp only [List.map_append, List.map_singleton]
        rfl
      · rcases List.mem_append.mp hp with z | z
        · exact h2 p z
        · rw [List.mem_singleton] at z
          subst z
          show min m[1 + i] m[j] < max m[1 + i] m[j] ∧ max m[1 + i] m[j] < n
          omega)
  rw [List.length_map, List.length_range] at h1
  exact ⟨c', ps, y4, y7, y8, e, C', h1, h2⟩
theorem tree_ok (k : Nat) (ρ : Mu) {c : U} (C : Cup c) {n : Nat} (h1 : 1 ≤ n) (hn : n ≤ 12) : ∃ c' ps, runF defs (k + 3) 27 [.ob 0, I n] (c :: ρ) = some (tU n (srtP ps), c' :: ρ) ∧ Cup c' ∧ ps.length = n - 1 ∧ ∀ p ∈ ps, p.1 < p.2 ∧ p.2 < n := by
  obtain ⟨c1, m, y2, e1, C1, hm, nd, hlt⟩ := tree_loop1 (k + 1) ρ C hn none none none none none
  obtain ⟨c2, ps, y4, y7, y8, e2, C2, hp, hv⟩ := tree_loop2 k ρ C1 hn (nL []) hm nd hlt y2 none none none
  refine ⟨c2, ps, ?_, C2, hp, hv⟩
  rw [run__law_tree]
  have b : exL (runF defs (k + 2)) (ρ.length + 1) b__law_tree [some (.ob 0), some (I n), none, none, none, none, none, none, none] (c :: ρ) = some (.rt (tU n (srtP ps)) (c2 :: (ρ ++ [nL [], nL m, .lst (ps.map pU)]))) := by
    unfold b__law_tree
    refine (ex_seq (ex_par (us := [.ob (ρ.length + 1), .ob (ρ.length + 2)]) (μ' := c :: (ρ ++ [nL (List.range n), nL []])) (ev_l2 (ev_col (us := [I n]) (xs := (List.range n).map I) (μ1 := c :: ρ) (r := (.ob (ρ.length + 1), c :: (ρ ++ [nL (List.range n)]))) (ev_l1 (ev_var rfl)) ?_ ?_) ?_) rfl)).trans ?_
    · simp only [items]
      rw [if_pos (by omega), rgn_nat]
    · simp [evCol, R.fresh]
    · have := ev_lstA (cal := runF defs (k + 2)) (n0 := ρ.length + 1) (σ := [some (.ob 0), some (I n), none, none, none, none, none, none, none]) (μ := c :: (ρ ++ [nL (List.range n)])) (es := []) ev_lnil (show 0 ≤ SZ by decide)
      refine this.trans ?_
      simp
    · refine (ex_seq (((show exS _ _ l__law_tree_0 _ _ = _ from ex_for (us := [I n]) (xs := (List.range n).map I) (ev_l1 (ev_var rfl)) (walk_rng (by omega))).trans e1))).trans ?_
      refine (ex_seq (ex_set (u := .ob (ρ.length + 3)) (μ' := c1 :: (ρ ++ [nL [], nL m, .lst []])) ?_)).trans ?_
      · refine (ev_lstA ev_lnil (show 0 ≤ SZ by decide)).trans ?_
        simp
      · refine (ex_seq (((show exS _ _ l__law_tree_2 _ _ = _ from ex_for (us := [.int 1, I n]) (xs := (List.range (n - 1)).map fun i => I (1 + i)) (ev_l2 ev_int (ev_var rfl)) (walk_1 (by omega))).trans e2))).trans ?_
        refine ex_ret (ev_tup (ev_l2 (ev_var rfl) (ev_col (us := [.lst ((srtP ps).map pU)]) (xs := (srtP ps).map pU) (ev_l1 (ev_col (us := [.ob (ρ.length + 3)]) (xs := ps.map pU) (ev_l1 (ev_var rfl)) ?_ ?_)) rfl rfl)) (show 2 ≤ SZ by decide))
        · simp only [items, asS, asL, t3c]
        · simp only [evCol, srtd_pU _ ps (by rw [hp]; unfold SZ; omega)]
          rfl
  exact (if_pos rfl).trans (run_rt b (fin_cut (frz_tU _ _ _ (by rw [srtP_len, hp]; omega)) (by simp)))
end K05

set_option Elab.async false
set_option linter.all false
set_option maxRecDepth 100000
set_option maxHeartbeats 4000000
namespace K05
open PySem L2 R
theorem other_ne {n a r : Nat} (ha : a < n) (hr : r < n - 1) : (a + 1 + r) % n ≠ a ∧ (a + 1 + r) % n < n := by
  refine ⟨?_, Nat.mod_lt _ (by omega)⟩
  by_cases h : a + 1 + r < n
  · rw [Nat.mod_eq_of_lt h]; omega
  · rw [Nat.mod_eq_sub_mod (by omega), Nat.mod_eq_of_lt (by omega)]; omega
structure KInv (n m : Nat) (K : List (Nat × Nat)) : Prop where
  nd : K.Nodup
  lt : ∀ p ∈ K, p.1 < p.2 ∧ p.2 < n
  len : K.length ≤ m
theorem KInv.add {n m : Nat} {K : List (Nat × Nat)} (V : KInv n m K) {q : Nat × Nat} (h : q.1 < q.2 ∧ q.2 < n) : KInv n (m + 1) (ins K q) :=
  ⟨ins_nd V.nd, fun p hp => by
    rcases ins_mem.mp hp with z | z
    · exact V.lt p z
    · subst z; exact h, by have := @ins_len K q; have := V.len; omega⟩
theorem KInv.town {n m : Nat} {K : List (Nat × Nat)} (V : KInv n m K) (h1 : 1 ≤ n) (hn : n ≤ 12) (hm : m ≤ 400) : Town n (srtP K) where
  n1 := h1
  n12 := hn
  len := by rw [srtP_len]; have := V.len; omega
  lt := fun p hp => V.lt p ((srtP_mem K p).mp hp)
  asc := srtP_asc V.nd
theorem friends_loop (k : Nat) (ρ : Mu) {c : U} (C : Cup c) {n : Nat} (h2 : 2 ≤ n) (hn : n ≤ 12) {m t : Nat} (hm : m + t ≤ 100) {K : List (Nat × Nat)} (V : KInv n m K) (x2 x4 x5 x6 x7 : Option U) :
    ∃ (c' : U) (K' : List (Nat × Nat)) (y4 y5 y6 : Option U), forL (fstep (runF defs (k + 1)) (ρ.length + 1) (.slot 4) lb__law_friends_1) ((List.range t).map I) [some (.ob 0), some (I n), x2, some (.ob (ρ.length + 1)), x4, x5, x6, x7] (c :: (ρ ++ [dtK K])) =
      some (.nx [some (.ob 0), some (I n), x2, some (.ob (ρ.length + 1)), y4, y5, y6, x7] (c' :: (ρ ++ [dtK K']))) ∧ Cup c' ∧ KInv n (m + t) K' := by
  obtain ⟨σ', μ', e, y4, y5, y6, c', K', rfl, rfl, C', V'⟩ := forL_inv0 (step := fstep (runF defs (k + 1)) (ρ.length + 1) (.slot 4) lb__law_friends_1) (xs := (List.range t).map I)
    (fun i σ μ' => ∃ (y4 y5 y6 : Option U) (c : U) (K : List (Nat × Nat)), σ = [some (.ob 0), some (I n), x2, some (.ob (ρ.length + 1)), y4, y5, y6, x7] ∧ μ' = c :: (ρ ++ [dtK K]) ∧ Cup c ∧ KInv n (m + i) K)
    (σ := [some (.ob 0), some (I n), x2, some (.ob (ρ.length + 1)), x4, x5, x6, x7]) (μ := c :: (ρ ++ [dtK K]))
    ⟨x4, x5, x6, c, K, rfl, rfl, C, V⟩ (fun i x σ μ' hx hp => by
      obtain ⟨y4, y5, y6, c, K, rfl, rfl, C, V⟩ := hp
      obtain ⟨hi, rfl⟩ := rng_at hx
      obtain ⟨a, c1, ea, ha, C1⟩ := roll_ok k (ρ ++ [dtK K]) C (many := n) (by omega) (by omega)
      obtain ⟨r, c2, er, hr, C2⟩ := roll_ok k (ρ ++ [dtK K]) C1 (many := n - 1) (by omega) (by omega)
      obtain ⟨o1, o2⟩ := other_ne ha hr
      generalize hb : (a + 1 + r) % n = b at o1 o2
      have hbz : ((a : Int) + 1 + r) % n = (b : Int) := by
        rw [← hb, Int.natCast_emod]
        push_cast
        rfl
      refine ⟨[some (.ob 0), some (I n), x2, some (.ob (ρ.length + 1)), some (I i), some (I a), some (I b), x7], c2 :: (ρ ++ [dtK (ins K (min a b, max a b))]), .inl ?_, _, _, _, c2, ins K (min a b, max a b), rfl, rfl, C2, V.add (by simp only; omega)⟩
      show exL (runF defs (k + 1)) (ρ.length + 1) lb__law_friends_1 [some (.ob 0), some (I n), x2, some (.ob (ρ.length + 1)), some (I i), y5, y6, x7] (c :: (ρ ++ [dtK K])) = _
      unfold lb__law_friends_1
      refine (ex_seq (ex_set (u := I a) (ev_call (us := [.ob 0, I n]) (ev_l2 (ev_var rfl) (ev_var rfl)) ea))).trans ?_
      refine (ex_seq (ex_set (u := I b) (μ' := c2 :: (ρ ++ [dtK K])) (ev_bin (u := .int ((a : Int) + 1 + r)) (v := I n) (μ1 := c2 :: (ρ ++ [dtK K])) (μ2 := c2 :: (ρ ++ [dtK K])) (ev_bi (us := [.int ((a : Int) + 1 + r)]) (ev_l1 (ev_bin (u := .int ((a : Int) + 1)) (v := I r) (μ1 := c1 :: (ρ ++ [dtK K])) (ev_bin (ev_var rfl) ev_int rfl) (ev_call (us := [.ob 0, I (n - 1)]) (ev_l2 (ev_var rfl) (ev_bin (ev_var rfl) ev_int (by simp only [evBin]; congr 3; omega))) er) rfl)) rfl) (ev_var rfl) ?_))).trans ?_
      · simp only [evBin]
        rw [if_pos (by omega), hbz]
      · refine (ex_seq (ex_subT1 (i := ρ.length + 1) (q := kP (min a b, max a b)) (μ1 := c2 :: (ρ ++ [dtK K])) (v := pU (min a b, max a b)) ev_bl (ev_var rfl) (ev_tup (ev_l2 (ev_bi (ev_l2 (ev_var rfl) (ev_var rfl)) (min2_I _ _ _)) (ev_bi (ev_l2 (ev_var rfl) (ev_var rfl)) (max2_I _ _ _))) (show 2 ≤ SZ by decide)) rfl (t1a c2 ρ (dtK K)) (by rw [List.length_map]; have := V.len; unfold SZ; omega) (Nat.le_refl _))).trans ?_
        rw [t1s, dtK_put, ex_nil]
        rfl)
  rw [List.length_map, List.length_range] at V'
  exact ⟨c', K', y4, y5, y6, e, C', V'⟩
theorem law_friends_ok (k : Nat) (ρ : Mu) {c : U} (C : Cup c) {n : Nat} (h1 : 1 ≤ n) (hn : n ≤ 12) {more : Nat} (hm : more ≤ 50) : ∃ (c' : U) (es : List (Nat × Nat)), runF defs (k + 4) 28 [.ob 0, I n, I more] (c :: ρ) = some (tU n es, c' :: ρ) ∧ Cup c' ∧ Town n es := by
  obtain ⟨c1, ps, e1, C1, hp, hv⟩ := tree_ok k ρ C h1 hn
  have V0 : KInv n 11 ((srtP ps).foldl ins []) := ⟨foldl_ins_nd _ _ List.nodup_nil, fun p hp => hv p ((srtP_mem ps p).mp (by simpa using (foldl_ins_mem _ _ _).mp hp)), by
    have := sub_len (l := (srtP ps).foldl ins []) (q := srtP ps) (foldl_ins_nd _ _ List.nodup_nil) fun x hx => by simpa using (foldl_ins_mem _ _ _).mp hx
    rw [srtP_len, hp] at this
    omega⟩
  have loop : ∃ (c2 : U) (K : List (Nat × Nat)) (y4 y5 y6 : Option U), exS (runF defs (k + 3)) (ρ.length + 1) l__law_friends_1 [some (.ob 0), some (I n), some (I more), some (.ob (ρ.length + 1)), none, none, none, none] (c1 :: (ρ ++ [dtK ((srtP ps).foldl ins [])])) =
      some (.nx [some (.ob 0), some (I n), some (I more), some (.ob (ρ.length + 1)), y4, y5, y6, none] (c2 :: (ρ ++ [dtK K]))) ∧ Cup c2 ∧ KInv n 100 K := by
    by_cases h2 : 2 ≤ n
    · obtain ⟨t, c2, et, ht, C2⟩ := roll_ok (k + 2) (ρ ++ [dtK ((srtP ps).foldl ins [])]) C1 (many := more + 1) (by omega) (by omega)
      obtain ⟨c3, K, y4, y5, y6, e, C3, V⟩ := friends_loop (k + 2) ρ C2 h2 hn (m := 11) (t := t) (by omega) V0 (some (I more)) none none none none
      refine ⟨c3, K, y4, y5, y6, ?_, C3, ⟨V.nd, V.lt, by have := V.len; omega⟩⟩
      refine (ex_for (us := [I t]) (xs := (List.range t).map I) (ev_l1 (ev_iteT (u := .bl true) (ev_cmp (d := true) (u := I n) (v := I 1) (ev_var rfl) ev_int (gt_I.trans (by rw [decide_eq_true (by omega)]))) rfl (ev_call (us := [.ob 0, I (more + 1)]) (ev_l2 (ev_var rfl) (ev_bin (ev_var rfl) ev_int rfl)) et))) (walk_rng (by omega))).trans e
    · refine ⟨c1, _, none, none, none, ?_, C1, ⟨V0.nd, V0.lt, by have := V0.len; omega⟩⟩
      refine (ex_for (us := [I 0]) (xs := (List.range 0).map I) (ev_l1 (ev_iteF (u := .bl false) (ev_cmp (d := false) (u := I n) (v := I 1) (ev_var rfl) ev_int (gt_I.trans (by rw [decide_eq_false (by omega)]))) rfl ev_int)) (walk_rng (by omega))).trans rfl
  obtain ⟨c2, K, y4, y5, y6, e2, C2, V⟩ := loop
  refine ⟨c2, srtP K, ?_, C2, V.town h1 hn (by omega)⟩
  rw [run__law_friends]
  have b : exL (runF defs (k + 3)) (ρ.length + 1) b__law_friends [some (.ob 0), some (I n), some (I more), none, none, none, none, none] (c :: ρ) = some (.rt (tU n (srtP K)) (c2 :: (ρ ++ [dtK K]))) := by
    unfold b__law_friends
    have c0 : evalE (runF defs (k + 3)) (ρ.length + 1) c__law_friends_0 [some (.ob 0), some (I n), some (I more), none, none, none, none, none] (c :: ρ) = some (.lst ((srtP ps).map fun p => .tup [pU p, .bl true]), c1 :: ρ) := by
      refine (ev_comp (us := [.tup ((srtP ps).map pU)]) (μ1 := c1 :: ρ) (xs := (srtP ps).map pU) (ev_l1 (ev_idxT1 (ev_call (us := [.ob 0, I n]) (ev_l2 (ev_var rfl) (ev_var rfl)) e1) ev_int (atI_of (j := 1) rfl))) rfl (compL_all (enc := pU) (g := fun p => .tup [pU p, .bl true]) (fun p _ => cs_yes rfl (ev_tup (ev_l2 (ev_var rfl) ev_bl) (show 2 ≤ SZ by decide))) (by simp [srtP_len, hp]; unfold SZ; omega))).trans rfl
    refine (ex_seq (ex_set (u := .ob (ρ.length + 1)) (μ' := c1 :: (ρ ++ [dtK ((srtP ps).foldl ins [])])) (ev_col (ev_l1 c0) rfl ?_))).trans ?_
    · simp only [evCol]
      rw [mapO_map (f := pairKV) (h := fun p => (pU p, U.bl true)) fun x _ => rfl]
      simp only
      have := merge_dtK (srtP ps) [] (by simp [srtP_len, hp]; unfold SZ; omega)
      simp only [dtK, List.map_nil] at this
      rw [this]
      simp [R.fresh]
    · refine (ex_seq e2).trans ?_
      refine ex_ret (ev_tup (ev_l2 (ev_var rfl) (ev_col (us := [.lst ((srtP K).map pU)]) (xs := (srtP K).map pU) (ev_l1 (ev_col (us := [.ob (ρ.length + 1)]) (xs := K.map pU) (ev_l1 (ev_var rfl)) ?_ ?_)) rfl rfl)) (show 2 ≤ SZ by decide))
      · simp only [items, asS, asL, cont, t1a, List.map_map]
        rfl
      · simp only [evCol, srtd_pU _ K (by have := V.len; unfold SZ; omega)]
        rfl
  exact (if_pos rfl).trans (run_rt b (fin_cut (frz_tU _ _ _ (by rw [srtP_len]; have := V.len; omega)) (by simp)))
/-! ### friends apart, rows by lot -/
theorem compL_sub {α : Type} {step : U → Mu → Option (Option U × Mu)} {enc : α → U} {Inv : Mu → Prop} : ∀ {xs : List α} {acc : List U} {μ : Mu}, Inv μ → (∀ x ∈ xs, ∀ μ, Inv μ → ∃ μ', Inv μ' ∧ (step (enc x) μ = some (some (enc x), μ') ∨ step (enc x) μ = some (none, μ'))) → acc.length + xs.length ≤ SZ →
    ∃ (ys : List α) (μ' : Mu), compL step (xs.map enc) acc μ = some (acc ++ ys.map enc, μ') ∧ Inv μ' ∧ ys.Sublist xs
  | [], acc, μ, h, _, _ => ⟨[], μ, by simp [compL], h, List.Sublist.refl _⟩
  | x :: xs, acc, μ, h, hs, hl => by
    obtain ⟨μ1, h1, e⟩ := hs x (by simp) μ h
    simp only [List.length_cons] at hl
    rcases e with e | e
    · obtain ⟨ys, μ2, e2, h2, s⟩ := compL_sub (xs := xs) (acc := acc ++ [enc x]) h1 (fun y hy => hs y (by simp [hy])) (by simp; omega)
      refine ⟨x :: ys, μ2, ?_, h2, s.cons_cons x⟩
      simp only [List.map_cons, compL, e]
      rw [if_pos (by omega), e2]
      simp
    · obtain ⟨ys, μ2, e2, h2, s⟩ := compL_sub (xs := xs) (acc := acc) h1 (fun y hy => hs y (by simp [hy])) (by omega)
      refine ⟨ys, μ2, ?_, h2, s.cons x⟩
      simp only [List.map_cons, compL, e]
      exact e2
theorem Town.sub {n : Nat} {es es' : List (Nat × Nat)} (T : Town n es) (s : es'.Sublist es) : Town n es' :=
  ⟨T.n1, T.n12, by have := s.length_le; have := T.len; omega, fun p hp => T.lt p (s.subset hp), T.asc.sublist s⟩
theorem apart_ok (k : Nat) (ρ : Mu) {c : U} (C : Cup c) {n : Nat} {es : List (Nat × Nat)} (T : Town n es) : ∃ (c' : U) (es' : List (Nat × Nat)), runF defs (k + 2) 29 [.ob 0, tU n es] (c :: ρ) = some (tU n es', c' :: ρ) ∧ Cup c' ∧ Town n es' := by
  obtain ⟨es', μ', e, ⟨c', rfl, C'⟩, s⟩ := compL_sub (step := cstep (runF defs (k + 1)) (ρ.length + 1) (.slot 2) (.cmp .gt (.call 22 [(.var 0), (.int 4)]) (.int 0)) (.var 2) [2] [some (.ob 0), some (tU n es), none]) (enc := pU) (Inv := fun μ => ∃ c, μ = c :: ρ ∧ Cup c) (xs := es) (acc := []) (μ := c :: ρ) ⟨c, rfl, C⟩ (fun p _ μ h => by
    obtain ⟨c, rfl, C⟩ := h
    obtain ⟨r, c', er, hr, C'⟩ := roll_ok k ρ C (many := 4) (by omega) (by omega)
    have e1 : evalE (runF defs (k + 1)) (ρ.length + 1) (.cmp .gt (.call 22 [(.var 0), (.int 4)]) (.int 0)) [some (.ob 0), some (tU n es), some (pU p)] (c :: ρ) = some (.bl (decide (0 < r)), c' :: ρ) := ev_cmp (u := I r) (v := I 0) (ev_call (us := [.ob 0, I 4]) (ev_l2 (ev_var rfl) ev_int) er) ev_int gt_I
    refine ⟨c' :: ρ, ⟨c', rfl, C'⟩, ?_⟩
    by_cases h : 0 < r
    · rw [decide_eq_true h] at e1
      exact .inl (cs_if rfl e1 rfl (ev_var rfl))
    · rw [decide_eq_false h] at e1
      exact .inr (cs_no rfl e1 rfl)) (by have := T.len; simp; unfold SZ; omega)
  have T' := T.sub s
  refine ⟨c', es', ?_, C', T'⟩
  rw [run__law_apart]
  refine (if_pos rfl).trans (run_rt (μ1 := c' :: ρ) (u := tU n es') ?_ (fin_cut (frz_tU _ _ _ T'.len) (by simp)))
  have cc : evalE (runF defs (k + 1)) (ρ.length + 1) c__law_apart_0 [some (.ob 0), some (tU n es), none] (c :: ρ) = some (.lst (es'.map pU), c' :: ρ) := (ev_comp (us := [.tup (es.map pU)]) (μ1 := c :: ρ) (xs := es.map pU) (ev_l1 (ev_idxT (ev_var rfl) ev_int (atI_of (j := 1) rfl))) rfl e).trans rfl
  exact ex_ret (ev_tup (ev_l2 (ev_idxT (ev_var rfl) ev_int (w := I n) (atI_of (j := 0) rfl)) (ev_col (ev_l1 cc) rfl rfl)) (show 2 ≤ SZ by decide))
theorem all_pairs {es : List (Nat × Nat)} : ∀ {ys : List U}, (∀ y ∈ ys, ∃ p ∈ es, y = pU p) → ∃ row : List (Nat × Nat), ys = row.map pU ∧ ∀ p ∈ row, p ∈ es
  | [], _ => ⟨[], rfl, by simp⟩
  | y :: ys, h => by
    obtain ⟨p, hp, rfl⟩ := h y (by simp)
    obtain ⟨row, rfl, hr⟩ := all_pairs (ys := ys) fun z hz => h z (by simp [hz])
    refine ⟨p :: row, rfl, fun q hq => ?_⟩
    rcases List.mem_cons.mp hq with z | z
    · exact z ▸ hp
    · exact hr q z
theorem row_ok (k : Nat) (ρ : Mu) {c : U} (C : Cup c) {n : Nat} {es : List (Nat × Nat)} (T : Town n es) {many : Nat} (hm : many ≤ 20) : ∃ (c' : U) (row : List (Nat × Nat)), runF defs (k + 3) 30 [.ob 0, tU n es, I many] (c :: ρ) = some (rU row, c' :: ρ) ∧ Cup c' ∧ Row n es row ∧ row.length ≤ 20 := by
  have a1 : ∀ {μ : Mu}, evalE (runF defs (k + 2)) (ρ.length + 1) (.idx (.var 1) (.int 1)) [some (.ob 0), some (tU n es), some (I many), none] μ = some (.tup (es.map pU), μ) := ev_idxT (ev_var rfl) ev_int (atI_of (j := 1) rfl)
  have ne : evalE (runF defs (k + 2)) (ρ.length + 1) (.cmp .ne (.idx (.var 1) (.int 1)) (.tup [])) [some (.ob 0), some (tU n es), some (I many), none] (c :: ρ) = some (.bl (!(es.map pU).isEmpty), c :: ρ) := by
    refine ev_cmp a1 (ev_tup ev_lnil (show 0 ≤ SZ by decide)) ?_
    have := eq_nilT (c :: ρ) (B := 2) (d := 1) (xs := es.map pU) (fun u hu => by obtain ⟨p, _, rfl⟩ := List.mem_map.mp hu; exact pl_pU p (by omega)) (by decide)
    simp only [evCmp] at this ⊢
    rw [this]
    rfl
  have turns : ∃ (t : Nat) (c1 : U), evalE (runF defs (k + 2)) (ρ.length + 1) (.ite (.cmp .ne (.idx (.var 1) (.int 1)) (.tup [])) (.call 22 [(.var 0), (.bin false .add (.var 2) (.int 1))]) (.int 0)) [some (.ob 0), some (tU n es), some (I many), none] (c :: ρ) = some (I t, c1 :: ρ) ∧ Cup c1 ∧ t ≤ many ∧ (es = [] → t = 0) := by
    cases es with
    | nil => exact ⟨0, c, ev_iteF ne rfl ev_int, C, Nat.zero_le _, fun _ => rfl⟩
    | cons p es =>
      obtain ⟨t, c1, et, ht, C1⟩ := roll_ok (k + 1) ρ C (many := many + 1) (by omega) (by omega)
      exact ⟨t, c1, ev_iteT ne rfl (ev_call (us := [.ob 0, I (many + 1)]) (ev_l2 (ev_var rfl) (ev_bin (ev_var rfl) ev_int rfl)) et), C1, by omega, fun z => by cases z⟩
  obtain ⟨t, c1, et, C1, ht, h0⟩ := turns
  obtain ⟨ys, μ', e, ⟨c', rfl, C'⟩, yl, yp⟩ := compL_ex (step := cstep (runF defs (k + 2)) (ρ.length + 1) (.slot 3) (.bl true) (.call 23 [(.var 0), (.idx (.var 1) (.int 1))]) [3] [some (.ob 0), some (tU n es), some (I many), none]) (Inv := fun μ => ∃ c, μ = c :: ρ ∧ Cup c) (P := fun _ y => ∃ p ∈ es, y = pU p) (xs := (List.range t).map I) (acc := []) (μ := c1 :: ρ) ⟨c1, rfl, C1⟩ (fun x hx μ h => by
    obtain ⟨c, rfl, C⟩ := h
    have hne : 1 ≤ es.length := by
      cases es with
      | nil => rw [h0 rfl] at hx; simp at hx
      | cons => simp
    obtain ⟨w, c', ew, hw, C'⟩ := some_ok k ρ C (u := .tup (es.map pU)) (xs := es.map pU) (.inr rfl) (fun _ => trivial) (by simpa using hne) (by have := T.len; simp; omega) fun x hx c' => by
      obtain ⟨p, _, rfl⟩ := List.mem_map.mp hx
      exact frz_pl (pl_pU (B := 2) (d := 0) p (by omega)) _ _ (by decide)
    obtain ⟨p, hp, rfl⟩ := List.mem_map.mp hw
    exact ⟨pU p, c' :: ρ, cs_yes rfl (ev_call (us := [.ob 0, .tup (es.map pU)]) (ev_l2 (ev_var rfl) (ev_idxT (ev_var rfl) ev_int (atI_of (j := 1) rfl))) ew), ⟨c', rfl, C'⟩, p, hp, rfl⟩) (by simp; unfold SZ; omega)
  obtain ⟨row, rfl, hr⟩ := all_pairs fun y hy => by
    obtain ⟨_, _, p, hp, e⟩ := yp y hy
    exact ⟨p, hp, e⟩
  simp only [List.length_map, List.length_range] at yl
  refine ⟨c', row, ?_, C', ⟨hr, by omega⟩, by omega⟩
  rw [run__law_row]
  refine (if_pos rfl).trans (run_rt (μ1 := c' :: ρ) (u := rU row) ?_ (fin_cut (frz_pl (pl_row (B := 200) (d := 0) (by omega) (by omega)) _ _ (by decide)) (by simp)))
  have cc : evalE (runF defs (k + 2)) (ρ.length + 1) c__law_row_0 [some (.ob 0), some (tU n es), some (I many), none] (c :: ρ) = some (.lst (row.map pU), c' :: ρ) := (ev_comp (us := [I t]) (μ1 := c1 :: ρ) (xs := (List.range t).map I) (ev_l1 et) (walk_rng (by omega)) e).trans rfl
  exact ex_ret (ev_col (ev_l1 cc) rfl rfl)
end K05

set_option Elab.async false
set_option linter.all false
set_option maxRecDepth 100000
set_option maxHeartbeats 4000000
namespace K05
open PySem L2 R
theorem cut_last (xs : List U) : cutU xs (some (-1)) none = xs.drop (xs.length - 1) := by
  unfold cutU
  have e : HT.sIx xs.length 0 (some (-1)) = xs.length - 1 := by
    show (if (-1 : Int) < 0 then ((-1 : Int) + (xs.length : Int)).toNat else min (-1 : Int).toNat xs.length) = _
    rw [if_pos (by decide)]
    omega
  rw [e, HT.sIx_none, List.take_of_length_le (by simp)]
theorem cut_but (xs : List U) : cutU xs none (some (-1)) = xs.take (xs.length - 1) := by
  unfold cutU
  have e : HT.sIx xs.length xs.length (some (-1)) = xs.length - 1 := by
    show (if (-1 : Int) < 0 then ((-1 : Int) + (xs.length : Int)).toNat else min (-1 : Int).toNat xs.length) = _
    rw [if_pos (by decide)]
    omega
  rw [e, HT.sIx_none]
  simp
section
variable {cal : Nat → List U → Mu → Option (U × Mu)} {n0 : Nat} {σ : R.Env} {μ μ1 : Mu} {a : E} {row r1 r2 : List (Nat × Nat)}
theorem er_rev (h : evalE cal n0 a σ μ = some (rU row, μ1)) : evalE cal n0 (.rev false a) σ μ = some (rU row.reverse, μ1) := by
  have e : rU row.reverse = .tup (row.map pU).reverse := by rw [rU, List.map_reverse]
  rw [e]
  exact ev_revT h
theorem er_add {b : E} {μ2 : Mu} (h : evalE cal n0 a σ μ = some (rU r1, μ1)) (h2 : evalE cal n0 b σ μ1 = some (rU r2, μ2)) (hz : r1.length + r2.length ≤ 1000) : evalE cal n0 (.bin false .add a b) σ μ = some (rU (r1 ++ r2), μ2) := by
  rw [rU, List.map_append]
  exact ev_addT h h2 (by simp; unfold SZ; omega)
theorem er_but (h : evalE cal n0 a σ μ = some (rU row, μ1)) : evalE cal n0 (.slc false a .non (.neg (.int 1))) σ μ = some (rU (row.take (row.length - 1)), μ1) := by
  have := ev_slcT h ev_non (ev_neg ev_int) (l' := none) (h' := some (-1)) rfl rfl
  rw [cut_but, List.length_map, ← List.map_take] at this
  exact this
theorem er_last (h : evalE cal n0 a σ μ = some (rU row, μ1)) : evalE cal n0 (.slc false a (.neg (.int 1)) .non) σ μ = some (rU (row.drop (row.length - 1)), μ1) := by
  have := ev_slcT h (ev_neg ev_int) ev_non (l' := some (-1)) (h' := none) rfl rfl
  rw [cut_last, List.length_map, ← List.map_drop] at this
  exact this
theorem er_to {e : E} {j : Nat} (h : evalE cal n0 a σ μ = some (rU row, μ1)) (he : evalE cal n0 e σ μ1 = some (I j, μ1)) : evalE cal n0 (.slc false a .non e) σ μ = some (rU (row.take j), μ1) := by
  have := ev_slcT h ev_non he (l' := none) (h' := some (j : Int)) rfl rfl
  rw [cutU_to, ← List.map_take] at this
  exact this
theorem er_mul {e : E} {j : Nat} (h : evalE cal n0 a σ μ = some (rU row, μ1)) (he : evalE cal n0 e σ μ1 = some (I j, μ1)) (hj : j ≤ 200) (hl : row.length ≤ 20) : evalE cal n0 (.bin false .mul a e) σ μ = some (rU (List.replicate j row).flatten, μ1) := by
  refine ev_bin h he ?_
  have : row.length * j ≤ 20 * 200 := Nat.mul_le_mul hl hj
  simp only [evBin, rU]
  rw [if_pos ⟨by omega, by omega, by simp; unfold SZ; omega⟩]
  simp [List.map_flatten]
end
end K05

set_option Elab.async false
set_option linter.all false
set_option maxRecDepth 100000
set_option maxHeartbeats 4000000
/-! who hears first, and through which calls; nothing of the program here -/
namespace K05
abbrev Row' := List (Nat × Nat)
theorem kn_mono {row : Row'} {p : Nat × Nat} {h s : Nat} (z : kn row h s = true) : kn (row ++ [p]) h s = true := by
  rw [kn_snoc]
  unfold stp
  split
  · rename_i c
    rw [Bool.or_eq_true]
    rcases c with rfl | rfl
    · exact .inl z
    · exact .inr z
  · exact z
theorem kn_meet {row : Row'} {p : Nat × Nat} {s : Nat} (z : kn row p.1 s = true ∨ kn row p.2 s = true) : kn (row ++ [p]) p.1 s = true ∧ kn (row ++ [p]) p.2 s = true := by
  rw [kn_snoc]
  unfold stp
  rw [if_pos (.inl rfl), if_pos (.inr rfl), Bool.or_eq_true]
  exact ⟨z, z⟩
theorem kn_new {row : Row'} {p : Nat × Nat} {h s : Nat} (z : kn (row ++ [p]) h s = true) (n : ¬ kn row h s = true) : (h = p.1 ∧ kn row p.2 s = true) ∨ (h = p.2 ∧ kn row p.1 s = true) := by
  rw [kn_snoc] at z
  unfold stp at z
  split at z
  · rename_i c
    rw [Bool.or_eq_true] at z
    rcases c with rfl | rfl
    · rcases z with z | z
      · exact absurd z n
      · exact .inl ⟨rfl, z⟩
    · rcases z with z | z
      · exact .inr ⟨rfl, z⟩
      · exact absurd z n
  · exact absurd z n
/-- the first time -/
def ft (row : Row') (s h : Nat) : Option Nat := (List.range (row.length + 1)).find? fun i => kn (row.take i) h s
theorem ft_snoc (row : Row') (p : Nat × Nat) (s h : Nat) : ft (row ++ [p]) s h = match ft row s h with
    | some t => some t
    | none => if kn (row ++ [p]) h s then some (row.length + 1) else none := by
  unfold ft
  rw [List.length_append, List.length_singleton, List.range_succ, List.find?_append]
  have e : (List.range (row.length + 1)).find? (fun i => kn ((row ++ [p]).take i) h s) = (List.range (row.length + 1)).find? fun i => kn (row.take i) h s := by
    rw [← List.head?_filter, ← List.head?_filter]
    congr 1
    refine List.filter_congr fun i hi => ?_
    have : i < row.length + 1 := by simpa using hi
    rw [List.take_append_of_le_length (by omega)]
  rw [e]
  cases (List.range (row.length + 1)).find? fun i => kn (row.take i) h s with
  | some t => rfl
  | none =>
    simp only [Option.none_or, List.find?_cons, List.find?_nil]
    rw [List.take_of_length_le (by simp)]
    cases kn (row ++ [p]) h s <;> rfl
theorem ft_none {row : Row'} {s h : Nat} : ft row s h = none ↔ kn row h s = false := by
  induction row using snoc_ind with
  | h0 =>
    simp only [ft, List.length_nil, Nat.zero_add, List.range_one, List.find?_cons, List.find?_nil, List.take_nil]
    cases kn [] h s <;> simp
  | h1 row p ih =>
    rw [ft_snoc]
    cases e : ft row s h with
    | some t =>
      simp only [reduceCtorEq, false_iff]
      have : kn row h s = true := by
        cases z : kn row h s with
        | true => rfl
        | false => rw [ih.mpr z] at e; cases e
      rw [kn_mono this]
      simp
    | none =>
      simp only
      cases kn (row ++ [p]) h s <;> simp
theorem ft_some {row : Row'} {s h t : Nat} (e : ft row s h = some t) : t ≤ row.length ∧ kn (row.take t) h s = true := by
  have h1 := List.find?_some e
  have h2 := List.mem_of_find?_eq_some e
  simp at h2
  exact ⟨by omega, h1⟩
theorem ft_le {row : Row'} {s h i : Nat} (hi : i ≤ row.length) (z : kn (row.take i) h s = true) : ∃ t, ft row s h = some t ∧ t ≤ i := by
  cases e : ft row s h with
  | none =>
    have := List.find?_eq_none.mp e i (by simp; omega)
    exact absurd z this
  | some t =>
    refine ⟨t, rfl, ?_⟩
    by_cases h2 : i < t
    · obtain ⟨_, as, bs, e1, e2⟩ := List.find?_eq_some_iff_append.mp e
      have hm : i ∈ as := by
        have e3 := congrArg (fun l : List Nat => l[i]?) e1
        have ht : t = as.length := by
          have e4 := congrArg (fun l : List Nat => l[as.length]?) e1
          simp only [List.getElem?_append_right (Nat.le_refl _), Nat.sub_self, List.getElem?_cons_zero] at e4
          have := List.getElem?_eq_some_iff.mp e4
          obtain ⟨h3, h4⟩ := this
          simp at h4
          omega
        rw [List.getElem?_append_left (by omega), List.getElem?_range (by omega)] at e3
        exact List.mem_of_getElem? e3.symm
      have := e2 i hm
      rw [z] at this
      simp at this
    · omega
/-! ### the table of who came in -/
abbrev Ent := Nat × (Nat × Option (Nat × Nat))
def adE (D : List Ent) (i h a : Nat) : List Ent := if h ∉ D.map (·.1) ∧ a ∈ D.map (·.1) then D ++ [(h, i + 1, some (i, a))] else D
def cstp (D : List Ent) (i : Nat) (p : Nat × Nat) : List Ent := adE (adE D i p.1 p.2) i p.2 p.1
def cinI (row : Row') (s : Nat) : Nat → List Ent
  | 0 => [(s, 0, none)]
  | i + 1 => cstp (cinI row s i) i (row[i]?.getD (0, 0))
def Good (row : Row') (s i : Nat) (D : List Ent) : Prop :=
  (D.map (·.1)).Nodup ∧ (∀ h, h ∈ D.map (·.1) ↔ kn (row.take i) h s = true) ∧ (s, 0, none) ∈ D ∧ D.length ≤ i + 1 ∧
  (∀ h t, (h, t, none) ∈ D → h = s ∧ t = 0) ∧
  (∀ h t j a, (h, t, some (j, a)) ∈ D → t = j + 1 ∧ j < i ∧ h ≠ s ∧ ((row[j]? = some (h, a)) ∨ (row[j]? = some (a, h))) ∧ ∃ t' o, (a, t', o) ∈ D ∧ t' ≤ j) ∧
  ∀ h t o, (h, t, o) ∈ D → ft (row.take i) s h = some t
theorem good_0 (row : Row') (s : Nat) : Good row s 0 (cinI row s 0) := by
  have k : ∀ h, kn [] h s = true ↔ h = s := fun h => k0_iff
  refine ⟨by simp [cinI], fun h => ?_, by simp [cinI], by simp [cinI], fun h t z => ?_, fun h t j a z => ?_, fun h t o z => ?_⟩
  · rw [List.take_zero, k]; simp [cinI]
  · simp [cinI] at z; exact z
  · simp [cinI] at z
  · simp [cinI] at z
    obtain ⟨rfl, rfl, rfl⟩ := z
    rw [List.take_zero]
    simp only [ft, List.length_nil, Nat.zero_add, List.range_one, List.find?_cons, List.find?_nil, List.take_nil]
    rw [show kn [] h h = true from k0_iff.mpr rfl]
/-- one call -/
theorem good_next {row : Row'} {s i : Nat} {D : List Ent} {p : Nat × Nat} (hp : row[i]? = some p) (hlt : p.1 ≠ p.2) (G : Good row s i D) : Good row s (i + 1) (cstp D i p) := by
  obtain ⟨g1, g2, g3, g4, g5, g6, g7⟩ := G
  have hi : i < row.length := (List.getElem?_eq_some_iff.mp hp).1
  have tk : row.take (i + 1) = row.take i ++ [p] := by rw [List.take_add_one, hp]; rfl
  have old : ∀ h t o, (h, t, o) ∈ D → ft (row.take (i + 1)) s h = some t := fun h t o z => by rw [tk, ft_snoc, g7 h t o z]
  -- either no one comes in or one does
  by_cases c1 : p.1 ∉ D.map (·.1) ∧ p.2 ∈ D.map (·.1)
  · have e : cstp D i p = D ++ [(p.1, i + 1, some (i, p.2))] := by
      unfold cstp adE
      rw [if_pos c1, if_neg]
      rintro ⟨z, _⟩
      exact z (by simp [c1.2])
    rw [e]
    have k1 : ¬ kn (row.take i) p.1 s = true := fun z => c1.1 ((g2 _).mpr z)
    have k2 := (g2 _).mp c1.2
    obtain ⟨m1, m2⟩ := kn_meet (row := row.take i) (p := p) (.inr k2)
    refine ⟨?_, fun h => ?_, by simp [g3], by simp; omega, fun h t z => ?_, fun h t j a z => ?_, fun h t o z => ?_⟩
    · rw [List.map_append, List.nodup_append]
      exact ⟨g1, by simp, fun a ha b hb z => by simp at hb; subst hb; exact c1.1 (z ▸ ha)⟩
    · rw [List.map_append, List.mem_append, g2, tk]
      constructor
      · rintro (z | z)
        · exact kn_mono z
        · simp at z; subst z; exact m1
      · intro z
        by_cases o : kn (row.take i) h s = true
        · exact .inl o
        · rcases kn_new z o with ⟨z, _⟩ | ⟨z, w⟩
          · exact .inr (by simp [z])
          · exact absurd w k1
    · rcases List.mem_append.mp z with z | z
      · exact g5 h t z
      · simp at z
    · rcases List.mem_append.mp z with z | z
      · obtain ⟨a1, a2, a3, a4, t', o, a5, a6⟩ := g6 h t j a z
        exact ⟨a1, by omega, a3, a4, t', o, by simp [a5], a6⟩
      · simp only [List.mem_singleton, Prod.mk.injEq, Option.some.injEq] at z
        obtain ⟨rfl, rfl, rfl, rfl⟩ := z
        obtain ⟨x, hx, ex⟩ := List.mem_map.mp c1.2
        obtain ⟨x1, x2, x3⟩ := x
        simp only at ex
        subst ex
        refine ⟨rfl, by omega, fun z => c1.1 (by rw [z]; exact List.mem_map.mpr ⟨_, g3, rfl⟩), .inl hp, x2, x3, by simp [hx], ?_⟩
        have := (ft_some (g7 _ _ _ hx)).1
        simp at this
        omega
    · rcases List.mem_append.mp z with z | z
      · exact old h t o z
      · simp only [List.mem_singleton, Prod.mk.injEq] at z
        obtain ⟨rfl, rfl, rfl⟩ := z
        have fn : ft (row.take i) s p.1 = none := ft_none.mpr (by simpa using k1)
        rw [tk, ft_snoc, fn]
        simp only
        rw [if_pos m1]
        simp
        omega
  · by_cases c2 : p.2 ∉ D.map (·.1) ∧ p.1 ∈ D.map (·.1)
    · have e : cstp D i p = D ++ [(p.2, i + 1, some (i, p.1))] := by
        unfold cstp adE
        rw [if_neg c1, if_pos c2]
      rw [e]
      have k1 : ¬ kn (row.take i) p.2 s = true := fun z => c2.1 ((g2 _).mpr z)
      have k2 := (g2 _).mp c2.2
      obtain ⟨m1, m2⟩ := kn_meet (row := row.take i) (p := p) (.inl k2)
      refine ⟨?_, fun h => ?_, by simp [g3], by simp; omega, fun h t z => ?_, fun h t j a z => ?_, fun h t o z => ?_⟩
      · rw [List.map_append, List.nodup_append]
        exact ⟨g1, by simp, fun a ha b hb z => by simp at hb; subst hb; exact c2.1 (z ▸ ha)⟩
      · rw [List.map_append, List.mem_append, g2, tk]
        constructor
        · rintro (z | z)
          · exact kn_mono z
          · simp at z; subst z; exact m2
        · intro z
          by_cases o : kn (row.take i) h s = true
          · exact .inl o
          · rcases kn_new z o with ⟨z, w⟩ | ⟨z, _⟩
            · exact absurd w k1
            · exact .inr (by simp [z])
      · rcases List.mem_append.mp z with z | z
        · exact g5 h t z
        · simp at z
      · rcases List.mem_append.mp z with z | z
        · obtain ⟨a1, a2, a3, a4, t', o, a5, a6⟩ := g6 h t j a z
          exact ⟨a1, by omega, a3, a4, t', o, by simp [a5], a6⟩
        · simp only [List.mem_singleton, Prod.mk.injEq, Option.some.injEq] at z
          obtain ⟨rfl, rfl, rfl, rfl⟩ := z
          obtain ⟨x, hx, ex⟩ := List.mem_map.mp c2.2
          obtain ⟨x1, x2, x3⟩ := x
          simp only at ex
          subst ex
          refine ⟨rfl, by omega, fun z => c2.1 (by rw [z]; exact List.mem_map.mpr ⟨_, g3, rfl⟩), .inr hp, x2, x3, by simp [hx], ?_⟩
          have := (ft_some (g7 _ _ _ hx)).1
          simp at this
          omega
      · rcases List.mem_append.mp z with z | z
        · exact old h t o z
        · simp only [List.mem_singleton, Prod.mk.injEq] at z
          obtain ⟨rfl, rfl, rfl⟩ := z
          have fn : ft (row.take i) s p.2 = none := ft_none.mpr (by simpa using k1)
          rw [tk, ft_snoc, fn]
          simp only
          rw [if_pos m2]
          simp
          omega
    · have e : cstp D i p = D := by
        unfold cstp adE
        rw [if_neg c1, if_neg c2]
      rw [e]
      refine ⟨g1, fun h => ?_, g3, by omega, g5, fun h t j a z => ?_, old⟩
      · rw [g2, tk]
        constructor
        · exact kn_mono
        · intro z
          by_cases o : kn (row.take i) h s = true
          · exact o
          · exfalso
            rcases kn_new z o with ⟨rfl, w⟩ | ⟨rfl, w⟩
            · exact c1 ⟨fun q => o ((g2 _).mp q), (g2 _).mpr w⟩
            · exact c2 ⟨fun q => o ((g2 _).mp q), (g2 _).mpr w⟩
      · obtain ⟨a1, a2, a3, a4, t', o, a5, a6⟩ := g6 h t j a z
        exact ⟨a1, by omega, a3, a4, t', o, a5, a6⟩
theorem good_all {row : Row'} {s : Nat} (hlt : ∀ p ∈ row, p.1 ≠ p.2) : ∀ {i : Nat}, i ≤ row.length → Good row s i (cinI row s i)
  | 0, _ => good_0 row s
  | i + 1, h => by
    have hi : row[i]? = some row[i] := List.getElem?_eq_getElem (by omega)
    have := good_next (s := s) (D := cinI row s i) hi (hlt _ (List.getElem_mem (by omega))) (good_all hlt (i := i) (by omega))
    simp only [cinI, hi, Option.getD_some]
    exact this
/-! ### ways -/
def go (row : Row') : Nat → List Nat → Option Nat
  | s, [] => some s
  | s, i :: w => match row[i]? with
    | some p => if s = p.1 then go row p.2 w else if s = p.2 then go row p.1 w else none
    | none => none
theorem go_snoc (row : Row') (i : Nat) : ∀ (w : List Nat) (s : Nat), go row s (w ++ [i]) = (go row s w).bind fun a => go row a [i]
  | [], s => by simp [go]
  | j :: w, s => by
    simp only [List.cons_append, go]
    cases row[j]? with
    | none => rfl
    | some p =>
      simp only
      split
      · exact go_snoc row i w p.2
      · split
        · exact go_snoc row i w p.1
        · rfl
structure Way (row : Row') (s e : Nat) (w : List Nat) : Prop where
  asc : w.Pairwise (· < ·)
  lt : ∀ i ∈ w, i < row.length
  go : go row s w = some e
/-- the way back from h, the last call first -/
theorem way_of {row : Row'} {s n : Nat} {D : List Ent} (G : Good row s n D) : ∀ (t : Nat) {h : Nat} {o : Option (Nat × Nat)}, (h, t, o) ∈ D → ∃ w, Way row s h w ∧ (∀ i ∈ w, i < t) ∧ (∀ i, w.getLast? = some i → i + 1 = t) := by
  intro t
  induction t using Nat.strongRecOn with
  | _ t ih =>
    intro h o z
    obtain ⟨g1, g2, g3, g4, g5, g6, g7⟩ := G
    cases o with
    | none =>
      obtain ⟨rfl, rfl⟩ := g5 h t z
      exact ⟨[], ⟨List.Pairwise.nil, by simp, rfl⟩, by simp, by simp⟩
    | some q =>
      obtain ⟨j, a⟩ := q
      obtain ⟨rfl, h2, h3, h4, t', o', h5, h6⟩ := g6 h t j a z
      obtain ⟨w, W, w2, w3⟩ := ih t' (by omega) h5
      have hj : j < row.length := by rcases h4 with h4 | h4 <;> exact (List.getElem?_eq_some_iff.mp h4).1
      refine ⟨w ++ [j], ⟨?_, fun i hi => ?_, ?_⟩, fun i hi => ?_, fun i hi => by simp at hi; omega⟩
      · rw [List.pairwise_append]
        exact ⟨W.asc, by simp, fun x hx y hy => by simp at hy; subst hy; have := w2 x hx; omega⟩
      · rcases List.mem_append.mp hi with z | z
        · exact W.lt i z
        · simp at z; omega
      · rw [go_snoc, W.go]
        simp only [Option.bind_some, K05.go]
        rcases h4 with h4 | h4
        · rw [h4]
          simp only
          by_cases e : a = h
          · subst e; rw [if_pos rfl]
          · rw [if_neg e, if_pos True.intro]
        · rw [h4]
          simp
      · rcases List.mem_append.mp hi with z | z
        · have := w2 i z; omega
        · simp at z; omega
end K05

set_option Elab.async false
set_option linter.all false
set_option maxRecDepth 100000
set_option maxHeartbeats 4000000
namespace K05
open PySem L2 R
/-! ### came_in -/
def oN : Option Nat → U
  | none => .non
  | some i => I i
def vE (x : Nat × Option (Nat × Nat)) : U := .tup [I x.1, oN (x.2.map (·.1)), oN (x.2.map (·.2))]
abbrev dU (D : List Ent) : U := .dk (D.map fun x => kI x.1) (D.map fun x => vE x.2)
theorem kI_ne {a b : Nat} (h : a ≠ b) : kI a ≠ kI b := fun z => by injection z with z; exact h (by omega)
theorem lk_D (h : Nat) : ∀ D : List Ent, lk (D.map fun x => kI x.1) (D.map fun x => vE x.2) (kI h) = (D.find? fun x => x.1 == h).map fun x => vE x.2
  | [] => rfl
  | x :: D => by
    simp only [List.map_cons, lk, List.find?_cons]
    by_cases e : x.1 = h
    · rw [if_pos (by rw [e]), beq_iff_eq.mpr e]; rfl
    · rw [if_neg (kI_ne e), show (x.1 == h) = false by simpa using e]
      exact lk_D h D
theorem find_mem {D : List Ent} {h : Nat} : (D.find? fun x => x.1 == h).isSome = decide (h ∈ D.map (·.1)) := by
  rw [Bool.eq_iff_iff, List.find?_isSome, decide_eq_true_eq, List.mem_map]
  constructor
  · rintro ⟨x, hx, e⟩; exact ⟨x, hx, by simpa using e⟩
  · rintro ⟨x, hx, e⟩; exact ⟨x, hx, by simpa using e⟩
theorem in_D {μ : Mu} {u : U} {D : List Ent} (hc : cont μ u = some (dU D)) (h : Nat) : evIn μ (I h) u = some (decide (h ∈ D.map (·.1))) := by
  simp only [evIn, hc, dget, sky]
  rw [show (Sum.inl ((h : Nat) : Int) : Key) = kI h from rfl, lk_D, Option.isSome_map, find_mem]
theorem idx_D {μ : Mu} {u : U} {D : List Ent} (hc : cont μ u = some (dU D)) {x : Ent} {h : Nat} (hx : (D.find? fun x => x.1 == h) = some x) : evIdx μ u (I h) = some (vE x.2) := by
  simp only [evIdx, hc, dget, sky]
  rw [show (Sum.inl ((h : Nat) : Int) : Key) = kI h from rfl, lk_D, hx]
  rfl
theorem put_D {D : List Ent} {h : Nat} (hn : h ∉ D.map (·.1)) (x : Nat × Option (Nat × Nat)) : U.dk (ptk (D.map fun x => kI x.1) (kI h)) (pt (D.map fun x => kI x.1) (D.map fun x => vE x.2) (kI h) (vE x)) = dU (D ++ [(h, x)]) := by
  have : kI h ∉ D.map fun x => kI x.1 := fun z => by
    obtain ⟨y, hy, e⟩ := List.mem_map.mp z
    injection e with e
    exact hn (List.mem_map.mpr ⟨y, hy, by omega⟩)
  unfold ptk pt
  rw [if_neg this, if_neg this]
  simp
theorem adE_len (D : List Ent) (i h a : Nat) : (adE D i h a).length ≤ D.length + 1 := by
  unfold adE
  split
  · simp
  · omega
theorem add_step (k : Nat) (μ : Mu) {D : List Ent} (hl : D.length ≤ 1000) {row : Row'} {s i h a : Nat} (x4 x5 : Option U) :
    exL (runF defs k) μ.length lb_came_in_0 [some (rU row), some (I s), some (.ob μ.length), some (I i), x4, x5, some (I h), some (I a)] (μ ++ [dU D]) = some (.nx [some (rU row), some (I s), some (.ob μ.length), some (I i), x4, x5, some (I h), some (I a)] (μ ++ [dU (adE D i h a)])) := by
  unfold lb_came_in_0
  have m1 : (μ ++ [dU D])[μ.length]? = some (dU D) := by simp
  have c1 : cont (μ ++ [dU D]) (.ob μ.length) = some (dU D) := by simp only [cont, m1]
  have ni : evalE (runF defs k) μ.length (.cmp .notin (.var 6) (.var 2)) [some (rU row), some (I s), some (.ob μ.length), some (I i), x4, x5, some (I h), some (I a)] (μ ++ [dU D]) = some (.bl (decide (h ∉ D.map (·.1))), μ ++ [dU D]) := by
    refine ev_cmp (u := I h) (v := .ob μ.length) (ev_var rfl) (ev_var rfl) ?_
    simp only [evCmp]
    rw [in_D c1]
    simp [neg?]
  have ia : evalE (runF defs k) μ.length (.cmp .isin (.var 7) (.var 2)) [some (rU row), some (I s), some (.ob μ.length), some (I i), x4, x5, some (I h), some (I a)] (μ ++ [dU D]) = some (.bl (decide (a ∈ D.map (·.1))), μ ++ [dU D]) := by
    refine ev_cmp (u := I a) (v := .ob μ.length) (ev_var rfl) (ev_var rfl) ?_
    simp only [evCmp]
    rw [in_D c1]
  unfold adE
  by_cases h1 : h ∉ D.map (·.1)
  · rw [decide_eq_true h1] at ni
    by_cases h2 : a ∈ D.map (·.1)
    · rw [decide_eq_true h2] at ia
      rw [if_pos ⟨h1, h2⟩]
      refine (ex_seq ((ex_ifT (ev_andT ni (ev_b1 ia)) rfl).trans ((ex_seq (ex_subK (i := μ.length) (u := vE (i + 1, some (i, a))) (q := kI h) (v := I h) (ev_tup (us := [I (i + 1), I i, I a]) (ev_lcons (ev_bin (ev_var rfl) ev_int rfl) (ev_l2 (ev_var rfl) (ev_var rfl))) (show 3 ≤ SZ by decide)) (ev_var rfl) (ev_var rfl) rfl m1 (by rw [List.length_map]; unfold SZ; omega) (Nat.le_refl _))).trans ?_))).trans ex_nil
      rw [put_D h1, set_last]
      exact ex_nil
    · rw [decide_eq_false h2] at ia
      rw [if_neg (fun z => h2 z.2)]
      exact (ex_seq ((ex_ifF (ev_andT ni (ev_b1 ia)) rfl).trans ex_nil)).trans ex_nil
  · rw [decide_eq_false h1] at ni
    rw [if_neg (fun z => h1 z.1)]
    exact (ex_seq ((ex_ifF (ev_andF ni) rfl).trans ex_nil)).trans ex_nil
theorem enum_at {α : Type} {f : α → U} {l : List α} {i : Nat} {x : U} (hx : (enum (l.map f))[i]? = some x) : ∃ a, l[i]? = some a ∧ a ∈ l ∧ x = .tup [I i, f a] := by
  rw [enum_map] at hx
  obtain ⟨q, h1, h2, rfl⟩ := map_at hx
  rw [List.getElem?_zip_eq_some] at h1
  obtain ⟨h3, h4⟩ := h1
  have := List.getElem?_eq_some_iff.mp h3
  obtain ⟨h5, h6⟩ := this
  simp at h6
  exact ⟨q.2, h4, List.mem_of_getElem? h4, by rw [h6]⟩
theorem enum_len {l : List U} : (enum l).length = l.length := by simp [enum]
theorem cin_len (row : Row') (s : Nat) : ∀ i, (cinI row s i).length ≤ 2 * i + 1
  | 0 => by simp [cinI]
  | i + 1 => by
    have h1 := cin_len row s i
    have h2 := adE_len (cinI row s i) i (row[i]?.getD (0, 0)).1 (row[i]?.getD (0, 0)).2
    have h3 := adE_len (adE (cinI row s i) i (row[i]?.getD (0, 0)).1 (row[i]?.getD (0, 0)).2) i (row[i]?.getD (0, 0)).2 (row[i]?.getD (0, 0)).1
    simp only [cinI, cstp]
    omega
theorem vE_pl {B d : Nat} (hB : 3 ≤ B) (x : Nat × Option (Nat × Nat)) : Pl B (d + 1) (vE x) := .tup (by simpa using hB) fun u hu => by
  obtain ⟨t, o⟩ := x
  cases o <;> simp [oN] at hu <;> rcases hu with rfl | rfl | rfl <;> first | exact .int _ _ | exact .non _
theorem came_in_ok (k : Nat) (μ : Mu) {row : Row'} (hl : row.length ≤ 200) (s : Nat) : runF defs (k + 1) 15 [rU row, I s] μ = some (dU (cinI row s row.length), μ) := by
  rw [run_came_in]
  obtain ⟨σ', μ', e, y3, y4, y5, y6, y7, rfl, rfl⟩ := forL_inv0 (step := fstep (runF defs k) μ.length (.tup [(.slot 3), (.tup [(.slot 4), (.slot 5)])]) lb_came_in_2) (xs := enum (row.map pU))
    (fun i σ μ' => ∃ y3 y4 y5 y6 y7 : Option U, σ = [some (rU row), some (I s), some (.ob μ.length), y3, y4, y5, y6, y7] ∧ μ' = μ ++ [dU (cinI row s i)]) (σ := [some (rU row), some (I s), some (.ob μ.length), none, none, none, none, none]) (μ := μ ++ [dU (cinI row s 0)])
    ⟨none, none, none, none, none, rfl, rfl⟩ (fun i x σ μ' hx hp => by
      obtain ⟨y3, y4, y5, y6, y7, rfl, rfl⟩ := hp
      obtain ⟨p, hp, hm, rfl⟩ := enum_at hx
      have hi : i < row.length := (List.getElem?_eq_some_iff.mp hp).1
      have cl := cin_len row s i
      have ce : cinI row s (i + 1) = adE (adE (cinI row s i) i p.1 p.2) i p.2 p.1 := by simp only [cinI, cstp, hp, Option.getD_some]
      have l1 := adE_len (cinI row s i) i p.1 p.2
      have s1 := add_step k μ (D := cinI row s i) (by omega) (row := row) (s := s) (i := i) (h := p.1) (a := p.2) (some (I p.1)) (some (I p.2))
      have s2 := add_step k μ (D := adE (cinI row s i) i p.1 p.2) (by omega) (row := row) (s := s) (i := i) (h := p.2) (a := p.1) (some (I p.1)) (some (I p.2))
      refine ⟨[some (rU row), some (I s), some (.ob μ.length), some (I i), some (I p.1), some (I p.2), some (I p.2), some (I p.1)], μ ++ [dU (cinI row s (i + 1))], .inl ?_, _, _, _, _, _, rfl, rfl⟩
      show exL (runF defs k) μ.length lb_came_in_2 [some (rU row), some (I s), some (.ob μ.length), some (I i), some (I p.1), some (I p.2), y6, y7] (μ ++ [dU (cinI row s i)]) = _
      unfold lb_came_in_2
      have f : exS (runF defs k) μ.length l_came_in_0 [some (rU row), some (I s), some (.ob μ.length), some (I i), some (I p.1), some (I p.2), y6, y7] (μ ++ [dU (cinI row s i)]) = forL (fstep (runF defs k) μ.length (.tup [(.slot 6), (.slot 7)]) lb_came_in_0) [.tup [I p.1, I p.2], .tup [I p.2, I p.1]] [some (rU row), some (I s), some (.ob μ.length), some (I i), some (I p.1), some (I p.2), y6, y7] (μ ++ [dU (cinI row s i)]) :=
        ex_for (us := [.tup [.tup [I p.1, I p.2], .tup [I p.2, I p.1]]]) (ev_l1 (ev_tup (ev_l2 (ev_tup (ev_l2 (ev_var rfl) (ev_var rfl)) (show 2 ≤ SZ by decide)) (ev_tup (ev_l2 (ev_var rfl) (ev_var rfl)) (show 2 ≤ SZ by decide))) (show 2 ≤ SZ by decide))) rfl
      have t1 : fstep (runF defs k) μ.length (.tup [(.slot 6), (.slot 7)]) lb_came_in_0 (.tup [I p.1, I p.2]) [some (rU row), some (I s), some (.ob μ.length), some (I i), some (I p.1), some (I p.2), y6, y7] (μ ++ [dU (cinI row s i)]) = _ := s1
      have t2 : fstep (runF defs k) μ.length (.tup [(.slot 6), (.slot 7)]) lb_came_in_0 (.tup [I p.2, I p.1]) [some (rU row), some (I s), some (.ob μ.length), some (I i), some (I p.1), some (I p.2), some (I p.1), some (I p.2)] (μ ++ [dU (adE (cinI row s i) i p.1 p.2)]) = _ := s2
      have g : exS (runF defs k) μ.length l_came_in_0 [some (rU row), some (I s), some (.ob μ.length), some (I i), some (I p.1), some (I p.2), y6, y7] (μ ++ [dU (cinI row s i)]) = some (.nx [some (rU row), some (I s), some (.ob μ.length), some (I i), some (I p.1), some (I p.2), some (I p.2), some (I p.1)] (μ ++ [dU (cinI row s (i + 1))])) := by
        rw [f, ce]
        simp only [forL, t1, t2]
      exact (ex_seq g).trans ex_nil)
  rw [enum_len, List.length_map] at e
  have b : exL (runF defs k) μ.length b_came_in [some (rU row), some (I s), none, none, none, none, none, none] μ = some (.rt (.ob μ.length) (μ ++ [dU (cinI row s row.length)])) := by
    unfold b_came_in
    refine (ex_seq (ex_set (u := .ob μ.length) (μ' := μ ++ [dU (cinI row s 0)]) ?_)).trans ?_
    · simp only [evalE, evalL]
      rfl
    · refine (ex_seq (((show exS _ _ l_came_in_2 _ _ = _ from ex_for (us := [rU row]) (xs := enum (row.map pU)) (ev_l1 (ev_var rfl)) rfl)).trans e)).trans ?_
      exact ex_ret (ev_var rfl)
  have cl := cin_len row s row.length
  have fz : frz μ.length (μ ++ [dU (cinI row s row.length)]) D0 (.ob μ.length) = some (dU (cinI row s row.length)) := by
    rw [show D0 = 11 + 1 from rfl]
    have m1 : (μ ++ [dU (cinI row s row.length)])[μ.length]? = some (dU (cinI row s row.length)) := by simp
    simp only [frz]
    rw [if_neg (Nat.lt_irrefl _), m1]
    simp only
    rw [mapO_map (h := fun x : Ent => vE x.2) fun x _ => frz_pl (vE_pl (B := 3) (d := 0) (by omega) x.2) _ _ (by omega)]
  exact (if_pos rfl).trans (run_rt b (fin_cut fz (by simp)))
end K05

set_option Elab.async false
set_option linter.all false
set_option maxRecDepth 100000
set_option maxHeartbeats 4000000
namespace K05
open PySem L2 R
theorem in_lU (μ : Mu) (i : Nat) (l : List Nat) : evIn μ (I i) (lU l) = some (decide (i ∈ l)) := by
  have m : dat μ D0 (lU l) = some (.tuple (l.map fun x : Nat => PyData.int x)) := by
    rw [show D0 = 11 + 1 from rfl]
    simp only [dat]
    rw [mapO_map (f := dat μ 11) (h := fun x : Nat => PyData.int x) fun x _ => rfl]
  simp only [evIn, cont, m, dat_int]
  congr 1
  rw [Bool.eq_iff_iff, List.any_map, List.any_eq_true, decide_eq_true_eq]
  constructor
  · rintro ⟨x, hx, e⟩
    simp only [Function.comp, PyData.eqv, beq_iff_eq] at e
    have : x = i := by omega
    exact this ▸ hx
  · exact fun h => ⟨i, h, by simp [PyData.eqv]⟩
theorem Row.ne {n : Nat} {es row : Row'} (T : Town n es) (r : Row n es row) : ∀ p ∈ row, p.1 ≠ p.2 := fun p hp => by
  have := T.lt p (r.mem p hp)
  omega
theorem good_row {n : Nat} {es row : Row'} (T : Town n es) (r : Row n es row) (s : Nat) : Good row s row.length (cinI row s row.length) := good_all (r.ne T) (Nat.le_refl _)
theorem D_at {row : Row'} {s : Nat} {D : List Ent} (G : Good row s row.length D) (h : Nat) : (∃ t o, (D.find? fun x => x.1 == h) = some (h, t, o) ∧ (h, t, o) ∈ D ∧ ft row s h = some t) ∨ (h ∉ D.map (·.1) ∧ ft row s h = none) := by
  obtain ⟨g1, g2, g3, g4, g5, g6, g7⟩ := G
  rw [List.take_length] at g2 g7
  cases e : D.find? fun x => x.1 == h with
  | some x =>
    obtain ⟨a, t, o⟩ := x
    have h1 := List.find?_some e
    have h2 := List.mem_of_find?_eq_some e
    simp at h1
    subst h1
    exact .inl ⟨t, o, rfl, h2, g7 _ _ _ h2⟩
  | none =>
    have h1 : h ∉ D.map (·.1) := fun z => by
      have := find_mem (D := D) (h := h)
      rw [e, decide_eq_true z] at this
      cases this
    refine .inr ⟨h1, ft_none.mpr ?_⟩
    cases z : kn row h s with
    | false => rfl
    | true => exact absurd ((g2 h).mpr z) h1
section
variable {n : Nat} {es row : Row'} (k : Nat) (μ : Mu) {s e : Nat}
theorem need_house_ok (hs : s < n) : runF defs (k + 2) 7 [I n, I s] μ = some (.non, μ) := by
  rw [run_need_house]
  have w := whole_pl k (Pl.int (B := 0) 0 (s : Int)) 0 ((n : Int) - 1) μ
  rw [show isW 0 ((n : Int) - 1) (I s) = true by simp [isW]; omega] at w
  refine (if_pos rfl).trans (run_nx (μ1 := μ) (σ := [some (I n), some (I s)]) ?_ (fin_cut rfl (by simp)))
  exact (ex_seq ((ex_ifF (u := .bl false) (μ1 := μ) (ev_not (d := true) (ev_call (ev_lcons (ev_var rfl) (ev_l2 ev_int (ev_bin (ev_var rfl) ev_int rfl))) w) rfl) rfl).trans ex_nil)).trans ex_nil
theorem need_all_ok (T : Town n es) (r : Row n es row) (hs : s < n) (he : e < n) : runF defs (k + 7) 14 [tU n es, rU row, I s, I e] μ = some (.non, μ) := by
  rw [run_need_all]
  refine (if_pos rfl).trans (run_nx (μ1 := μ) (σ := [some (tU n es), some (rU row), some (I s), some (I e)]) ?_ (fin_cut rfl (by simp)))
  have i0 : evalE (runF defs (k + 6)) μ.length (.idx (.var 0) (.int 0)) [some (tU n es), some (rU row), some (I s), some (I e)] μ = some (I n, μ) := ev_idxT (ev_var rfl) ev_int (atI_of (j := 0) rfl)
  refine (ex_seq (ex_ex (ev_call (ev_l2 (ev_var rfl) (ev_var rfl)) (need_both_ok k T r μ)))).trans ?_
  refine (ex_seq (ex_ex (ev_call (ev_l2 i0 (ev_var rfl)) (need_house_ok (k + 4) μ hs)))).trans ?_
  exact (ex_seq (ex_ex (ev_call (ev_l2 i0 (ev_var rfl)) (need_house_ok (k + 4) μ he)))).trans ex_nil
theorem first_known_ok (T : Town n es) (r : Row n es row) (hs : s < n) (he : e < n) : runF defs (k + 8) 16 [tU n es, rU row, I s, I e] μ = some (oU (ft row s e), μ) := by
  rw [run_first_known]
  refine (if_pos rfl).trans (run_rt (μ1 := μ) (u := oU (ft row s e)) ?_ (fin_cut (by cases ft row s e <;> rfl) (by simp)))
  refine (ex_seq (ex_ex (ev_call (ev_lcons (ev_var rfl) (ev_lcons (ev_var rfl) (ev_l2 (ev_var rfl) (ev_var rfl)))) (need_all_ok k μ T r hs he)))).trans ?_
  refine (ex_seq (ex_set (ev_call (ev_l2 (ev_var rfl) (ev_var rfl)) (came_in_ok (k + 6) μ r.len s)))).trans ?_
  have G := good_row T r s
  have ie : evalE (runF defs (k + 7)) μ.length (.cmp .isin (.var 3) (.var 4)) [some (tU n es), some (rU row), some (I s), some (I e), some (dU (cinI row s row.length))] μ = some (.bl (decide (e ∈ (cinI row s row.length).map (·.1))), μ) := by
    refine ev_cmp (u := I e) (ev_var rfl) (ev_var rfl) ?_
    simp only [evCmp]
    rw [in_D (D := cinI row s row.length) rfl]
  rcases D_at G e with ⟨t, o, h1, h2, h3⟩ | ⟨h1, h2⟩
  · rw [decide_eq_true (List.mem_map.mpr ⟨_, h2, rfl⟩)] at ie
    rw [h3]
    exact ex_ret (ev_iteT ie rfl (ev_idx (u := vE (t, o)) (ev_idx (u := dU (cinI row s row.length)) (v := I e) (ev_var rfl) (ev_var rfl) (idx_D rfl h1)) ev_int rfl))
  · rw [decide_eq_false h1] at ie
    rw [h2]
    exact ex_ret (ev_iteF ie rfl ev_non)
theorem news_bar_ok (T : Town n es) (r : Row n es row) (hs : s < n) (he : e < n) : runF defs (k + 8) 18 [tU n es, rU row, I s, I e] μ = some (if ft row s e = none then .tup ((List.range n).map fun h => oU (ft row s h)) else .non, μ) := by
  rw [run_news_bar]
  have hn := T.n12
  have G := good_row T r s
  have i0 : ∀ {σ : R.Env}, σ[0]? = some (some (tU n es)) → evalE (runF defs (k + 7)) μ.length (.idx (.var 0) (.int 0)) σ μ = some (I n, μ) := fun h => ev_idxT (ev_var h) ev_int (atI_of (j := 0) rfl)
  have isn : ∀ {σ : R.Env} {j h : Nat}, σ[j]? = some (some (I h)) → σ[4]? = some (some (dU (cinI row s row.length))) → evalE (runF defs (k + 7)) μ.length (.cmp .isin (.var j) (.var 4)) σ μ = some (.bl (decide (h ∈ (cinI row s row.length).map (·.1))), μ) := fun {σ j h} h1 h2 => by
    refine ev_cmp (u := I h) (ev_var h1) (ev_var h2) ?_
    simp only [evCmp]
    rw [in_D (D := cinI row s row.length) rfl]
  have pb : Pl 12 1 (.tup ((List.range n).map fun h => oU (ft row s h))) := .tup (by simp; omega) fun u hu => by
    obtain ⟨h, _, rfl⟩ := List.mem_map.mp hu
    cases ft row s h with
    | none => exact .non _
    | some t => exact .int _ _
  refine (if_pos rfl).trans (run_rt (μ1 := μ) (u := if ft row s e = none then .tup ((List.range n).map fun h => oU (ft row s h)) else .non) ?_ (fin_cut (by split; exact frz_pl pb _ _ (by decide); rfl) (by simp)))
  refine (ex_seq (ex_ex (ev_call (ev_lcons (ev_var rfl) (ev_lcons (ev_var rfl) (ev_l2 (ev_var rfl) (ev_var rfl)))) (need_all_ok k μ T r hs he)))).trans ?_
  refine (ex_seq (ex_set (ev_call (ev_l2 (ev_var rfl) (ev_var rfl)) (came_in_ok (k + 6) μ r.len s)))).trans ?_
  show exL (runF defs (k + 7)) μ.length _ [some (tU n es), some (rU row), some (I s), some (I e), some (dU (cinI row s row.length)), none] μ = _
  have ie := isn (σ := [some (tU n es), some (rU row), some (I s), some (I e), some (dU (cinI row s row.length)), none]) (j := 3) (h := e) rfl rfl
  rcases D_at G e with ⟨t, o, h1, h2, h3⟩ | ⟨h1, h2⟩
  · rw [decide_eq_true (List.mem_map.mpr ⟨_, h2, rfl⟩)] at ie
    rw [h3, if_neg (by simp)]
    exact ex_bad ie ev_non
  · rw [decide_eq_false h1] at ie
    rw [h2, if_pos rfl]
    refine (ex_seq ((ex_ifF ie rfl).trans ex_nil)).trans ?_
    have c : evalE (runF defs (k + 7)) μ.length c_news_bar_0 [some (tU n es), some (rU row), some (I s), some (I e), some (dU (cinI row s row.length)), none] μ = some (.lst ((List.range n).map fun h => oU (ft row s h)), μ) := by
      refine (ev_comp (us := [I n]) (μ1 := μ) (xs := (List.range n).map I) (ev_l1 (i0 rfl)) (walk_rng (by omega)) (compL_all (enc := I) (g := fun h => oU (ft row s h)) (fun h _ => cs_yes rfl ?_) (by simp; unfold SZ; omega))).trans rfl
      have ih := isn (σ := [some (tU n es), some (rU row), some (I s), some (I e), some (dU (cinI row s row.length)), some (I h)]) (j := 5) (h := h) rfl rfl
      rcases D_at G h with ⟨t, o, h1, h2, h3⟩ | ⟨h1, h2⟩
      · rw [decide_eq_true (List.mem_map.mpr ⟨_, h2, rfl⟩)] at ih
        rw [h3]
        exact ev_iteT ih rfl (ev_idx (u := vE (t, o)) (ev_idx (u := dU (cinI row s row.length)) (v := I h) (ev_var rfl) (ev_var rfl) (idx_D rfl h1)) ev_int rfl)
      · rw [decide_eq_false h1] at ih
        rw [h2]
        exact ev_iteF ih rfl ev_non
    exact ex_ret (ev_col (ev_l1 c) rfl rfl)
/-- the way from h on, and the calls ahead of it -/
structure Suf (row : Row') (e te h t : Nat) (acc : List Nat) : Prop where
  asc : acc.reverse.Pairwise (· < ·)
  lt : ∀ i ∈ acc, t ≤ i ∧ i < row.length
  go : go row h acc.reverse = some e
  hd : ∀ j, acc.head? = some j → j + 1 = te
  nil : acc = [] → h = e ∧ t = te
theorem news_way_ok (T : Town n es) (r : Row n es row) (hs : s < n) (he : e < n) : (ft row s e = none → runF defs (k + 8) 17 [tU n es, rU row, I s, I e] μ = some (.non, μ)) ∧
    ∀ te, ft row s e = some te → ∃ w, runF defs (k + 8) 17 [tU n es, rU row, I s, I e] μ = some (lU w, μ) ∧ Way row s e w ∧ ∀ j, w.getLast? = some j → j + 1 = te := by
  have G := good_row T r s
  have hl := r.len
  let D := cinI row s row.length
  have hD : cinI row s row.length = D := rfl
  have head : ∀ {ss : List S}, exL (runF defs (k + 7)) μ.length (.ex (.call 14 [(.var 0), (.var 1), (.var 2), (.var 3)]) :: .par [4, 5] [(.call 15 [(.var 1), (.var 2)]), (.lst true [])] :: ss) [some (tU n es), some (rU row), some (I s), some (I e), none, none] μ = exL (runF defs (k + 7)) μ.length ss [some (tU n es), some (rU row), some (I s), some (I e), some (dU D), some (.ob μ.length)] (μ ++ [.lst []]) := by
    intro ss
    refine (ex_seq (ex_ex (ev_call (ev_lcons (ev_var rfl) (ev_lcons (ev_var rfl) (ev_l2 (ev_var rfl) (ev_var rfl)))) (need_all_ok k μ T r hs he)))).trans ?_
    exact ex_seq (ex_par (us := [dU D, .ob μ.length]) (ev_l2 (ev_call (ev_l2 (ev_var rfl) (ev_var rfl)) (came_in_ok (k + 6) μ r.len s)) (ev_lstA ev_lnil (show 0 ≤ SZ by decide))) rfl)
  have ie : evalE (runF defs (k + 7)) μ.length (.cmp .notin (.var 3) (.var 4)) [some (tU n es), some (rU row), some (I s), some (I e), some (dU D), some (.ob μ.length)] (μ ++ [.lst []]) = some (.bl (!decide (e ∈ D.map (·.1))), μ ++ [.lst []]) := by
    refine ev_cmp (u := I e) (ev_var rfl) (ev_var rfl) ?_
    simp only [evCmp]
    rw [in_D (D := D) rfl]
    rfl
  constructor
  · intro hf
    rw [run_news_way]
    rcases D_at G e with ⟨t, o, h1, h2, h3⟩ | ⟨h1, h2⟩
    · rw [h3] at hf; cases hf
    · rw [hD] at h1
      rw [decide_eq_false h1] at ie
      refine (if_pos rfl).trans (run_rt (μ1 := μ ++ [.lst []]) (u := .non) ?_ (fin_cut rfl (by simp)))
      unfold b_news_way
      exact head.trans (ex_bad ie ev_non)
  · intro te hf
    rcases D_at G e with ⟨t, o, h1, h2, h3⟩ | ⟨h1, h2⟩
    · rw [h3] at hf
      cases hf
      rw [hD] at h1 h2 G
      rw [decide_eq_true (List.mem_map.mpr ⟨_, h2, rfl⟩)] at ie
      obtain ⟨g1, g2, g3, g4, g5, g6, g7⟩ := G
      rw [List.take_length] at g7
      have look : ∀ {h t : Nat} {o : Option (Nat × Nat)}, (h, t, o) ∈ D → (D.find? fun x => x.1 == h) = some (h, t, o) := fun {h t o} hm => by
        rcases D_at (row := row) (s := s) ⟨g1, g2, g3, g4, g5, g6, by rw [List.take_length]; exact g7⟩ h with ⟨t', o', q1, q2, q3⟩ | ⟨q1, _⟩
        · rw [q1]
          congr 1
          have nd : D.Pairwise fun a b => a.1 ≠ b.1 := by
            have := List.pairwise_map.mp g1
            exact this
          have uniq : ∀ {l : List Ent}, (l.Pairwise fun a b => a.1 ≠ b.1) → ∀ x ∈ l, ∀ y ∈ l, x.1 = y.1 → x = y := by
            intro l hl
            induction l with
            | nil => intro x hx; cases hx
            | cons a l ih =>
              obtain ⟨p1, p2⟩ := List.pairwise_cons.mp hl
              intro x hx y hy exy
              rcases List.mem_cons.mp hx with ex | hx2
              · rcases List.mem_cons.mp hy with ey | hy2
                · rw [ex, ey]
                · rw [ex] at exy
                  exact absurd exy (p1 y hy2)
              · rcases List.mem_cons.mp hy with ey | hy2
                · rw [ey] at exy
                  exact absurd exy.symm (p1 x hx2)
                · exact ih p2 x hx2 y hy2 exy
          exact uniq nd _ q2 _ hm rfl
        · exact absurd (List.mem_map.mpr ⟨_, hm, rfl⟩) q1
      obtain ⟨σ', μ', ew, h', acc, rfl, rfl, S', hs'⟩ := whL_inv (cond := wcond (runF defs (k + 7)) μ.length (.cmp .isnot (.idx (.idx (.var 4) (.var 3)) (.int 1)) .non)) (body := fun σ μ' => exL (runF defs (k + 7)) μ.length lb_news_way_0 σ μ')
        (fun m σ μ' => ∃ h o acc, (h, m, o) ∈ D ∧ σ = [some (tU n es), some (rU row), some (I s), some (I h), some (dU D), some (.ob μ.length)] ∧ μ' = μ ++ [.lst (acc.map I)] ∧ Suf row e te h m acc)
        (fun σ μ' => ∃ h acc, σ = [some (tU n es), some (rU row), some (I s), some (I h), some (dU D), some (.ob μ.length)] ∧ μ' = μ ++ [.lst (acc.map I)] ∧ Suf row e te h 0 acc ∧ h = s)
        (fun m σ μ' hp => by
          obtain ⟨h, o, acc, hm, rfl, rfl, S⟩ := hp
          have lk := look hm
          have ix : ∀ (c : Int) (w : U), L2.atI [I m, oN (o.map (·.1)), oN (o.map (·.2))] c = some w → evalE (runF defs (k + 7)) μ.length (.idx (.idx (.var 4) (.var 3)) (.int c)) [some (tU n es), some (rU row), some (I s), some (I h), some (dU D), some (.ob μ.length)] (μ ++ [.lst (acc.map I)]) = some (w, μ ++ [.lst (acc.map I)]) := fun c w hw =>
            ev_idx (u := vE (m, o)) (v := .int c) (ev_idx (u := dU D) (v := I h) (ev_var rfl) (ev_var rfl) (idx_D rfl lk)) ev_int hw
          cases o with
          | none =>
            obtain ⟨rfl, rfl⟩ := g5 _ _ hm
            refine .inl ⟨μ ++ [.lst (acc.map I)], ?_, h, acc, rfl, rfl, S, rfl⟩
            have c1 := ev_cmp (op := .isnot) (ix 1 .non rfl) ev_non (show evCmp (μ ++ [.lst (acc.map I)]) .isnot .non .non = some false from rfl)
            simp only [wcond]
            rw [c1]
            rfl
          | some q =>
            obtain ⟨j, a⟩ := q
            obtain ⟨rfl, hj, hne, hr, t', o', ha, ht'⟩ := g6 h m j a hm
            refine .inr ⟨μ ++ [.lst (acc.map I)], [some (tU n es), some (rU row), some (I s), some (I a), some (dU D), some (.ob μ.length)], μ ++ [.lst ((acc ++ [j]).map I)], ?_, .inl ?_, t', by omega, a, o', acc ++ [j], ha, rfl, rfl, ?_⟩
            · have c1 := ev_cmp (op := .isnot) (ix 1 (I j) rfl) ev_non (show evCmp (μ ++ [.lst (acc.map I)]) .isnot (I j) .non = some true from rfl)
              simp only [wcond]
              rw [c1]
              rfl
            · unfold lb_news_way_0
              have m1 : (μ ++ [.lst (acc.map I)])[μ.length]? = some (.lst (acc.map I)) := by simp
              have al : acc.length ≤ row.length := nodup_lt ((List.pairwise_reverse.mp S.asc).imp fun h => by omega) fun x hx => (S.lt x hx).2
              refine (ex_seq (ex_append (i := μ.length) (u := I j) (xs := acc.map I) (ev_var rfl) (ix 1 (I j) rfl) m1 (by rw [List.length_map]; unfold SZ; omega) (Nat.le_refl _))).trans ?_
              rw [set_last]
              rw [show (acc.map I ++ [I j]) = (acc ++ [j]).map I by simp]
              refine (ex_seq (ex_set (u := I a) ?_)).trans ex_nil
              exact ev_idx (u := vE (j + 1, some (j, a))) (v := .int 2) (ev_idx (u := dU D) (v := I h) (ev_var rfl) (ev_var rfl) (idx_D rfl lk)) ev_int rfl
            · refine ⟨?_, fun i hi => ?_, ?_, fun i hi => ?_, fun z => by simp at z⟩
              · rw [List.reverse_append, List.reverse_singleton, List.singleton_append, List.pairwise_cons]
                exact ⟨fun x hx => by have := (S.lt x (by simpa using hx)).1; omega, S.asc⟩
              · rcases List.mem_append.mp hi with z | z
                · have := S.lt i z; omega
                · simp at z; subst z; exact ⟨by omega, hj⟩
              · rw [List.reverse_append, List.reverse_singleton, List.singleton_append]
                simp only [K05.go]
                rcases hr with hr | hr
                · rw [hr]
                  simp only
                  by_cases eq : a = h
                  · subst eq; rw [if_pos rfl]; exact S.go
                  · rw [if_neg eq, if_pos True.intro]; exact S.go
                · rw [hr]
                  simp only [if_true]
                  exact S.go
              · cases acc with
                | nil =>
                  simp at hi
                  subst hi
                  exact (S.nil rfl).2
                | cons x acc => exact S.hd i (by simpa using hi)) (f := FU) (m := te) (σ := [some (tU n es), some (rU row), some (I s), some (I e), some (dU D), some (.ob μ.length)]) (μ := μ ++ [.lst []]) ⟨e, o, [], h2, rfl, rfl, ⟨List.Pairwise.nil, by simp, rfl, by simp, fun _ => ⟨rfl, rfl⟩⟩⟩ (by have := (ft_some h3).1; unfold FU; omega)
      subst hs'
      have al : acc.length ≤ row.length := nodup_lt ((List.pairwise_reverse.mp S'.asc).imp fun h => by omega) fun x hx => (S'.lt x hx).2
      refine ⟨acc.reverse, ?_, ⟨S'.asc, fun i hi => (S'.lt i (by simpa using hi)).2, S'.go⟩, fun j hj => S'.hd j (by rw [List.getLast?_reverse] at hj; exact hj)⟩
      rw [run_news_way]
      refine (if_pos rfl).trans (run_rt (μ1 := μ ++ [.lst (acc.map I)]) (u := lU acc.reverse) ?_ (fin_cut (frz_pl (pl_ints (B := 200) (d := 0) (by simp; omega)).1 _ _ (by decide)) (by simp)))
      unfold b_news_way
      refine head.trans ?_
      refine (ex_seq ((ex_ifF ie rfl).trans ex_nil)).trans ?_
      refine (ex_seq (((show exS _ _ l_news_way_0 _ _ = _ from ex_wh).trans ew))).trans ?_
      have m1 : (μ ++ [.lst (acc.map I)])[μ.length]? = some (.lst (acc.map I)) := by simp
      refine ex_ret (ev_col (us := [.lst (acc.reverse.map I)]) (xs := acc.reverse.map I) (ev_l1 (ev_rev (u := .ob μ.length) (ev_var rfl) ?_)) rfl rfl)
      rw [List.map_reverse]
      simp only [evRev, asL, m1]
      rfl
    · rw [h2] at hf; cases hf
theorem law_first_ok (T : Town n es) (r : Row n es row) (hs : s < n) (he : e < n) : runF defs (k + 2) 35 [I n, rU row, I s, I e] μ = some (oU (ft row s e), μ) := by
  rw [run__law_first]
  have hr := r.inN T
  have hn := T.n12
  have hl := r.len
  refine (if_pos rfl).trans (run_rt (μ1 := μ) (u := oU (ft row s e)) ?_ (fin_cut (by cases ft row s e <;> rfl) (by simp)))
  unfold b__law_first
  have c : evalE (runF defs (k + 1)) μ.length c__law_first_0 [some (I n), some (rU row), some (I s), some (I e), none, none] μ = some (bU ((List.range (row.length + 1)).filter fun i => kn (row.take i) e s), μ) := by
    refine (ev_comp (us := [I (row.length + 1)]) (μ1 := μ) (xs := (List.range (row.length + 1)).map I) (ev_l1 (ev_bin (u := I row.length) (ev_bi (ev_l1 (ev_var rfl)) (by simp [evBi, cont])) ev_int rfl)) (walk_rng (by omega)) (compL_filter (enc := I) (g := I) (p := fun i => kn (row.take i) e s) (xs := List.range (row.length + 1)) (fun i hi => ?_) (by simp; unfold SZ; omega))).trans rfl
    have e1 : evalE (runF defs (k + 1)) μ.length (.cmp .isin (.var 2) (.idx (.call 31 [(.var 0), (.slc false (.var 1) .non (.var 5))]) (.var 3))) [some (I n), some (rU row), some (I s), some (I e), none, some (I i)] μ = some (.bl (kn (row.take i) e s), μ) := by
      refine ev_cmp (u := I s) (v := lU ((List.range n).filter (kn (row.take i) e))) (ev_var rfl) (ev_idxL1 (u := kL n (row.take i)) (xs := (tab n (kn (row.take i))).map lU) (j := (e : Int)) (ev_call (ev_l2 (ev_var rfl) (er_to (ev_var rfl) (ev_var rfl))) (law_known_ok k μ hn (hr.take i) (r.take i).len)) (ev_var rfl) rfl (atI_of ?_)) ?_
      · simp [tab, he]
      · simp only [evCmp]
        rw [in_lU]
        congr 1
        simp [hs]
    cases h : kn (row.take i) e s with
    | true => rw [h] at e1; exact cs_if rfl e1 rfl (ev_var rfl)
    | false => rw [h] at e1; exact cs_no rfl e1 rfl
  refine (ex_seq (ex_set c)).trans ?_
  have f : ft row s e = ((List.range (row.length + 1)).filter fun i => kn (row.take i) e s).head? := by
    unfold ft
    rw [List.head?_filter]
  rw [f]
  generalize (List.range (row.length + 1)).filter (fun i => kn (row.take i) e s) = L
  refine ex_ret ?_
  have en : evalE (runF defs (k + 1)) μ.length (.lst false []) [some (I n), some (rU row), some (I s), some (I e), some (bU L), none] μ = some (bU [], μ) := ev_lst ev_lnil (show 0 ≤ SZ by decide)
  have ec : evalE (runF defs (k + 1)) μ.length (.cmp .ne (.var 4) (.lst false [])) [some (I n), some (rU row), some (I s), some (I e), some (bU L), none] μ = some (.bl (!decide (L = [])), μ) := by
    refine ev_cmp (ev_var rfl) en ?_
    have := eq_bU μ L []
    simp only [evCmp] at this ⊢
    rw [this]
    rfl
  cases L with
  | nil => exact ev_iteF ec rfl ev_non
  | cons a L => exact ev_iteT ec rfl (ev_idxL1 (ev_var rfl) ev_int rfl (atI_of (j := 0) rfl))
end
end K05

set_option Elab.async false
set_option linter.all false
set_option maxRecDepth 100000
set_option maxHeartbeats 4000000
namespace K05
open PySem L2 R
theorem forL_testA {α : Type} {step : U → R.Env → Mu → Option Out} {enc : α → U} {p : α → Bool} {Q : R.Env → Prop} {μ : Mu} {w : U} : ∀ {xs : List α} {σ : R.Env}, Q σ → (∀ x ∈ xs, ∀ σ, Q σ → if p x = true then ∃ σ', step (enc x) σ μ = some (.nx σ' μ) ∧ Q σ' else step (enc x) σ μ = some (.rt w μ)) →
    if xs.all p = true then ∃ σ', forL step (xs.map enc) σ μ = some (.nx σ' μ) ∧ Q σ' else forL step (xs.map enc) σ μ = some (.rt w μ)
  | [], σ, h, _ => by
    rw [if_pos (show ([] : List α).all p = true from rfl)]
    exact ⟨σ, by simp [forL], h⟩
  | x :: xs, σ, h, hs => by
    have h1 := hs x (by simp) σ h
    by_cases hp : p x = true
    · rw [if_pos hp] at h1
      obtain ⟨σ1, e1, q1⟩ := h1
      have h2 := forL_testA (xs := xs) q1 fun y hy => hs y (by simp [hy])
      simp only [List.map_cons, forL, e1, List.all_cons, hp, Bool.true_and]
      exact h2
    · rw [if_neg hp] at h1
      have hp' : p x = false := by simpa using hp
      rw [List.all_cons, hp', Bool.false_and, if_neg (by simp)]
      simp only [List.map_cons, forL, h1]
/-! ### ways -/
def decI (L : Nat) : U → Option Nat
  | .int i => if 0 ≤ i ∧ i ≤ (L : Int) - 1 then some i.toNat else none
  | _ => none
def decW (L : Nat) : U → Option (List Nat)
  | .tup xs => mapO (decI L) xs
  | _ => none
theorem decI_W (L : Nat) (u : U) : (decI L u).isSome = isW 0 ((L : Int) - 1) u := by
  cases u <;> simp [decI, isW]
  split <;> simp_all
theorem decI_some {L : Nat} {u : U} {i : Nat} (h : decI L u = some i) : u = I i ∧ i < L := by
  cases u <;> simp [decI] at h
  rename_i j
  obtain ⟨⟨h1, h2⟩, rfl⟩ := h
  refine ⟨?_, by omega⟩
  show U.int j = U.int ((j.toNat : Nat) : Int)
  congr 1
  omega
theorem mapO_all {α β : Type} (f : α → Option β) : ∀ xs : List α, (mapO f xs).isSome = xs.all fun x => (f x).isSome
  | [] => rfl
  | x :: xs => by
    simp only [mapO, List.all_cons]
    have := mapO_all f xs
    cases h : f x with
    | none => rfl
    | some y =>
      simp only [Option.isSome_some, Bool.true_and]
      rw [← this]
      cases mapO f xs <;> rfl
theorem decI_list {L : Nat} : ∀ {xs : List U} {w : List Nat}, mapO (decI L) xs = some w → xs = w.map I ∧ ∀ i ∈ w, i < L
  | [], w, h => by cases h; exact ⟨rfl, by simp⟩
  | x :: xs, w, h => by
    simp only [mapO] at h
    cases h1 : decI L x with
    | none => rw [h1] at h; cases h
    | some i =>
      rw [h1] at h
      simp only at h
      cases h2 : mapO (decI L) xs with
      | none => rw [h2] at h; cases h
      | some w2 =>
        rw [h2] at h
        cases h
        obtain ⟨rfl, hi⟩ := decI_some h1
        obtain ⟨rfl, hw⟩ := decI_list h2
        exact ⟨rfl, fun j hj => by
          rcases List.mem_cons.mp hj with rfl | hj
          · exact hi
          · exact hw j hj⟩
def ascB (w : List Nat) : Bool := (w.zip (w.drop 1)).all fun q => decide (q.1 < q.2)
theorem ascB_iff : ∀ (w : List Nat), ascB w = true ↔ w.Pairwise (· < ·)
  | [] => by simp [ascB]
  | [a] => by simp [ascB]
  | a :: b :: w => by
    have ih := ascB_iff (b :: w)
    simp only [ascB, List.drop_succ_cons, List.drop_zero, List.zip_cons_cons, List.all_cons, Bool.and_eq_true, decide_eq_true_eq] at ih ⊢
    rw [ih, List.pairwise_cons (a := a)]
    constructor
    · rintro ⟨h1, h2⟩
      refine ⟨fun x hx => ?_, h2⟩
      rcases List.mem_cons.mp hx with rfl | hx
      · exact h1
      · have := (List.pairwise_cons.mp h2).1 x hx; omega
    · rintro ⟨h1, h2⟩
      exact ⟨h1 b (by simp), h2⟩
def okWay (row : Row') (s e : Nat) (v : U) : Bool := match decW row.length v with
  | some w => ascB w && decide (go row s w = some e)
  | none => false
section
variable (k : Nat) (μ : Mu)
theorem asc_ints (w : List Nat) (hl : w.length ≤ 1000) : runF defs (k + 1) 2 [lU w] μ = some (.bl (ascB w), μ) := by
  rw [run_is_ascending]
  refine (if_pos rfl).trans (run_rt (μ1 := μ) (u := .bl (ascB w)) ?_ (fin_cut rfl (by simp)))
  have c : evalE (runF defs k) μ.length c_is_ascending_0 [some (lU w), none, none] μ = some (.lst ((w.zip (w.drop 1)).map fun q => .bl (decide (q.1 < q.2))), μ) := by
    refine (ev_comp (us := [lU w, lU (w.drop 1)]) (μ1 := μ) (xs := (w.zip (w.drop 1)).map fun q => .tup [I q.1, I q.2]) (ev_l2 (ev_var rfl) ?_) (by simp only [walk, zip_enc]) (compL_all (enc := fun q : Nat × Nat => U.tup [I q.1, I q.2]) (g := fun q => .bl (decide (q.1 < q.2))) (fun q _ => cs_yes rfl (ev_cmp (u := I q.1) (v := I q.2) (ev_var rfl) (ev_var rfl) lt_I)) (by simp; unfold SZ; omega))).trans rfl
    have := ev_slcT (cal := runF defs k) (n0 := μ.length) (σ := [some (lU w), none, none]) (μ := μ) (a := .var 0) (lo := .int 1) (hi := .non) (l := I 1) (l' := some 1) (h' := none) (ev_var rfl) ev_int ev_non rfl rfl
    rw [show (some (1 : Int)) = some ((1 : Nat) : Int) from rfl, cutU_from, ← List.map_drop] at this
    exact this
  exact ex_ret (ev_all c)
def isSB (L : Nat) (v : U) : Bool := match decW L v with
  | some w => ascB w
  | none => false
theorem below_ok {B d : Nat} (hB : B ≤ 1000) {v : U} (h : Pl B d v) (L : Nat) : runF defs (k + 2) 3 [v, I L] μ = some (.bl (isSB L v), μ) := by
  rw [run_is_set_below]
  refine (if_pos rfl).trans (run_rt (μ1 := μ) (u := .bl (isSB L v)) ?_ (fin_cut rfl (by simp)))
  unfold b_is_set_below
  cases h with
  | @tup d xs hz h =>
    have t : evalE (runF defs (k + 1)) μ.length (.not (.isi (.var 0) .tuple)) [some (.tup xs), some (I L), none] μ = some (.bl false, μ) := ev_not (d := true) (ev_isi (r := true) (ev_var rfl) rfl) rfl
    have c : evalE (runF defs (k + 1)) μ.length c_is_set_below_0 [some (.tup xs), some (I L), none] μ = some (.lst (xs.map fun x => .bl (isW 0 ((L : Int) - 1) x)), μ) := by
      have := compL_all (step := cstep (runF defs (k + 1)) μ.length (.slot 2) (.bl true) (.call 0 [(.var 2), (.int 0), (.bin false .sub (.var 1) (.int 1))]) [2] [some (.tup xs), some (I L), none]) (enc := id) (g := fun x => .bl (isW 0 ((L : Int) - 1) x)) (μ := μ) (xs := xs) (acc := []) (fun x hx => cs_yes rfl (ev_call (ev_lcons (ev_var rfl) (ev_l2 ev_int (ev_bin (ev_var rfl) ev_int rfl))) (whole_pl k (h x hx) 0 ((L : Int) - 1) μ))) (by simp; unfold SZ; omega)
      rw [List.map_id] at this
      exact (ev_comp (us := [.tup xs]) (μ1 := μ) (xs := xs) (ev_l1 (ev_var rfl)) rfl this).trans rfl
    have n := ev_not (ev_all c) rfl
    have m := mapO_all (decI L) xs
    rw [show (xs.all fun x => (decI L x).isSome) = xs.all (isW 0 ((L : Int) - 1)) by congr 1; funext x; exact decI_W L x] at m
    cases hm : mapO (decI L) xs with
    | none =>
      rw [hm] at m
      rw [← m] at n
      rw [show isSB L (.tup xs) = false by simp only [isSB, decW, hm]]
      exact ex_bad (ev_orF t (ev_b1 n)) ev_bl
    | some w =>
      rw [hm] at m
      rw [← m] at n
      obtain ⟨rfl, hw⟩ := decI_list hm
      rw [show isSB L (.tup (w.map I)) = ascB w by simp only [isSB, decW, hm]]
      refine (ex_seq ((ex_ifF (ev_orF t (ev_b1 n)) rfl).trans ex_nil)).trans ?_
      exact ex_ret (ev_call (ev_l1 (ev_var rfl)) (asc_ints k μ w (by simp at hz; omega)))
  | _ =>
    rw [show isSB L _ = false from rfl]
    exact ex_bad (ev_orT (ev_not (d := false) (ev_isi (r := false) (ev_var rfl) rfl) rfl)) ev_bl
variable {n : Nat} {es row : Row'} {s e : Nat}
theorem way_loop (T : Town n es) (r : Row n es row) (v : U) : ∀ {w : List Nat} (s : Nat) (y5 : Option U), (∀ i ∈ w, i < row.length) →
    match go row s w with
    | some a => ∃ y5', forL (fstep (runF defs k) μ.length (.slot 5) lb_is_news_way_0) (w.map I) [some (tU n es), some (rU row), some (I s), some (I e), some v, y5] μ = some (.nx [some (tU n es), some (rU row), some (I a), some (I e), some v, y5'] μ)
    | none => forL (fstep (runF defs k) μ.length (.slot 5) lb_is_news_way_0) (w.map I) [some (tU n es), some (rU row), some (I s), some (I e), some v, y5] μ = some (.rt (.bl false) μ)
  | [], s, y5, _ => ⟨y5, by simp [forL]⟩
  | i :: w, s, y5, hw => by
    have hi := hw i (by simp)
    have hp : row[i]? = some row[i] := List.getElem?_eq_getElem hi
    have pne := r.ne T _ (List.getElem_mem hi)
    generalize hq : row[i] = p at hp pne
    have ri : ∀ {y2 : Option U}, evalE (runF defs k) μ.length (.idx (.var 1) (.var 5)) [some (tU n es), some (rU row), y2, some (I e), some v, some (I i)] μ = some (pU p, μ) := ev_idxT (ev_var rfl) (ev_var rfl) (atI_of (by rw [List.getElem?_map, hp]; rfl))
    have r0 : ∀ {y2 : Option U}, evalE (runF defs k) μ.length (.idx (.idx (.var 1) (.var 5)) (.int 0)) [some (tU n es), some (rU row), y2, some (I e), some v, some (I i)] μ = some (I p.1, μ) := ev_idxT ri ev_int (atI_of (j := 0) rfl)
    have r1 : ∀ {y2 : Option U}, evalE (runF defs k) μ.length (.idx (.idx (.var 1) (.var 5)) (.int 1)) [some (tU n es), some (rU row), y2, some (I e), some v, some (I i)] μ = some (I p.2, μ) := ev_idxT ri ev_int (atI_of (j := 1) rfl)
    have nin : evalE (runF defs k) μ.length (.cmp .notin (.var 2) (.idx (.var 1) (.var 5))) [some (tU n es), some (rU row), some (I s), some (I e), some v, some (I i)] μ = some (.bl (!decide (s ∈ [p.1, p.2])), μ) := by
      refine ev_cmp (u := I s) (ev_var rfl) ri ?_
      simp only [evCmp]
      rw [show (pU p) = lU [p.1, p.2] from rfl, in_lU]
      rfl
    have eq0 : evalE (runF defs k) μ.length (.cmp .eq (.idx (.idx (.var 1) (.var 5)) (.int 0)) (.var 2)) [some (tU n es), some (rU row), some (I s), some (I e), some v, some (I i)] μ = some (.bl (decide (p.1 = s)), μ) := ev_cmp r0 (ev_var rfl) eq_I
    have st : fstep (runF defs k) μ.length (.slot 5) lb_is_news_way_0 (I i) [some (tU n es), some (rU row), some (I s), some (I e), some v, y5] μ = match go row s [i] with
      | some a => some (.nx [some (tU n es), some (rU row), some (I a), some (I e), some v, some (I i)] μ)
      | none => some (.rt (.bl false) μ) := by
      show exL (runF defs k) μ.length lb_is_news_way_0 [some (tU n es), some (rU row), some (I s), some (I e), some v, some (I i)] μ = _
      unfold lb_is_news_way_0
      simp only [K05.go, hp]
      by_cases h1 : s = p.1
      · subst h1
        rw [if_pos rfl]
        simp only
        rw [decide_eq_true (show p.1 ∈ [p.1, p.2] by simp)] at nin
        rw [decide_eq_true rfl] at eq0
        exact (ex_seq ((ex_ifF nin rfl).trans ex_nil)).trans ((ex_seq (ex_set (ev_iteT eq0 rfl r1))).trans ex_nil)
      · rw [if_neg h1]
        by_cases h2 : s = p.2
        · subst h2
          rw [if_pos rfl]
          simp only
          rw [decide_eq_true (show p.2 ∈ [p.1, p.2] by simp)] at nin
          rw [decide_eq_false (fun z => h1 z.symm)] at eq0
          exact (ex_seq ((ex_ifF nin rfl).trans ex_nil)).trans ((ex_seq (ex_set (ev_iteF eq0 rfl r0))).trans ex_nil)
        · rw [if_neg h2]
          simp only
          rw [decide_eq_false (show s ∉ [p.1, p.2] by simp [h1, h2])] at nin
          exact ex_bad nin ev_bl
    have gc : go row s (i :: w) = (go row s [i]).bind fun a => go row a w := by
      simp only [K05.go, hp]
      split
      · rfl
      · split <;> rfl
    rw [gc]
    cases hg : go row s [i] with
    | none =>
      rw [hg] at st
      simp only [Option.bind_none, List.map_cons, forL, st]
    | some a =>
      rw [hg] at st
      have ih := way_loop T r v (w := w) a (some (I i)) fun j hj => hw j (by simp [hj])
      simp only [Option.bind_some, List.map_cons, forL, st]
      exact ih
theorem is_way_ok (T : Town n es) (r : Row n es row) (hs : s < n) (he : e < n) {B d : Nat} (hB : B ≤ 1000) {v : U} (h : Pl B d v) : runF defs (k + 8) 19 [tU n es, rU row, I s, I e, v] μ = some (.bl (okWay row s e v), μ) := by
  rw [run_is_news_way]
  refine (if_pos rfl).trans (run_rt (μ1 := μ) (u := .bl (okWay row s e v)) ?_ (fin_cut rfl (by simp)))
  unfold b_is_news_way
  refine (ex_seq (ex_ex (ev_call (ev_lcons (ev_var rfl) (ev_lcons (ev_var rfl) (ev_l2 (ev_var rfl) (ev_var rfl)))) (need_all_ok k μ T r hs he)))).trans ?_
  show exL (runF defs (k + 7)) μ.length _ [some (tU n es), some (rU row), some (I s), some (I e), some v, none] μ = _
  have b := below_ok (k + 5) μ hB h row.length
  have nb : evalE (runF defs (k + 7)) μ.length (.not (.call 3 [(.var 4), (.bi .len [(.var 1)])])) [some (tU n es), some (rU row), some (I s), some (I e), some v, none] μ = some (.bl (!isSB row.length v), μ) := ev_not (ev_call (us := [v, I row.length]) (ev_l2 (ev_var rfl) (ev_bi (ev_l1 (ev_var rfl)) (by simp [evBi, cont]))) b) rfl
  unfold okWay
  unfold isSB at nb
  cases hw : decW row.length v with
  | none =>
    rw [hw] at nb
    exact ex_bad nb ev_bl
  | some w =>
    rw [hw] at nb
    simp only at nb ⊢
    cases ha : ascB w with
    | false =>
      rw [ha] at nb
      exact ex_bad nb ev_bl
    | true =>
      rw [ha] at nb
      refine (ex_seq ((ex_ifF nb rfl).trans ex_nil)).trans ?_
      obtain ⟨xs, rfl, hx⟩ : ∃ xs, v = .tup xs ∧ mapO (decI row.length) xs = some w := by
        cases v <;> simp [decW] at hw
        exact ⟨_, rfl, hw⟩
      obtain ⟨rfl, hlt⟩ := decI_list hx
      have lp := way_loop (k + 7) μ (e := e) T r (lU w) (w := w) s none hlt
      have ef : exS (runF defs (k + 7)) μ.length l_is_news_way_0 [some (tU n es), some (rU row), some (I s), some (I e), some (lU w), none] μ = forL (fstep (runF defs (k + 7)) μ.length (.slot 5) lb_is_news_way_0) (w.map I) [some (tU n es), some (rU row), some (I s), some (I e), some (lU w), none] μ := ex_for (us := [lU w]) (ev_l1 (ev_var rfl)) rfl
      rw [Bool.true_and]
      cases hg : go row s w with
      | none =>
        rw [hg] at lp
        have := ef.trans lp
        simp only [exL, this]
        rfl
      | some a =>
        rw [hg] at lp
        obtain ⟨y5, lp⟩ := lp
        refine (ex_seq (ef.trans lp)).trans ?_
        refine ex_ret (ev_cmp (u := I a) (v := I e) (ev_var rfl) (ev_var rfl) ?_)
        rw [eq_I]
        simp
end
end K05

set_option Elab.async false
set_option linter.all false
set_option maxRecDepth 100000
set_option maxHeartbeats 4000000
namespace K05
open PySem L2 R
section
variable (k : Nat) (μ : Mu)
theorem law_whole_ok {B d : Nat} {u : U} (h : Pl B d u) (lo hi : Int) : runF defs (k + 2) 26 [u, .int lo, .int hi] μ = some (.bl (isW lo hi u), μ) := by
  rw [run__law_is_whole]
  have s := sort_pl k h μ
  refine (if_pos rfl).trans (run_rt (μ1 := μ) (u := .bl (isW lo hi u)) ?_ (fin_cut rfl (by simp)))
  have c : evalE (runF defs (k + 1)) μ.length (.cmp .eq (.call 24 [(.var 0)]) (.int 2)) [some u, some (.int lo), some (.int hi)] μ = some (.bl (decide (srtU u = 2)), μ) := ev_cmp (ev_call (ev_l1 (ev_var rfl)) s) ev_int (by simp only [evCmp, eq_int])
  have no : srtU u ≠ 2 → isW lo hi u = false → exL (runF defs (k + 1)) μ.length b__law_is_whole [some u, some (.int lo), some (.int hi)] μ = some (.rt (.bl (isW lo hi u)) μ) := fun h1 h2 => by
    rw [decide_eq_false h1] at c
    rw [h2]
    exact ex_ret (ev_andF c)
  cases h with
  | int d i =>
    rw [decide_eq_true (show srtU (U.int i) = 2 from rfl)] at c
    refine ex_ret (ev_andT c (ev_b1 ?_))
    by_cases h1 : i < lo
    · have : isW lo hi (.int i) = false := by simp [isW]; omega
      rw [this]
      simp [evalE, evCmp, evLt, neg?, h1]
    · by_cases h2 : hi < i
      · have : isW lo hi (.int i) = false := by simp [isW]; omega
        rw [this]
        simp [evalE, evCmp, evLt, neg?, h1, h2]
      · have : isW lo hi (.int i) = true := by simp [isW]; omega
        rw [this]
        simp [evalE, evCmp, evLt, neg?, h1, h2]
  | _ => exact no (by simp [srtU]) rfl
theorem srt_eq (w : List Nat) : w.map I = (ssrt (w.map fun x : Nat => (x : Int))).map U.int ↔ ascB w = true := by
  have e : w.map I = (w.map fun x : Nat => (x : Int)).map U.int := by rw [List.map_map]; rfl
  rw [e, ascB_iff]
  have pm : (w.map fun x : Nat => (x : Int)).Pairwise (· < ·) ↔ w.Pairwise (· < ·) := by
    rw [List.pairwise_map]
    constructor
    · exact fun h => h.imp fun h => by omega
    · exact fun h => h.imp fun h => by omega
  rw [← pm]
  constructor
  · intro h
    have := List.map_inj_right (fun a b e => by injection e) |>.mp h
    rw [this]
    exact ssrt_lt _
  · intro h
    rw [← ssrt_uniq h fun k => Iff.rfl]
theorem ne_lst {a b : List U} (ha : ∀ u ∈ a, ∃ i, u = .int i) (hb : ∀ u ∈ b, ∃ i, u = .int i) : ∃ t : Bool, evCmp μ .ne (.lst a) (.lst b) = some t ∧ (t = false ↔ a = b) := by
  have ni : ∀ {l : List U}, (∀ u ∈ l, ∃ i, u = .int i) → Ni 1 (.lst l) := fun {l} h => .lst fun u hu => by obtain ⟨i, rfl⟩ := h u hu; exact .int _ _
  obtain ⟨t, e, ht⟩ := eq_ni μ (ni ha) (ni hb) (by decide) (by decide)
  refine ⟨!t, by simp only [evCmp, e, neg?], ?_⟩
  rw [Bool.not_eq_false', ht, U.lst.injEq]
variable {n : Nat} {es row : Row'} {s e : Nat}
theorem law_way_loop (T : Town n es) (r : Row n es row) (v : U) : ∀ {w : List Nat} (s : Nat) (y4 : Option U), (∀ i ∈ w, i < row.length) →
    match go row s w with
    | some a => ∃ y4', forL (fstep (runF defs k) μ.length (.slot 4) lb__law_is_way_2) (w.map I) [some (rU row), some (I s), some (I e), some v, y4, none] μ = some (.nx [some (rU row), some (I a), some (I e), some v, y4', none] μ)
    | none => forL (fstep (runF defs k) μ.length (.slot 4) lb__law_is_way_2) (w.map I) [some (rU row), some (I s), some (I e), some v, y4, none] μ = some (.rt (.bl false) μ)
  | [], s, y4, _ => ⟨y4, by simp [forL]⟩
  | i :: w, s, y4, hw => by
    have hi := hw i (by simp)
    have hp : row[i]? = some row[i] := List.getElem?_eq_getElem hi
    have pne := r.ne T _ (List.getElem_mem hi)
    generalize hq : row[i] = p at hp pne
    have ri : evalE (runF defs k) μ.length (.idx (.var 0) (.var 4)) [some (rU row), some (I s), some (I e), some v, some (I i), none] μ = some (pU p, μ) := ev_idxT (ev_var rfl) (ev_var rfl) (atI_of (by rw [List.getElem?_map, hp]; rfl))
    have nin : evalE (runF defs k) μ.length (.cmp .notin (.var 1) (.idx (.var 0) (.var 4))) [some (rU row), some (I s), some (I e), some v, some (I i), none] μ = some (.bl (!decide (s ∈ [p.1, p.2])), μ) := by
      refine ev_cmp (u := I s) (ev_var rfl) ri ?_
      simp only [evCmp]
      rw [show (pU p) = lU [p.1, p.2] from rfl, in_lU]
      rfl
    have c1 : evalE (runF defs k) μ.length c__law_is_way_1 [some (rU row), some (I s), some (I e), some v, some (I i), none] μ = some (.lst (([p.1, p.2].filter fun x => decide (x ≠ s)).map I), μ) := by
      refine (ev_comp (us := [pU p]) (μ1 := μ) (xs := [p.1, p.2].map I) (ev_l1 ri) rfl (compL_filter (enc := I) (g := I) (p := fun x => decide (x ≠ s)) (xs := [p.1, p.2]) (fun x _ => ?_) (by simp [SZ]))).trans rfl
      have e1 : evalE (runF defs k) μ.length (.cmp .ne (.var 5) (.var 1)) [some (rU row), some (I s), some (I e), some v, some (I i), some (I x)] μ = some (.bl (decide (x ≠ s)), μ) := ev_cmp (u := I x) (v := I s) (ev_var rfl) (ev_var rfl) ne_I
      by_cases h : x = s
      · rw [decide_eq_false (by simpa using h)] at e1 ⊢
        exact cs_no rfl e1 rfl
      · rw [decide_eq_true h] at e1 ⊢
        exact cs_if rfl e1 rfl (ev_var rfl)
    have st : fstep (runF defs k) μ.length (.slot 4) lb__law_is_way_2 (I i) [some (rU row), some (I s), some (I e), some v, y4, none] μ = match go row s [i] with
      | some a => some (.nx [some (rU row), some (I a), some (I e), some v, some (I i), none] μ)
      | none => some (.rt (.bl false) μ) := by
      show exL (runF defs k) μ.length lb__law_is_way_2 [some (rU row), some (I s), some (I e), some v, some (I i), none] μ = _
      unfold lb__law_is_way_2
      simp only [K05.go, hp]
      by_cases h1 : s = p.1
      · subst h1
        rw [if_pos rfl]
        simp only
        rw [decide_eq_true (show p.1 ∈ [p.1, p.2] by simp)] at nin
        rw [show ([p.1, p.2].filter fun x => decide (x ≠ p.1)) = [p.2] by simp [List.filter_cons, pne.symm]] at c1
        exact (ex_seq ((ex_ifF nin rfl).trans ex_nil)).trans ((ex_seq (ex_set (ev_idxL1 (u := .lst ([p.2].map I)) c1 ev_int rfl (atI_of (j := 0) rfl)))).trans ex_nil)
      · rw [if_neg h1]
        by_cases h2 : s = p.2
        · subst h2
          rw [if_pos rfl]
          simp only
          rw [decide_eq_true (show p.2 ∈ [p.1, p.2] by simp)] at nin
          rw [show ([p.1, p.2].filter fun x => decide (x ≠ p.2)) = [p.1] by simp [List.filter_cons, pne]] at c1
          exact (ex_seq ((ex_ifF nin rfl).trans ex_nil)).trans ((ex_seq (ex_set (ev_idxL1 (u := .lst ([p.1].map I)) c1 ev_int rfl (atI_of (j := 0) rfl)))).trans ex_nil)
        · rw [if_neg h2]
          simp only
          rw [decide_eq_false (show s ∉ [p.1, p.2] by simp [h1, h2])] at nin
          exact ex_bad nin ev_bl
    have gc : go row s (i :: w) = (go row s [i]).bind fun a => go row a w := by
      simp only [K05.go, hp]
      split
      · rfl
      · split <;> rfl
    rw [gc]
    cases hg : go row s [i] with
    | none =>
      rw [hg] at st
      simp only [Option.bind_none, List.map_cons, forL, st]
    | some a =>
      rw [hg] at st
      have ih := law_way_loop T r v (w := w) a (some (I i)) fun j hj => hw j (by simp [hj])
      simp only [Option.bind_some, List.map_cons, forL, st]
      exact ih
theorem law_way_ok (T : Town n es) (r : Row n es row) {B d : Nat} (hB : B < 64) (hd : d ≤ 10) {v : U} (h : Pl B d v) : runF defs (k + 3) 33 [rU row, I s, I e, v] μ = some (.bl (okWay row s e v), μ) := by
  rw [run__law_is_way]
  refine (if_pos rfl).trans (run_rt (μ1 := μ) (u := .bl (okWay row s e v)) ?_ (fin_cut rfl (by simp)))
  unfold b__law_is_way
  have s4 := sort_ne (k + 1) h μ μ.length (σ := [some (rU row), some (I s), some (I e), some v, none, none]) (e := .var 3) (ev_var rfl) 4
  cases h with
  | @tup d xs hz h =>
    have s4' : evalE (runF defs (k + 2)) μ.length (.cmp .ne (.call 24 [.var 3]) (.int 4)) [some (rU row), some (I s), some (I e), some (.tup xs), none, none] μ = some (.bl false, μ) := s4
    have ll : ∀ {y4 : Option U}, evalE (runF defs (k + 2)) μ.length (.bin false .sub (.bi .len [(.var 0)]) (.int 1)) [some (rU row), some (I s), some (I e), some (.tup xs), y4, none] μ = some (.int ((row.length : Int) - 1), μ) := ev_bin (u := I row.length) (ev_bi (ev_l1 (ev_var rfl)) (by simp [evBi, cont])) ev_int rfl
    have f : evalE (runF defs (k + 2)) μ.length c__law_is_way_0 [some (rU row), some (I s), some (I e), some (.tup xs), none, none] μ = some (.lst (xs.filter fun u => !isW 0 ((row.length : Int) - 1) u), μ) := by
      have cf := compL_filter (step := cstep (runF defs (k + 2)) μ.length (.slot 4) (.not (.call 26 [(.var 4), (.int 0), (.bin false .sub (.bi .len [(.var 0)]) (.int 1))])) (.var 4) [4] [some (rU row), some (I s), some (I e), some (.tup xs), none, none]) (enc := id) (g := id) (p := fun u => !isW 0 ((row.length : Int) - 1) u) (μ := μ) (xs := xs) (acc := []) (fun u hu => ?_) (by simp; unfold SZ; omega)
      · rw [List.map_id, List.map_id] at cf
        exact (ev_comp (us := [.tup xs]) (μ1 := μ) (xs := xs) (ev_l1 (ev_var rfl)) rfl cf).trans rfl
      · have e1 : evalE (runF defs (k + 2)) μ.length (.not (.call 26 [(.var 4), (.int 0), (.bin false .sub (.bi .len [(.var 0)]) (.int 1))])) [some (rU row), some (I s), some (I e), some (.tup xs), some u, none] μ = some (.bl (!isW 0 ((row.length : Int) - 1) u), μ) := ev_not (ev_call (us := [u, .int 0, .int ((row.length : Int) - 1)]) (ev_lcons (ev_var rfl) (ev_l2 ev_int ll)) (law_whole_ok k μ (h u hu) 0 ((row.length : Int) - 1))) rfl
        cases hh : isW 0 ((row.length : Int) - 1) u with
        | true => rw [hh] at e1; exact cs_no rfl e1 rfl
        | false => rw [hh] at e1; exact cs_if rfl e1 rfl (ev_var rfl)
    have fn : evalE (runF defs (k + 2)) μ.length (.cmp .ne c__law_is_way_0 (.lst false [])) [some (rU row), some (I s), some (I e), some (.tup xs), none, none] μ = some (.bl (!(xs.filter fun u => !isW 0 ((row.length : Int) - 1) u).isEmpty), μ) :=
      ev_cmp f (ev_lst ev_lnil (show 0 ≤ SZ by decide)) (ne_nil μ (fun u hu => h u ((List.mem_filter.mp hu).1)) (by unfold D0; omega))
    have m := mapO_all (decI row.length) xs
    rw [show (xs.all fun x => (decI row.length x).isSome) = xs.all (isW 0 ((row.length : Int) - 1)) by congr 1; funext x; exact decI_W row.length x] at m
    have em : (xs.filter fun u => !isW 0 ((row.length : Int) - 1) u).isEmpty = xs.all (isW 0 ((row.length : Int) - 1)) := by
      rw [Bool.eq_iff_iff, List.isEmpty_iff, List.filter_eq_nil_iff, List.all_eq_true]
      constructor
      · intro z x hx; simpa using z x hx
      · intro z x hx; simpa using z x hx
    rw [em, ← m] at fn
    unfold okWay
    simp only [decW]
    cases hm : mapO (decI row.length) xs with
    | none =>
      rw [hm] at fn
      exact ex_bad (ev_orF s4' (ev_orT fn)) ev_bl
    | some w =>
      rw [hm] at fn
      obtain ⟨rfl, hlt⟩ := decI_list hm
      simp only [List.length_map] at hz
      have ss : evalE (runF defs (k + 2)) μ.length (.sset false (.var 3)) [some (rU row), some (I s), some (I e), some (lU w), none, none] μ = some (.lst ((ssrt (w.map fun x : Nat => (x : Int))).map U.int), μ) := by
        have mi : mapO asInt (w.map I) = some (w.map fun x : Nat => (x : Int)) := mapO_map fun x _ => rfl
        simp only [evalE, List.getElem?_cons_succ, List.getElem?_cons_zero, intT, asS, mi]
        rw [if_pos (by rw [List.length_map]; omega)]
        rfl
      obtain ⟨t, et, ht⟩ := ne_lst μ (a := w.map I) (b := (ssrt (w.map fun x : Nat => (x : Int))).map U.int) (fun u hu => by obtain ⟨x, _, rfl⟩ := List.mem_map.mp hu; exact ⟨_, rfl⟩) (fun u hu => by obtain ⟨x, _, rfl⟩ := List.mem_map.mp hu; exact ⟨_, rfl⟩)
      have et2 : t = !ascB w := by
        cases t with
        | false =>
          rw [(srt_eq w).mp (ht.mp rfl)]; rfl
        | true =>
          cases ha : ascB w with
          | true => have := ht.mpr ((srt_eq w).mpr ha); cases this
          | false => rfl
      have third : evalE (runF defs (k + 2)) μ.length (.cmp .ne (.col false .list .ex [(.var 3)]) (.sset false (.var 3))) [some (rU row), some (I s), some (I e), some (lU w), none, none] μ = some (.bl (!ascB w), μ) := ev_cmp (u := .lst (w.map I)) (ev_col (us := [lU w]) (xs := w.map I) (ev_l1 (ev_var rfl)) rfl rfl) ss (by rw [et, et2])
      simp only
      cases ha : ascB w with
      | false =>
        rw [ha] at third
        exact ex_bad (ev_orF s4' (ev_orF fn (ev_b1 third))) ev_bl
      | true =>
        rw [ha] at third
        refine (ex_seq ((ex_ifF (ev_orF s4' (ev_orF fn (ev_b1 third))) rfl).trans ex_nil)).trans ?_
        have lp := law_way_loop (k + 2) μ (e := e) T r (lU w) (w := w) s none hlt
        have ef : exS (runF defs (k + 2)) μ.length l__law_is_way_2 [some (rU row), some (I s), some (I e), some (lU w), none, none] μ = forL (fstep (runF defs (k + 2)) μ.length (.slot 4) lb__law_is_way_2) (w.map I) [some (rU row), some (I s), some (I e), some (lU w), none, none] μ := ex_for (us := [lU w]) (ev_l1 (ev_var rfl)) rfl
        rw [Bool.true_and]
        cases hg : go row s w with
        | none =>
          rw [hg] at lp
          have := ef.trans lp
          simp only [exL, this]
          rfl
        | some a =>
          rw [hg] at lp
          obtain ⟨y4, lp⟩ := lp
          refine (ex_seq (ef.trans lp)).trans ?_
          refine ex_ret (ev_cmp (u := I a) (v := I e) (ev_var rfl) (ev_var rfl) ?_)
          rw [eq_I]
          simp
  | _ =>
    rw [show okWay row s e _ = false from rfl]
    exact ex_bad (ev_orT s4) ev_bl
end
end K05

set_option Elab.async false
set_option linter.all false
set_option maxRecDepth 100000
set_option maxHeartbeats 4000000
namespace K05
open PySem L2 R
/-! ### bars -/
def decB (L : Nat) : U → Option (Option Nat)
  | .non => some none
  | .int i => if 0 ≤ i ∧ i ≤ (L : Int) then some (some i.toNat) else none
  | _ => none
theorem decB_W (L : Nat) (u : U) : (decB L u).isSome = (R.isNon u || isW 0 (L : Int) u) := by
  cases u <;> simp [decB, isW, R.isNon]
  split <;> simp_all
theorem decB_some {L : Nat} {u : U} {o : Option Nat} (h : decB L u = some o) : u = oU o := by
  cases u <;> simp [decB] at h
  · subst h; rfl
  · rename_i j
    obtain ⟨⟨h1, h2⟩, rfl⟩ := h
    show U.int j = U.int ((j.toNat : Nat) : Int)
    congr 1
    omega
theorem decB_list {L : Nat} : ∀ {xs : List U} {f : List (Option Nat)}, mapO (decB L) xs = some f → xs = f.map oU
  | [], w, h => by cases h; rfl
  | x :: xs, w, h => by
    simp only [mapO] at h
    cases h1 : decB L x with
    | none => rw [h1] at h; cases h
    | some i =>
      rw [h1] at h
      simp only at h
      cases h2 : mapO (decB L) xs with
      | none => rw [h2] at h; cases h
      | some w2 =>
        rw [h2] at h
        cases h
        rw [decB_some h1, decB_list h2]
        rfl
def badO (a b : Option Nat) (i : Nat) : Bool := match a with
  | none => false
  | some x => decide (x ≤ i) && (match b with
    | none => true
    | some y => decide (i + 1 < y))
def barB (row : Row') (f : List (Option Nat)) : Bool := ((List.range row.length).zip row).all fun q => !badO (f[q.2.1]?.getD none) (f[q.2.2]?.getD none) q.1 && !badO (f[q.2.2]?.getD none) (f[q.2.1]?.getD none) q.1
def okF (row : Row') (s e : Nat) (f : List (Option Nat)) : Bool := decide (f[s]?.getD none = some 0) && decide (f[e]?.getD none = none) && barB row f
def decF (n L : Nat) : U → Option (List (Option Nat))
  | .tup xs => if xs.length = n then mapO (decB L) xs else none
  | _ => none
def okBar (n : Nat) (row : Row') (s e : Nat) (v : U) : Bool := match decF n row.length v with
  | some f => okF row s e f
  | none => false
section
variable {cal : Nat → List U → Mu → Option (U × Mu)} {n0 : Nat} {σ : R.Env} {μ : Mu}
theorem at_f {f : List (Option Nat)} {e : E} {i : Nat} (h4 : σ[4]? = some (some (.tup (f.map oU)))) (he : evalE cal n0 e σ μ = some (I i, μ)) (hi : i < f.length) : evalE cal n0 (.idx (.var 4) e) σ μ = some (oU (f[i]?.getD none), μ) :=
  ev_idxT (ev_var h4) he (atI_of (by rw [List.getElem?_map, List.getElem?_eq_getElem hi]; rfl))
theorem cond_ev {f : List (Option Nat)} {ja jh ia ih i : Nat} (h4 : σ[4]? = some (some (.tup (f.map oU)))) (h5 : σ[5]? = some (some (I i))) (ha : σ[ja]? = some (some (I ia))) (hh : σ[jh]? = some (some (I ih))) (la : ia < f.length) (lh : ih < f.length) :
    evalE cal n0 (.bool true [(.cmp .isnot (.idx (.var 4) (.var ja)) .non), (.cmp .le (.idx (.var 4) (.var ja)) (.var 5)), (.bool false [(.cmp .is_ (.idx (.var 4) (.var jh)) .non), (.cmp .gt (.idx (.var 4) (.var jh)) (.bin false .add (.var 5) (.int 1)))])]) σ μ = some (.bl (badO (f[ia]?.getD none) (f[ih]?.getD none) i), μ) := by
  have xa : evalE cal n0 (.idx (.var 4) (.var ja)) σ μ = _ := at_f h4 (ev_var ha) la
  have xh : evalE cal n0 (.idx (.var 4) (.var jh)) σ μ = _ := at_f h4 (ev_var hh) lh
  generalize f[ia]?.getD none = oa at xa
  cases oa with
  | none => exact ev_andF (ev_cmp xa ev_non rfl)
  | some x =>
    refine ev_andT (μ1 := μ) (ev_cmp (d := true) xa ev_non rfl) ?_
    have c2 : evalE cal n0 (.cmp .le (.idx (.var 4) (.var ja)) (.var 5)) σ μ = some (.bl (decide (x ≤ i)), μ) := by
      refine ev_cmp (u := I x) (v := I i) xa (ev_var h5) ?_
      simp only [evCmp, evLt, neg?]
      congr 1
      rw [Bool.eq_iff_iff]
      simp
    by_cases hx : x ≤ i
    · rw [decide_eq_true hx] at c2
      refine ev_andT (μ1 := μ) c2 (ev_b1 ?_)
      simp only [badO, decide_eq_true hx, Bool.true_and]
      generalize f[ih]?.getD none = oh at xh
      cases oh with
      | none => exact ev_orT (ev_cmp xh ev_non rfl)
      | some y =>
        refine ev_orF (μ1 := μ) (ev_cmp (d := false) xh ev_non rfl) (ev_b1 ?_)
        exact ev_cmp (u := I y) (v := I (i + 1)) xh (ev_bin (ev_var h5) ev_int rfl) gt_I
    · rw [decide_eq_false hx] at c2
      simp only [badO, decide_eq_false hx, Bool.false_and]
      exact ev_andF c2
theorem ends_ev {f : List (Option Nat)} {s e : Nat} (h4 : σ[4]? = some (some (.tup (f.map oU)))) (h2 : σ[2]? = some (some (I s))) (h3 : σ[3]? = some (some (I e))) (ls : s < f.length) (le : e < f.length) :
    evalE cal n0 (.bool false [(.cmp .ne (.idx (.var 4) (.var 2)) (.int 0)), (.cmp .isnot (.idx (.var 4) (.var 3)) .non)]) σ μ = some (.bl (!(decide (f[s]?.getD none = some 0) && decide (f[e]?.getD none = none))), μ) := by
  have xs : evalE cal n0 (.idx (.var 4) (.var 2)) σ μ = _ := at_f h4 (ev_var h2) ls
  have xe : evalE cal n0 (.idx (.var 4) (.var 3)) σ μ = _ := at_f h4 (ev_var h3) le
  have c1 : evalE cal n0 (.cmp .ne (.idx (.var 4) (.var 2)) (.int 0)) σ μ = some (.bl (!decide (f[s]?.getD none = some 0)), μ) := by
    refine ev_cmp xs ev_int ?_
    cases f[s]?.getD none with
    | none => rfl
    | some x =>
      have := @ne_I μ x 0
      refine this.trans ?_
      congr 1
      rw [Bool.eq_iff_iff]
      simp
  have c2 : evalE cal n0 (.cmp .isnot (.idx (.var 4) (.var 3)) .non) σ μ = some (.bl (!decide (f[e]?.getD none = none)), μ) := by
    refine ev_cmp xe ev_non ?_
    cases f[e]?.getD none <;> rfl
  have := ev_or2 c1 c2
  rw [← Bool.not_and] at this
  exact this
end
section
variable (k : Nat) (μ : Mu) {n : Nat} {es row : Row'} {s e : Nat}
theorem bar_loop (T : Town n es) (r : Row n es row) {f : List (Option Nat)} (hf : f.length = n) :
    if barB row f = true then ∃ σ', exS (runF defs k) μ.length l_is_news_bar_3 [some (tU n es), some (rU row), some (I s), some (I e), some (.tup (f.map oU)), none, none, none, none, none, none] μ = some (.nx σ' μ)
    else exS (runF defs k) μ.length l_is_news_bar_3 [some (tU n es), some (rU row), some (I s), some (I e), some (.tup (f.map oU)), none, none, none, none, none, none] μ = some (.rt (.bl false) μ) := by
  have ef : exS (runF defs k) μ.length l_is_news_bar_3 [some (tU n es), some (rU row), some (I s), some (I e), some (.tup (f.map oU)), none, none, none, none, none, none] μ = forL (fstep (runF defs k) μ.length (.tup [(.slot 5), (.tup [(.slot 6), (.slot 7)])]) lb_is_news_bar_3) (((List.range row.length).zip row).map fun q => .tup [I q.1, pU q.2]) [some (tU n es), some (rU row), some (I s), some (I e), some (.tup (f.map oU)), none, none, none, none, none, none] μ := by
    refine ex_for (us := [rU row]) (ev_l1 (ev_var rfl)) ?_
    simp only [walk, enum_map]
  rw [ef]
  have t := forL_testA (step := fstep (runF defs k) μ.length (.tup [(.slot 5), (.tup [(.slot 6), (.slot 7)])]) lb_is_news_bar_3) (enc := fun q : Nat × (Nat × Nat) => U.tup [I q.1, pU q.2]) (p := fun q => !badO (f[q.2.1]?.getD none) (f[q.2.2]?.getD none) q.1 && !badO (f[q.2.2]?.getD none) (f[q.2.1]?.getD none) q.1) (Q := fun σ => ∃ y5 y6 y7 y8 y9, σ = [some (tU n es), some (rU row), some (I s), some (I e), some (.tup (f.map oU)), y5, y6, y7, y8, y9, none]) (μ := μ) (w := .bl false) (xs := (List.range row.length).zip row) (σ := [some (tU n es), some (rU row), some (I s), some (I e), some (.tup (f.map oU)), none, none, none, none, none, none]) ⟨none, none, none, none, none, rfl⟩ (fun q hq σ hs => by
    obtain ⟨y5, y6, y7, y8, y9, rfl⟩ := hs
    obtain ⟨i, p⟩ := q
    have hm := (List.of_mem_zip hq).2
    have hp := r.inN T p hm
    show if _ then ∃ σ', exL (runF defs k) μ.length lb_is_news_bar_3 [some (tU n es), some (rU row), some (I s), some (I e), some (.tup (f.map oU)), some (I i), some (I p.1), some (I p.2), y8, y9, none] μ = some (R.Out.nx σ' μ) ∧ _ else exL (runF defs k) μ.length lb_is_news_bar_3 [some (tU n es), some (rU row), some (I s), some (I e), some (.tup (f.map oU)), some (I i), some (I p.1), some (I p.2), y8, y9, none] μ = some (R.Out.rt (.bl false) μ)
    have t2 := forL_testA (step := fstep (runF defs k) μ.length (.tup [(.slot 8), (.slot 9)]) lb_is_news_bar_1) (enc := pU) (p := fun q => !badO (f[q.2]?.getD none) (f[q.1]?.getD none) i) (Q := fun σ => ∃ y8 y9, σ = [some (tU n es), some (rU row), some (I s), some (I e), some (.tup (f.map oU)), some (I i), some (I p.1), some (I p.2), y8, y9, none]) (μ := μ) (w := .bl false) (xs := [p, (p.2, p.1)]) (σ := [some (tU n es), some (rU row), some (I s), some (I e), some (.tup (f.map oU)), some (I i), some (I p.1), some (I p.2), y8, y9, none]) ⟨y8, y9, rfl⟩ (fun q hq σ hs => by
      obtain ⟨z8, z9, rfl⟩ := hs
      have hq' : q.1 < f.length ∧ q.2 < f.length := by
        simp only [List.mem_cons, List.not_mem_nil, or_false] at hq
        rcases hq with rfl | rfl
        · omega
        · exact ⟨by omega, by omega⟩
      have c := cond_ev (cal := runF defs k) (n0 := μ.length) (σ := [some (tU n es), some (rU row), some (I s), some (I e), some (.tup (f.map oU)), some (I i), some (I p.1), some (I p.2), some (I q.1), some (I q.2), none]) (μ := μ) (f := f) (ja := 9) (jh := 8) (ia := q.2) (ih := q.1) (i := i) rfl rfl rfl rfl hq'.2 hq'.1
      show if _ then ∃ σ', exL (runF defs k) μ.length lb_is_news_bar_1 [some (tU n es), some (rU row), some (I s), some (I e), some (.tup (f.map oU)), some (I i), some (I p.1), some (I p.2), some (I q.1), some (I q.2), none] μ = some (R.Out.nx σ' μ) ∧ _ else exL (runF defs k) μ.length lb_is_news_bar_1 [some (tU n es), some (rU row), some (I s), some (I e), some (.tup (f.map oU)), some (I i), some (I p.1), some (I p.2), some (I q.1), some (I q.2), none] μ = some (R.Out.rt (.bl false) μ)
      cases hb : badO (f[q.2]?.getD none) (f[q.1]?.getD none) i with
      | true =>
        rw [hb] at c
        rw [if_neg (by simp)]
        exact ex_bad c ev_bl
      | false =>
        rw [hb] at c
        rw [if_pos (by simp)]
        exact ⟨_, (ex_seq ((ex_ifF c rfl).trans ex_nil)).trans ex_nil, _, _, rfl⟩)
    have e2 : exS (runF defs k) μ.length l_is_news_bar_1 [some (tU n es), some (rU row), some (I s), some (I e), some (.tup (f.map oU)), some (I i), some (I p.1), some (I p.2), y8, y9, none] μ = forL (fstep (runF defs k) μ.length (.tup [(.slot 8), (.slot 9)]) lb_is_news_bar_1) ([p, (p.2, p.1)].map pU) [some (tU n es), some (rU row), some (I s), some (I e), some (.tup (f.map oU)), some (I i), some (I p.1), some (I p.2), y8, y9, none] μ := by
      refine ex_for (us := [.tup ([p, (p.2, p.1)].map pU)]) (ev_l1 (ev_tup (ev_l2 (ev_tup (ev_l2 (ev_var rfl) (ev_var rfl)) (show 2 ≤ SZ by decide)) (ev_tup (ev_l2 (ev_var rfl) (ev_var rfl)) (show 2 ≤ SZ by decide))) (show 2 ≤ SZ by decide))) rfl
    simp only [List.all_cons, List.all_nil, Bool.and_true] at t2
    rw [Bool.and_comm] at t2
    split
    · rename_i h
      rw [if_pos h] at t2
      obtain ⟨σ', t2, z8, z9, rfl⟩ := t2
      exact ⟨_, (ex_seq (e2.trans t2)).trans ex_nil, _, _, _, _, _, rfl⟩
    · rename_i h
      rw [if_neg h] at t2
      have := e2.trans t2
      unfold lb_is_news_bar_3
      simp only [exL, this])
  unfold barB
  split
  · rename_i h
    rw [if_pos h] at t
    obtain ⟨σ', t, _⟩ := t
    exact ⟨σ', t⟩
  · rename_i h
    rw [if_neg h] at t
    exact t
theorem is_bar_ok (T : Town n es) (r : Row n es row) (hs : s < n) (he : e < n) {B d : Nat} (hB : B ≤ 1000) {v : U} (h : Pl B d v) : runF defs (k + 8) 20 [tU n es, rU row, I s, I e, v] μ = some (.bl (okBar n row s e v), μ) := by
  rw [run_is_news_bar]
  refine (if_pos rfl).trans (run_rt (μ1 := μ) (u := .bl (okBar n row s e v)) ?_ (fin_cut rfl (by simp)))
  unfold b_is_news_bar
  refine (ex_seq (ex_ex (ev_call (ev_lcons (ev_var rfl) (ev_lcons (ev_var rfl) (ev_l2 (ev_var rfl) (ev_var rfl)))) (need_all_ok k μ T r hs he)))).trans ?_
  show exL (runF defs (k + 7)) μ.length _ [some (tU n es), some (rU row), some (I s), some (I e), some v, none, none, none, none, none, none] μ = _
  have i0 : evalE (runF defs (k + 7)) μ.length (.idx (.var 0) (.int 0)) [some (tU n es), some (rU row), some (I s), some (I e), some v, none, none, none, none, none, none] μ = some (I n, μ) := ev_idxT (ev_var rfl) ev_int (atI_of (j := 0) rfl)
  have t : evalE (runF defs (k + 7)) μ.length (.not (.call 1 [(.var 4), (.idx (.var 0) (.int 0)), (.idx (.var 0) (.int 0))])) [some (tU n es), some (rU row), some (I s), some (I e), some v, none, none, none, none, none, none] μ = some (.bl (!isT n n v), μ) := ev_not (ev_call (us := [v, I n, I n]) (ev_lcons (ev_var rfl) (ev_l2 i0 i0)) (tuple_pl (k + 6) h n n μ)) rfl
  cases h with
  | @tup d xs hz h =>
    by_cases hl : xs.length = n
    · rw [show isT n n (.tup xs) = true by simp [isT]; omega] at t
      refine (ex_seq ((ex_ifF t rfl).trans ex_nil)).trans ?_
      have c : evalE (runF defs (k + 7)) μ.length c_is_news_bar_0 [some (tU n es), some (rU row), some (I s), some (I e), some (.tup xs), none, none, none, none, none, none] μ = some (.lst (xs.map fun x => .bl (R.isNon x || isW 0 (row.length : Int) x)), μ) := by
        have := compL_all (step := cstep (runF defs (k + 7)) μ.length (.slot 10) (.bl true) (.bool false [(.cmp .is_ (.var 10) .non), (.call 0 [(.var 10), (.int 0), (.bi .len [(.var 1)])])]) [10] [some (tU n es), some (rU row), some (I s), some (I e), some (.tup xs), none, none, none, none, none, none]) (enc := id) (g := fun x => .bl (R.isNon x || isW 0 (row.length : Int) x)) (μ := μ) (xs := xs) (acc := []) (fun x hx => cs_yes rfl (ev_or2 (ev_cmp (u := x) (ev_var rfl) ev_non rfl) (ev_call (us := [x, .int 0, I row.length]) (ev_lcons (ev_var rfl) (ev_l2 ev_int (ev_bi (ev_l1 (ev_var rfl)) (by simp [evBi, cont])))) (whole_pl (k + 6) (h x hx) 0 (row.length : Int) μ)))) (by simp; unfold SZ; omega)
        rw [List.map_id] at this
        exact (ev_comp (us := [.tup xs]) (μ1 := μ) (xs := xs) (ev_l1 (ev_var rfl)) rfl this).trans rfl
      have na := ev_not (ev_all c) rfl
      have m := mapO_all (decB row.length) xs
      rw [show (xs.all fun x => (decB row.length x).isSome) = xs.all fun x => R.isNon x || isW 0 (row.length : Int) x by congr 1; funext x; exact decB_W row.length x] at m
      unfold okBar
      simp only [decF, if_pos hl]
      cases hm : mapO (decB row.length) xs with
      | none =>
        rw [hm] at m
        rw [← m] at na
        exact ex_bad na ev_bl
      | some f =>
        rw [hm] at m
        rw [← m] at na
        have hx := decB_list hm
        subst hx
        simp only [List.length_map] at hl
        refine (ex_seq ((ex_ifF na rfl).trans ex_nil)).trans ?_
        have en := ends_ev (cal := runF defs (k + 7)) (n0 := μ.length) (σ := [some (tU n es), some (rU row), some (I s), some (I e), some (.tup (f.map oU)), none, none, none, none, none, none]) (μ := μ) (f := f) (s := s) (e := e) rfl rfl rfl (by omega) (by omega)
        simp only [okF]
        cases hc : (decide (f[s]?.getD none = some 0) && decide (f[e]?.getD none = none)) with
        | false =>
          rw [hc] at en
          exact ex_bad en ev_bl
        | true =>
          rw [hc] at en
          refine (ex_seq ((ex_ifF en rfl).trans ex_nil)).trans ?_
          have lp := bar_loop (k + 7) μ (s := s) (e := e) T r hl
          cases hb : barB row f with
          | true =>
            rw [if_pos hb] at lp
            obtain ⟨σ', lp⟩ := lp
            exact (ex_seq lp).trans (ex_ret ev_bl)
          | false =>
            rw [if_neg (by rw [hb]; simp)] at lp
            simp only [exL, lp]
            rfl
    · rw [show isT n n (.tup xs) = false by simp [isT]; omega] at t
      rw [show okBar n row s e (.tup xs) = false by simp only [okBar, decF, if_neg hl]]
      exact ex_bad t ev_bl
  | _ =>
    rw [show okBar n row s e _ = false from rfl]
    exact ex_bad t ev_bl
end
end K05

set_option Elab.async false
set_option linter.all false
set_option maxRecDepth 100000
set_option maxHeartbeats 4000000
namespace K05
open PySem L2 R
section
variable (k : Nat) (μ : Mu) {n : Nat} {es row : Row'} {s e : Nat}
theorem law_bar_loop (T : Town n es) (r : Row n es row) {f : List (Option Nat)} (hf : f.length = n) :
    if barB row f = true then ∃ σ', exS (runF defs k) μ.length l__law_is_bar_3 [some (I n), some (rU row), some (I s), some (I e), some (.tup (f.map oU)), none, none, none, none, none] μ = some (.nx σ' μ)
    else exS (runF defs k) μ.length l__law_is_bar_3 [some (I n), some (rU row), some (I s), some (I e), some (.tup (f.map oU)), none, none, none, none, none] μ = some (.rt (.bl false) μ) := by
  have ef : exS (runF defs k) μ.length l__law_is_bar_3 [some (I n), some (rU row), some (I s), some (I e), some (.tup (f.map oU)), none, none, none, none, none] μ = forL (fstep (runF defs k) μ.length (.tup [(.slot 5), (.slot 6)]) lb__law_is_bar_3) (((List.range row.length).zip row).map fun q => .tup [I q.1, pU q.2]) [some (I n), some (rU row), some (I s), some (I e), some (.tup (f.map oU)), none, none, none, none, none] μ := by
    refine ex_for (us := [rU row]) (ev_l1 (ev_var rfl)) ?_
    simp only [walk, enum_map]
  rw [ef]
  have t := forL_testA (step := fstep (runF defs k) μ.length (.tup [(.slot 5), (.slot 6)]) lb__law_is_bar_3) (enc := fun q : Nat × (Nat × Nat) => U.tup [I q.1, pU q.2]) (p := fun q => !badO (f[q.2.1]?.getD none) (f[q.2.2]?.getD none) q.1 && !badO (f[q.2.2]?.getD none) (f[q.2.1]?.getD none) q.1) (Q := fun σ => ∃ y5 y6 y7 y8, σ = [some (I n), some (rU row), some (I s), some (I e), some (.tup (f.map oU)), y5, y6, y7, y8, none]) (μ := μ) (w := .bl false) (xs := (List.range row.length).zip row) (σ := [some (I n), some (rU row), some (I s), some (I e), some (.tup (f.map oU)), none, none, none, none, none]) ⟨none, none, none, none, rfl⟩ (fun q hq σ hs => by
    obtain ⟨y5, y6, y7, y8, rfl⟩ := hs
    obtain ⟨i, p⟩ := q
    have hm := (List.of_mem_zip hq).2
    have hp := r.inN T p hm
    show if _ then ∃ σ', exL (runF defs k) μ.length lb__law_is_bar_3 [some (I n), some (rU row), some (I s), some (I e), some (.tup (f.map oU)), some (I i), some (pU p), y7, y8, none] μ = some (R.Out.nx σ' μ) ∧ _ else exL (runF defs k) μ.length lb__law_is_bar_3 [some (I n), some (rU row), some (I s), some (I e), some (.tup (f.map oU)), some (I i), some (pU p), y7, y8, none] μ = some (R.Out.rt (.bl false) μ)
    have t2 := forL_testA (step := fstep (runF defs k) μ.length (.tup [(.slot 7), (.slot 8)]) lb__law_is_bar_1) (enc := pU) (p := fun q => !badO (f[q.1]?.getD none) (f[q.2]?.getD none) i) (Q := fun σ => ∃ y7 y8, σ = [some (I n), some (rU row), some (I s), some (I e), some (.tup (f.map oU)), some (I i), some (pU p), y7, y8, none]) (μ := μ) (w := .bl false) (xs := [p, (p.2, p.1)]) (σ := [some (I n), some (rU row), some (I s), some (I e), some (.tup (f.map oU)), some (I i), some (pU p), y7, y8, none]) ⟨y7, y8, rfl⟩ (fun q hq σ hs => by
      obtain ⟨z8, z9, rfl⟩ := hs
      have hq' : q.1 < f.length ∧ q.2 < f.length := by
        simp only [List.mem_cons, List.not_mem_nil, or_false] at hq
        rcases hq with rfl | rfl
        · omega
        · exact ⟨by omega, by omega⟩
      have c := cond_ev (cal := runF defs k) (n0 := μ.length) (σ := [some (I n), some (rU row), some (I s), some (I e), some (.tup (f.map oU)), some (I i), some (pU p), some (I q.1), some (I q.2), none]) (μ := μ) (f := f) (ja := 7) (jh := 8) (ia := q.1) (ih := q.2) (i := i) rfl rfl rfl rfl hq'.1 hq'.2
      show if _ then ∃ σ', exL (runF defs k) μ.length lb__law_is_bar_1 [some (I n), some (rU row), some (I s), some (I e), some (.tup (f.map oU)), some (I i), some (pU p), some (I q.1), some (I q.2), none] μ = some (R.Out.nx σ' μ) ∧ _ else exL (runF defs k) μ.length lb__law_is_bar_1 [some (I n), some (rU row), some (I s), some (I e), some (.tup (f.map oU)), some (I i), some (pU p), some (I q.1), some (I q.2), none] μ = some (R.Out.rt (.bl false) μ)
      cases hb : badO (f[q.1]?.getD none) (f[q.2]?.getD none) i with
      | true =>
        rw [hb] at c
        rw [if_neg (by simp)]
        exact ex_bad c ev_bl
      | false =>
        rw [hb] at c
        rw [if_pos (by simp)]
        exact ⟨_, (ex_seq ((ex_ifF c rfl).trans ex_nil)).trans ex_nil, _, _, rfl⟩)
    have e2 : exS (runF defs k) μ.length l__law_is_bar_1 [some (I n), some (rU row), some (I s), some (I e), some (.tup (f.map oU)), some (I i), some (pU p), y7, y8, none] μ = forL (fstep (runF defs k) μ.length (.tup [(.slot 7), (.slot 8)]) lb__law_is_bar_1) ([p, (p.2, p.1)].map pU) [some (I n), some (rU row), some (I s), some (I e), some (.tup (f.map oU)), some (I i), some (pU p), y7, y8, none] μ := by
      refine ex_for (us := [.tup ([p, (p.2, p.1)].map pU)]) (ev_l1 (ev_tup (ev_l2 (ev_var rfl) (ev_revT (xs := [I p.1, I p.2]) (ev_var rfl))) (show 2 ≤ SZ by decide))) rfl
    simp only [List.all_cons, List.all_nil, Bool.and_true] at t2
    split
    · rename_i h
      rw [if_pos h] at t2
      obtain ⟨σ', t2, z8, z9, rfl⟩ := t2
      exact ⟨_, (ex_seq (e2.trans t2)).trans ex_nil, _, _, _, _, rfl⟩
    · rename_i h
      rw [if_neg h] at t2
      have := e2.trans t2
      unfold lb__law_is_bar_3
      simp only [exL, this])
  unfold barB
  split
  · rename_i h
    rw [if_pos h] at t
    obtain ⟨σ', t, _⟩ := t
    exact ⟨σ', t⟩
  · rename_i h
    rw [if_neg h] at t
    exact t
theorem law_bar_ok (T : Town n es) (r : Row n es row) (hs : s < n) (he : e < n) {B d : Nat} (hB : B ≤ 1000) (hd : d ≤ 10) {v : U} (h : Pl B d v) : runF defs (k + 3) 34 [I n, rU row, I s, I e, v] μ = some (.bl (okBar n row s e v), μ) := by
  rw [run__law_is_bar]
  refine (if_pos rfl).trans (run_rt (μ1 := μ) (u := .bl (okBar n row s e v)) ?_ (fin_cut rfl (by simp)))
  unfold b__law_is_bar
  have s4 := sort_ne (k + 1) h μ μ.length (σ := [some (I n), some (rU row), some (I s), some (I e), some v, none, none, none, none, none]) (e := .var 4) (ev_var rfl) 4
  cases h with
  | @tup d xs hz h =>
    have s4' : evalE (runF defs (k + 2)) μ.length (.cmp .ne (.call 24 [.var 4]) (.int 4)) [some (I n), some (rU row), some (I s), some (I e), some (.tup xs), none, none, none, none, none] μ = some (.bl false, μ) := s4
    have ln : evalE (runF defs (k + 2)) μ.length (.cmp .ne (.bi .len [(.var 4)]) (.var 0)) [some (I n), some (rU row), some (I s), some (I e), some (.tup xs), none, none, none, none, none] μ = some (.bl (decide (xs.length ≠ n)), μ) := ev_cmp (u := I xs.length) (v := I n) (ev_bi (ev_l1 (ev_var rfl)) (by simp [evBi, cont])) (ev_var rfl) ne_I
    by_cases hl : xs.length = n
    · rw [decide_eq_false (by simpa using hl)] at ln
      have fc : evalE (runF defs (k + 2)) μ.length c__law_is_bar_0 [some (I n), some (rU row), some (I s), some (I e), some (.tup xs), none, none, none, none, none] μ = some (.lst (xs.filter fun u => !(R.isNon u || isW 0 (row.length : Int) u)), μ) := by
        have cf := compL_filter (step := cstep (runF defs (k + 2)) μ.length (.slot 9) (.bool true [(.cmp .isnot (.var 9) .non), (.not (.call 26 [(.var 9), (.int 0), (.bi .len [(.var 1)])]))]) (.var 9) [9] [some (I n), some (rU row), some (I s), some (I e), some (.tup xs), none, none, none, none, none]) (enc := id) (g := id) (p := fun u => !(R.isNon u || isW 0 (row.length : Int) u)) (μ := μ) (xs := xs) (acc := []) (fun u hu => ?_) (by simp; unfold SZ; omega)
        · rw [List.map_id, List.map_id] at cf
          exact (ev_comp (us := [.tup xs]) (μ1 := μ) (xs := xs) (ev_l1 (ev_var rfl)) rfl cf).trans rfl
        · have e1 : evalE (runF defs (k + 2)) μ.length (.bool true [(.cmp .isnot (.var 9) .non), (.not (.call 26 [(.var 9), (.int 0), (.bi .len [(.var 1)])]))]) [some (I n), some (rU row), some (I s), some (I e), some (.tup xs), none, none, none, none, some u] μ = some (.bl (!R.isNon u && !isW 0 (row.length : Int) u), μ) :=
            ev_and2 (ev_cmp (u := u) (ev_var rfl) ev_non rfl) (ev_not (ev_call (us := [u, .int 0, I row.length]) (ev_lcons (ev_var rfl) (ev_l2 ev_int (ev_bi (ev_l1 (ev_var rfl)) (by simp [evBi, cont])))) (law_whole_ok k μ (h u hu) 0 (row.length : Int))) rfl)
          rw [← Bool.not_or] at e1
          cases hh : (R.isNon u || isW 0 (row.length : Int) u) with
          | true => rw [hh] at e1; exact cs_no rfl e1 rfl
          | false => rw [hh] at e1; exact cs_if rfl e1 rfl (ev_var rfl)
      have fn : evalE (runF defs (k + 2)) μ.length (.cmp .ne c__law_is_bar_0 (.lst false [])) [some (I n), some (rU row), some (I s), some (I e), some (.tup xs), none, none, none, none, none] μ = some (.bl (!(xs.filter fun u => !(R.isNon u || isW 0 (row.length : Int) u)).isEmpty), μ) :=
        ev_cmp fc (ev_lst ev_lnil (show 0 ≤ SZ by decide)) (ne_nil μ (fun u hu => h u ((List.mem_filter.mp hu).1)) (by unfold D0; omega))
      have m := mapO_all (decB row.length) xs
      rw [show (xs.all fun x => (decB row.length x).isSome) = xs.all fun x => R.isNon x || isW 0 (row.length : Int) x by congr 1; funext x; exact decB_W row.length x] at m
      have em : (xs.filter fun u => !(R.isNon u || isW 0 (row.length : Int) u)).isEmpty = xs.all fun x => R.isNon x || isW 0 (row.length : Int) x := by
        rw [Bool.eq_iff_iff, List.isEmpty_iff, List.filter_eq_nil_iff, List.all_eq_true]
        constructor
        · intro z x hx
          have := z x hx
          rw [Bool.not_eq_true', Bool.not_eq_false] at this
          exact this
        · intro z x hx
          rw [z x hx]
          simp
      rw [em, ← m] at fn
      unfold okBar
      simp only [decF, if_pos hl]
      cases hm : mapO (decB row.length) xs with
      | none =>
        rw [hm] at fn
        exact ex_bad (ev_orF s4' (ev_orF ln (ev_b1 fn))) ev_bl
      | some f =>
        rw [hm] at fn
        have hx := decB_list hm
        subst hx
        simp only [List.length_map] at hl
        refine (ex_seq ((ex_ifF (ev_orF s4' (ev_orF ln (ev_b1 fn))) rfl).trans ex_nil)).trans ?_
        have en := ends_ev (cal := runF defs (k + 2)) (n0 := μ.length) (σ := [some (I n), some (rU row), some (I s), some (I e), some (.tup (f.map oU)), none, none, none, none, none]) (μ := μ) (f := f) (s := s) (e := e) rfl rfl rfl (by omega) (by omega)
        simp only [okF]
        cases hc : (decide (f[s]?.getD none = some 0) && decide (f[e]?.getD none = none)) with
        | false =>
          rw [hc] at en
          exact ex_bad en ev_bl
        | true =>
          rw [hc] at en
          refine (ex_seq ((ex_ifF en rfl).trans ex_nil)).trans ?_
          have lp := law_bar_loop (k + 2) μ (s := s) (e := e) T r hl
          cases hb : barB row f with
          | true =>
            rw [if_pos hb] at lp
            obtain ⟨σ', lp⟩ := lp
            exact (ex_seq lp).trans (ex_ret ev_bl)
          | false =>
            rw [if_neg (by rw [hb]; simp)] at lp
            simp only [exL, lp]
            rfl
    · rw [decide_eq_true (by simpa using hl)] at ln
      rw [show okBar n row s e (.tup xs) = false by simp only [okBar, decF, if_neg hl]]
      exact ex_bad (ev_orF s4' (ev_orT ln)) ev_bl
  | _ =>
    rw [show okBar n row s e _ = false from rfl]
    exact ex_bad (ev_orT s4) ev_bl
end
/-! ### the program's own papers are right -/
theorem mapO_decI {L : Nat} : ∀ {w : List Nat}, (∀ i ∈ w, i < L) → mapO (decI L) (w.map I) = some w
  | [], _ => rfl
  | i :: w, h => by
    have hi := h i (by simp)
    simp only [List.map_cons, mapO]
    rw [show decI L (I i) = some i by simp only [decI]; rw [if_pos (by omega)]; simp, mapO_decI fun j hj => h j (by simp [hj])]
theorem way_okWay {row : Row'} {s e : Nat} {w : List Nat} (W : Way row s e w) : okWay row s e (lU w) = true := by
  simp only [okWay, decW, mapO_decI W.lt]
  rw [(ascB_iff w).mpr W.asc, W.go]
  simp
theorem mapO_decB {L : Nat} : ∀ {f : List (Option Nat)}, (∀ t, some t ∈ f → t ≤ L) → mapO (decB L) (f.map oU) = some f
  | [], _ => rfl
  | o :: f, h => by
    have h2 := mapO_decB (L := L) (f := f) fun t ht => h t (by simp [ht])
    cases o with
    | none =>
      simp only [List.map_cons, mapO]
      rw [h2]
      rfl
    | some i =>
      have hi := h i (by simp)
      simp only [List.map_cons, mapO]
      rw [show decB L (I i) = some (some i) by simp only [decB]; rw [if_pos (by omega)]; simp, h2]
theorem ft_self (row : Row') (s : Nat) : ft row s s = some 0 := by
  obtain ⟨t, e, h⟩ := ft_le (row := row) (s := s) (h := s) (i := 0) (Nat.zero_le _) (by rw [List.take_zero]; exact k0_iff.mpr rfl)
  rw [e]
  congr 1
  omega
theorem kn_take_mono {row : Row'} {h s i j : Nat} (hij : i ≤ j) (z : kn (row.take i) h s = true) : kn (row.take j) h s = true := by
  induction j with
  | zero => rw [show i = 0 by omega] at z; exact z
  | succ j ih =>
    by_cases e : i = j + 1
    · rw [← e]; exact z
    · have := ih (by omega)
      by_cases hj : j < row.length
      · rw [List.take_add_one, List.getElem?_eq_getElem hj]
        exact kn_mono this
      · rw [List.take_of_length_le (by omega)]
        rw [List.take_of_length_le (by omega)] at this
        exact this
theorem ft_bad {row : Row'} {s i : Nat} {p : Nat × Nat} (hp : row[i]? = some p) : badO (ft row s p.1) (ft row s p.2) i = false ∧ badO (ft row s p.2) (ft row s p.1) i = false := by
  have hi := (List.getElem?_eq_some_iff.mp hp).1
  have tk : row.take (i + 1) = row.take i ++ [p] := by rw [List.take_add_one, hp]; rfl
  have key : ∀ a b : Nat, (kn (row.take i) a s = true → kn (row.take (i + 1)) b s = true) → badO (ft row s a) (ft row s b) i = false := fun a b h => by
    cases ea : ft row s a with
    | none => rfl
    | some x =>
      simp only [badO]
      by_cases hx : x ≤ i
      · have h1 := (ft_some ea).2
        have h2 := h (kn_take_mono hx h1)
        obtain ⟨t, et, ht⟩ := ft_le (by omega) h2
        rw [et]
        simp
        omega
      · rw [decide_eq_false hx]
        rfl
  rw [tk] at key
  exact ⟨key _ _ fun z => (kn_meet (.inl z)).2, key _ _ fun z => (kn_meet (.inr z)).1⟩
theorem ft_bar {n : Nat} {es row : Row'} {s e : Nat} (T : Town n es) (r : Row n es row) (hs : s < n) (he : e < n) (hf : ft row s e = none) : okBar n row s e (.tup ((List.range n).map fun h => oU (ft row s h))) = true := by
  have ev : ((List.range n).map fun h => oU (ft row s h)) = ((List.range n).map (ft row s)).map oU := by rw [List.map_map]; rfl
  rw [ev]
  have at' : ∀ {h : Nat}, h < n → ((List.range n).map (ft row s))[h]?.getD none = ft row s h := fun {h} hh => by
    rw [List.getElem?_map, List.getElem?_range hh]; rfl
  simp only [okBar, decF]
  rw [if_pos (by simp), mapO_decB (fun t ht => by
    obtain ⟨h, _, eh⟩ := List.mem_map.mp ht
    exact (ft_some eh).1)]
  simp only [okF, at' hs, at' he, ft_self, hf]
  simp only [decide_true, Bool.true_and]
  unfold barB
  rw [List.all_eq_true]
  rintro ⟨i, p⟩ hq
  have hp : row[i]? = some p := by
    obtain ⟨j, hj, ej⟩ := List.mem_iff_getElem.mp hq
    simp only [List.getElem_zip, List.getElem_range, Prod.mk.injEq] at ej
    obtain ⟨rfl, rfl⟩ := ej
    exact List.getElem?_eq_getElem _
  have hm := r.inN T p (List.mem_of_getElem? hp)
  simp only [at' hm.1, at' hm.2]
  rw [(ft_bad hp).1, (ft_bad hp).2]
  rfl
end K05

set_option Elab.async false
set_option linter.all false
set_option maxRecDepth 100000
set_option maxHeartbeats 4000000
namespace K05
open PySem L2 R
section
variable {n : Nat} {es row : Row'} {s e : Nat} {W V : U}
abbrev sR (n : Nat) (es row : Row') (s e : Nat) (W V : U) (x4 x5 x6 x7 x8 x9 : Option U) : R.Env := [some (.ob 0), some (tU n es), some (rU row), some (I n), x4, x5, x6, x7, x8, x9, some (I s), some (I e), some (oU (ft row s e)), some W, some V, none, none, none]
theorem papers_ok (k : Nat) (μ : Mu) (T : Town n es) (r : Row n es row) (hs : s < n) (he : e < n) : ∃ W V, runF defs (k + 8) 17 [tU n es, rU row, I s, I e] μ = some (W, μ) ∧ runF defs (k + 8) 18 [tU n es, rU row, I s, I e] μ = some (V, μ) ∧
    ((ft row s e = none ∧ W = .non ∧ V = .tup ((List.range n).map fun h => oU (ft row s h)) ∧ okBar n row s e V = true) ∨ (∃ te w, ft row s e = some te ∧ W = lU w ∧ Way row s e w ∧ (∀ j, w.getLast? = some j → j + 1 = te) ∧ V = .non)) := by
  have b := news_bar_ok k μ T r hs he
  obtain ⟨w1, w2⟩ := news_way_ok k μ T r hs he
  cases h : ft row s e with
  | none =>
    rw [if_pos h] at b
    exact ⟨_, _, w1 h, b, .inl ⟨rfl, rfl, rfl, ft_bar T r hs he h⟩⟩
  | some te =>
    rw [if_neg (by rw [h]; simp)] at b
    obtain ⟨w, e1, e2, e3⟩ := w2 te h
    exact ⟨_, _, e1, b, .inr ⟨te, w, rfl, rfl, e2, e3, rfl⟩⟩
theorem way_len {w : List Nat} (W : Way row s e w) : w.length ≤ row.length := nodup_lt (W.asc.imp fun h => by omega) W.lt
theorem atI_end (l : List Nat) (j : Nat) : atI ((l ++ [j]).map I) (-1) = some (I j) := by
  rw [List.map_append]
  exact atI_last _ _
/-- both papers are in order -/
theorem order_ok (k : Nat) (n0 : Nat) (μ : Mu) (T : Town n es) (r : Row n es row) (hr : row.length ≤ 20) (hs : s < n) (he : e < n) (P : (ft row s e = none ∧ W = .non ∧ V = .tup ((List.range n).map fun h => oU (ft row s h)) ∧ okBar n row s e V = true) ∨ (∃ te w, ft row s e = some te ∧ W = lU w ∧ Way row s e w ∧ (∀ j, w.getLast? = some j → j + 1 = te) ∧ V = .non)) {x4 x5 x6 x7 x8 x9 : Option U} :
    evalE (runF defs (k + 9)) n0 (.bool false [(.bool true [(.cmp .isnot (.var 13) .non), (.bool false [(.not (.call 33 [(.var 2), (.var 10), (.var 11), (.var 13)])), (.bool true [(.cmp .ne (.var 13) (.tup [])), (.cmp .lt (.bin false .add (.idx (.var 13) (.neg (.int 1))) (.int 1)) (.var 12))])])]), (.bool true [(.cmp .isnot (.var 14) .non), (.not (.call 34 [(.var 3), (.var 2), (.var 10), (.var 11), (.var 14)]))])]) (sR n es row s e W V x4 x5 x6 x7 x8 x9) μ = some (.bl false, μ) := by
  have hn := T.n12
  rcases P with ⟨hf, rfl, rfl, hb⟩ | ⟨te, w, hf, rfl, Wy, hl, rfl⟩
  · have pv : Pl 63 1 (.tup ((List.range n).map fun h => oU (ft row s h))) := .tup (by simp; omega) fun u hu => by
      obtain ⟨h, _, rfl⟩ := List.mem_map.mp hu
      cases ft row s h with
      | none => exact .non _
      | some t => exact .int _ _
    have jb := law_bar_ok (k + 6) μ T r hs he (by decide) (by decide) pv
    rw [hb] at jb
    refine ev_orF (μ1 := μ) (ev_andF (ev_cmp (ev_var rfl) ev_non rfl)) (ev_b1 ?_)
    refine ev_andT (μ1 := μ) (ev_cmp (u := .tup ((List.range n).map fun h => oU (ft row s h))) (d := true) (ev_var rfl) ev_non rfl) (ev_b1 ?_)
    exact ev_not (d := true) (ev_call (ev_lcons (ev_var rfl) (ev_lcons (ev_var rfl) (ev_lcons (ev_var rfl) (ev_l2 (ev_var rfl) (ev_var rfl))))) jb) rfl
  · have wl := way_len Wy
    have jw := law_way_ok (k + 6) μ (e := e) (s := s) T r (B := 63) (d := 1) (by decide) (by decide) (pl_ints (B := 63) (d := 0) (l := w) (by omega)).1
    rw [way_okWay Wy] at jw
    refine ev_orF (μ1 := μ) ?_ (ev_b1 (ev_andF (ev_cmp (ev_var rfl) ev_non rfl)))
    refine ev_andT (μ1 := μ) (ev_cmp (u := lU w) (d := true) (ev_var rfl) ev_non rfl) (ev_b1 ?_)
    refine ev_orF (μ1 := μ) (ev_not (d := true) (ev_call (us := [rU row, I s, I e, lU w]) (ev_lcons (ev_var rfl) (ev_lcons (ev_var rfl) (ev_l2 (ev_var rfl) (ev_var rfl)))) jw) rfl) (ev_b1 ?_)
    have ne : evalE (runF defs (k + 9)) n0 (.cmp .ne (.var 13) (.tup [])) (sR n es row s e (lU w) .non x4 x5 x6 x7 x8 x9) μ = some (.bl (!(w.map I).isEmpty), μ) := by
      refine ev_cmp (u := lU w) (ev_var rfl) (ev_tup ev_lnil (show 0 ≤ SZ by decide)) ?_
      have := eq_nilT μ (B := 63) (d := 0) (xs := w.map I) (fun u hu => by obtain ⟨p, _, rfl⟩ := List.mem_map.mp hu; exact .int _ _) (by decide)
      simp only [evCmp] at this ⊢
      rw [this]
      rfl
    rcases List.eq_nil_or_concat w with rfl | ⟨l, j, rfl⟩
    · exact ev_andF ne
    · rw [List.concat_eq_append] at ne hl ⊢
      have ne' : evalE (runF defs (k + 9)) n0 (.cmp .ne (.var 13) (.tup [])) (sR n es row s e (lU (l ++ [j])) .non x4 x5 x6 x7 x8 x9) μ = some (.bl true, μ) := by rw [ne]; simp
      refine ev_andT (μ1 := μ) ne' (ev_b1 ?_)
      have hj := hl j (by simp)
      have i1 : evalE (runF defs (k + 9)) n0 (.idx (.var 13) (.neg (.int 1))) (sR n es row s e (lU (l ++ [j])) .non x4 x5 x6 x7 x8 x9) μ = some (I j, μ) := ev_idxT (ev_var rfl) (ev_neg ev_int) (atI_end l j)
      have i2 : evalE (runF defs (k + 9)) n0 (.bin false .add (.idx (.var 13) (.neg (.int 1))) (.int 1)) (sR n es row s e (lU (l ++ [j])) .non x4 x5 x6 x7 x8 x9) μ = some (I (j + 1), μ) := ev_bin i1 ev_int rfl
      have i3 : evalE (runF defs (k + 9)) n0 (.var 12) (sR n es row s e (lU (l ++ [j])) .non x4 x5 x6 x7 x8 x9) μ = some (I te, μ) := ev_var (by show some (some (oU (ft row s e))) = _; rw [hf])
      have := ev_cmp (op := .lt) i2 i3 lt_I
      rw [this, decide_eq_false (by omega)]
theorem judge_ways (k n0 : Nat) (μ : Mu) (T : Town n es) (r : Row n es row) (hs : s < n) (he : e < n) {x4 x5 x6 x7 x9 : Option U} {xs : List U} (hx : ∀ u ∈ xs, Pl 63 1 u) (x8 : Option U) :
    ∃ y8, forL (fstep (runF defs (k + 9)) n0 (.slot 8) lb__law_right_2) xs (sR n es row s e W V x4 x5 x6 x7 x8 x9) μ = some (.nx (sR n es row s e W V x4 x5 x6 x7 y8 x9) μ) := by
  have t := forL_test (step := fstep (runF defs (k + 9)) n0 (.slot 8) lb__law_right_2) (p := fun _ => true) (Q := fun σ => ∃ y8, σ = sR n es row s e W V x4 x5 x6 x7 y8 x9) (μ := μ) (w := .non) (xs := xs) (σ := sR n es row s e W V x4 x5 x6 x7 x8 x9) ⟨x8, rfl⟩ (fun u hu σ hs' => by
    obtain ⟨y8, rfl⟩ := hs'
    rw [if_pos rfl]
    refine ⟨sR n es row s e W V x4 x5 x6 x7 (some u) x9, ?_, _, rfl⟩
    show exL (runF defs (k + 9)) n0 lb__law_right_2 (sR n es row s e W V x4 x5 x6 x7 (some u) x9) μ = _
    have j1 := is_way_ok (k + 1) μ T r hs he (show 63 ≤ 1000 by decide) (hx u hu)
    have j2 := law_way_ok (k + 6) μ (e := e) (s := s) T r (show 63 < 64 by decide) (by decide) (hx u hu)
    have j3 := like_pl (B := 63) (by decide) (Pl.bl 0 (okWay row s e u)) (k + 7) μ (by decide)
    refine (ex_seq ((ex_ifF (ev_not (d := true) (ev_call (ev_l2 (ev_call (ev_lcons (ev_var rfl) (ev_lcons (ev_var rfl) (ev_lcons (ev_var rfl) (ev_l2 (ev_var rfl) (ev_var rfl))))) j1) (ev_call (ev_lcons (ev_var rfl) (ev_lcons (ev_var rfl) (ev_l2 (ev_var rfl) (ev_var rfl)))) j2)) j3) rfl) rfl).trans ex_nil)).trans ex_nil)
  rw [if_pos (by simp)] at t
  obtain ⟨σ', t, y8, rfl⟩ := t
  exact ⟨y8, t⟩
theorem judge_bars (k n0 : Nat) (μ : Mu) (T : Town n es) (r : Row n es row) (hs : s < n) (he : e < n) {x4 x5 x6 x8 x9 : Option U} {xs : List U} (hl : xs.length ≤ 100) (hx : ∀ u ∈ xs, Pl 63 1 u) :
    evalE (runF defs (k + 9)) n0 c__law_right_7 (sR n es row s e W V x4 x5 x6 (some (.lst xs)) x8 x9) μ = some (.lst [], μ) := by
  have cf := compL_filter (step := cstep (runF defs (k + 9)) n0 (.slot 8) (.not (.call 25 [(.call 20 [(.var 1), (.var 2), (.var 10), (.var 11), (.var 8)]), (.call 34 [(.var 3), (.var 2), (.var 10), (.var 11), (.var 8)])])) (.var 8) [8] (sR n es row s e W V x4 x5 x6 (some (.lst xs)) x8 x9)) (enc := id) (g := id) (p := fun _ => false) (μ := μ) (xs := xs) (acc := []) (fun u hu => ?_) (by simp; unfold SZ; omega)
  · rw [List.map_id] at cf
    exact (ev_comp (us := [.lst xs]) (μ1 := μ) (xs := xs) (ev_l1 (ev_var rfl)) rfl cf).trans (by simp [R.fresh])
  · have j1 := is_bar_ok (k + 1) μ T r hs he (show 63 ≤ 1000 by decide) (hx u hu)
    have j2 := law_bar_ok (k + 6) μ T r hs he (show 63 ≤ 1000 by decide) (by decide) (hx u hu)
    have j3 := like_pl (B := 63) (by decide) (Pl.bl 0 (okBar n row s e u)) (k + 7) μ (by decide)
    exact cs_no (v := .bl false) rfl (ev_not (d := true) (ev_call (ev_l2 (ev_call (ev_lcons (ev_var rfl) (ev_lcons (ev_var rfl) (ev_lcons (ev_var rfl) (ev_l2 (ev_var rfl) (ev_var rfl))))) j1) (ev_call (ev_lcons (ev_var rfl) (ev_lcons (ev_var rfl) (ev_lcons (ev_var rfl) (ev_l2 (ev_var rfl) (ev_var rfl))))) j2)) j3) rfl) rfl
end
end K05

set_option Elab.async false
set_option linter.all false
set_option maxRecDepth 100000
set_option maxHeartbeats 4000000
namespace K05
open PySem L2 R
section
variable {n : Nat} {es row : Row'} {s e : Nat} {W V : U}
section
variable {cal : Nat → List U → Mu → Option (U × Mu)} {n0 : Nat} {σ : R.Env} {μ : Mu} {xs : List U} {a : Nat}
theorem ev_len2 (h2 : σ[2]? = some (some (rU row))) : evalE cal n0 (.bi .len [(.var 2)]) σ μ = some (I row.length, μ) := ev_bi (ev_l1 (ev_var h2)) (by simp [evBi, cont])
theorem ways_ev (h5 : σ[5]? = some (some (.tup xs))) (hl : xs.length ≤ 20) (hp : ∀ u ∈ xs, Pl 0 0 u) (h6 : σ[6]? = some (some (I a))) (h2 : σ[2]? = some (some (rU row))) :
    ∃ us, evalE cal n0 (.lst false [(.var 5), (.rev false (.var 5)), (.col false .list .ex [(.var 5)]), (.slc false (.var 5) (.int 1) .non), (.slc false (.var 5) .non (.neg (.int 1))), (.bin false .add (.var 5) (.tup [(.bi .len [(.var 2)])])), (.bin false .add (.bin false .add (.slc false (.var 5) .non (.var 6)) (.tup [(.int 0)])) (.slc false (.var 5) (.var 6) .non)), (.tup []), .non, (.tup [(.int 0)]), (.tup [(.bl true)]), (.tup [(.neg (.int 1))])]) σ μ = some (.lst us, μ) ∧ us.length = 12 ∧ ∀ u ∈ us, Pl 63 1 u := by
  have f5 : FlT cal n0 σ μ 20 (.var 5) := ft_var h5 hl hp
  have z : 20 + 1 ≤ SZ := by decide
  have z2 : 20 + 1 + 20 ≤ SZ := by decide
  have p1 := ft_one (cal := cal) (n0 := n0) (σ := σ) (μ := μ) (x := .bi .len [(.var 2)]) (ev_len2 h2) (.int _ _)
  have p2 := ft_one (cal := cal) (n0 := n0) (σ := σ) (μ := μ) (x := .int 0) ev_int (.int _ _)
  have p3 := ft_one (cal := cal) (n0 := n0) (σ := σ) (μ := μ) (x := .bl true) ev_bl (.bl _ _)
  have p4 := ft_one (cal := cal) (n0 := n0) (σ := σ) (μ := μ) (x := .neg (.int 1)) (ev_neg ev_int) (.int _ _)
  have s1 := f5.slc (lo := .int 1) (hi := .non) ev_int ev_non (l' := some 1) (h' := none) rfl rfl
  have s2 := f5.slc (lo := .non) (hi := .neg (.int 1)) ev_non (ev_neg ev_int) (l' := none) (h' := some (-1)) rfl rfl
  have s3 := f5.slc (lo := .non) (hi := .var 6) ev_non (ev_var h6) (l' := none) (h' := some (a : Int)) rfl rfl
  have s4 := f5.slc (lo := .var 6) (hi := .non) (ev_var h6) ev_non (l' := some (a : Int)) (h' := none) rfl rfl
  refine PlL.lst (pll (f5.pl (by decide)) (pll (f5.rev.pl (by decide)) (pll (f5.col (by decide)) (pll (s1.pl (by decide)) (pll (s2.pl (by decide)) (pll ((f5.add p1 z).pl (by decide)) (pll (((s3.add p2 z).add s4 z2).pl (by decide)) (pll (ft_nil.pl (by decide)) (pll (ple ev_non (.non _)) (pll (p2.pl (by decide)) (pll (p3.pl (by decide)) (pll (p4.pl (by decide)) pll_nil)))))))))))) (by decide)
theorem hours_pl : ∀ u ∈ (List.range n).map fun h => oU (ft row s h), Pl 0 0 u := fun u hu => by
  obtain ⟨h, _, rfl⟩ := List.mem_map.mp hu
  cases ft row s h with
  | none => exact .non _
  | some t => exact .int _ _
theorem bars_ev (hn : n ≤ 12) (h5 : σ[5]? = some (some (.tup xs))) (hl : xs.length ≤ 12) (hp : ∀ u ∈ xs, Pl 0 0 u) (h3 : σ[3]? = some (some (I n))) (h10 : σ[10]? = some (some (I s))) (h14 : σ[14]? = some (some V)) (hV : Pl 63 1 V) (hz : σ.length = 18) :
    ∃ us, evalE cal n0 (.lst false [(.var 5), (.var 14), (.col false .list .ex [(.var 5)]), (.slc false (.var 5) (.int 1) .non), (.bin false .add (.var 5) (.tup [.non])), .non, (.tup []), (.bin false .mul (.tup [(.int 0)]) (.var 3)), (.bin false .mul (.tup [.non]) (.var 3)), (.col false .tuple .ex [c__law_right_5])]) σ μ = some (.lst us, μ) ∧ us.length = 10 ∧ ∀ u ∈ us, Pl 63 1 u := by
  have f5 : FlT cal n0 σ μ 12 (.var 5) := ft_var h5 hl hp
  have z : 12 + 1 ≤ SZ := by decide
  have p1 := ft_one (cal := cal) (n0 := n0) (σ := σ) (μ := μ) (x := .non) ev_non (.non _)
  have p2 := ft_one (cal := cal) (n0 := n0) (σ := σ) (μ := μ) (x := .int 0) ev_int (.int _ _)
  have s1 := f5.slc (lo := .int 1) (hi := .non) ev_int ev_non (l' := some 1) (h' := none) rfl rfl
  have m1 := p2.mul (ev_var h3) (by omega) (by unfold SZ; omega)
  have m2 := p1.mul (ev_var h3) (by omega) (by unfold SZ; omega)
  have c : evalE cal n0 c__law_right_5 σ μ = some (.lst ((List.range n).map fun h => if h = s then U.int 0 else .non), μ) := by
    refine (ev_comp (us := [I n]) (μ1 := μ) (xs := (List.range n).map I) (ev_l1 (ev_var h3)) (walk_rng (by omega)) (compL_all (enc := I) (g := fun h => if h = s then U.int 0 else .non) (xs := List.range n) (fun h hh => cs_yes (σ' := (σ.set 15 none).set 15 (some (I h))) rfl ?_) (by simp; unfold SZ; omega))).trans rfl
    have e1 : evalE cal n0 (.cmp .eq (.var 15) (.var 10)) ((σ.set 15 none).set 15 (some (I h))) μ = some (.bl (decide (h = s)), μ) := ev_cmp (u := I h) (v := I s) (ev_var (by simp [hz])) (ev_var (by simp [h10])) eq_I
    by_cases h1 : h = s
    · rw [decide_eq_true h1] at e1
      rw [if_pos h1]
      exact ev_iteT e1 rfl ev_int
    · rw [decide_eq_false h1] at e1
      rw [if_neg h1]
      exact ev_iteF e1 rfl ev_non
  have pc : PlE cal n0 σ μ 63 1 (.col false .tuple .ex [c__law_right_5]) := ple (ev_col (us := [.lst ((List.range n).map fun h => if h = s then U.int 0 else .non)]) (xs := (List.range n).map fun h => if h = s then U.int 0 else .non) (ev_l1 c) rfl rfl) (.tup (by simp; omega) fun u hu => by
    obtain ⟨h, _, rfl⟩ := List.mem_map.mp hu
    split
    · exact .int _ _
    · exact .non _)
  refine PlL.lst (pll (f5.pl (by decide)) (pll (ple (ev_var h14) hV) (pll (f5.col (by decide)) (pll (s1.pl (by decide)) (pll ((f5.add p1 z).pl (by decide)) (pll (ple ev_non (.non _)) (pll (ft_nil.pl (by decide)) (pll (m1.pl (by omega)) (pll (m2.pl (by omega)) (pll pc pll_nil)))))))))) (by decide)
theorem owns_ev (h5 : σ[5]? = some (some (.tup xs))) (hl : xs.length ≤ 12) (hp : ∀ u ∈ xs, Pl 0 0 u) (h6 : σ[6]? = some (some (I a))) (h2 : σ[2]? = some (some (rU row))) (hz : σ.length = 18) :
    ∃ us, evalE cal n0 c__law_right_6 σ μ = some (.lst us, μ) ∧ us.length = 7 ∧ ∀ u ∈ us, Pl 63 1 u := by
  let own : List U := [.non, .int 0, .int 1, I row.length, .int ((row.length : Int) + 1), .int (-1), .bl true]
  have oe : evalE cal n0 (.tup [.non, (.int 0), (.int 1), (.bi .len [(.var 2)]), (.bin false .add (.bi .len [(.var 2)]) (.int 1)), (.neg (.int 1)), (.bl true)]) σ μ = some (.tup own, μ) :=
    ev_tup (us := own) (ev_lcons ev_non (ev_lcons ev_int (ev_lcons ev_int (ev_lcons (ev_len2 h2) (ev_lcons (ev_bin (ev_len2 h2) ev_int rfl) (ev_l2 (ev_neg ev_int) ev_bl)))))) (show 7 ≤ SZ by decide)
  have op : ∀ u ∈ own, Pl 0 0 u := fun u hu => by
    simp only [own, List.mem_cons, List.not_mem_nil, or_false] at hu
    rcases hu with rfl | rfl | rfl | rfl | rfl | rfl | rfl
    · exact .non _
    · exact .int _ _
    · exact .int _ _
    · exact .int _ _
    · exact .int _ _
    · exact .int _ _
    · exact .bl _ _
  obtain ⟨ys, μ', e1, rfl, yl, yp⟩ := compL_ex (step := cstep cal n0 (.slot 16) (.bl true) (.bin false .add (.bin false .add (.slc false (.var 5) .non (.var 6)) (.tup [(.var 16)])) (.slc false (.var 5) (.bin false .add (.var 6) (.int 1)) .non)) [16] σ) (Inv := fun m => m = μ) (P := fun _ y => Pl 63 1 y) (xs := own) (acc := []) (μ := μ) rfl (fun u hu m hm => by
    subst hm
    have f5 : FlT cal n0 ((σ.set 16 none).set 16 (some u)) m 12 (.var 5) := ft_var (by simp [h5]) hl hp
    have h6' : ((σ.set 16 none).set 16 (some u))[6]? = some (some (I a)) := by simp [h6]
    have p1 := ft_one (cal := cal) (n0 := n0) (σ := (σ.set 16 none).set 16 (some u)) (μ := m) (x := .var 16) (ev_var (by simp [hz])) (op u hu)
    have s3 := f5.slc (lo := .non) (hi := .var 6) ev_non (ev_var h6') (l' := none) (h' := some (a : Int)) rfl rfl
    have s4 := f5.slc (lo := .bin false .add (.var 6) (.int 1)) (hi := .non) (ev_bin (ev_var h6') ev_int rfl) ev_non (l' := some ((a : Int) + 1)) (h' := none) rfl rfl
    obtain ⟨y, ye, yp⟩ := ((s3.add p1 (show 12 + 1 ≤ SZ by decide)).add s4 (show 12 + 1 + 12 ≤ SZ by decide)).pl (B := 63) (d := 0) (by decide)
    exact ⟨y, m, cs_yes rfl ye, rfl, yp⟩) (show 0 + 7 ≤ SZ by decide)
  refine ⟨ys, (ev_comp (us := [.tup own]) (μ1 := μ') (xs := own) (ev_l1 oe) rfl e1).trans rfl, yl, fun u hu => ?_⟩
  obtain ⟨_, _, h⟩ := yp u hu
  exact h
end
theorem rolls_ok (k : Nat) {c : U} (C : Cup c) {σ : R.Env} (h0 : σ[0]? = some (some (.ob 0))) (h2 : σ[2]? = some (some (rU row))) (hr : row.length ≤ 20) (m : Nat) (hm : m ≤ 20) :
    ∃ (ns : List Int) (c' : U), evalE (runF defs (k + 1)) 1 (.comp false (.slot 17) .rng [(.int (m : Int))] (.bl true) (.call 22 [(.var 0), (.bin false .add (.bi .len [(.var 2)]) (.int 1))]) [17]) σ [c] = some (.lst (ns.map U.int), [c']) ∧ Cup c' ∧ ns.length = m := by
  obtain ⟨ys, μ', e1, ⟨c', rfl, C'⟩, yl, yp⟩ := compL_ex (step := cstep (runF defs (k + 1)) 1 (.slot 17) (.bl true) (.call 22 [(.var 0), (.bin false .add (.bi .len [(.var 2)]) (.int 1))]) [17] σ) (Inv := fun μ => ∃ c, μ = [c] ∧ Cup c) (P := fun _ y => ∃ i : Int, y = .int i) (xs := (List.range m).map I) (acc := []) (μ := [c]) ⟨c, rfl, C⟩ (fun x hx μ h => by
    obtain ⟨c, rfl, C⟩ := h
    obtain ⟨t, c1, et, ht, C1⟩ := roll_ok k [] C (many := row.length + 1) (by omega) (by omega)
    refine ⟨I t, [c1], cs_yes (σ' := (σ.set 17 none).set 17 (some x)) rfl (ev_call (us := [.ob 0, I (row.length + 1)]) (ev_l2 (ev_var (by simp [h0])) (ev_bin (ev_len2 (row := row) (by simp [h2])) ev_int rfl)) et), ⟨c1, rfl, C1⟩, _, rfl⟩) (by simp; unfold SZ; omega)
  have hi : ∃ ns : List Int, ys = ns.map U.int := by
    clear e1 yl
    induction ys with
    | nil => exact ⟨[], rfl⟩
    | cons y ys ih =>
      obtain ⟨ns, rfl⟩ := ih fun z hz => yp z (by simp [hz])
      obtain ⟨_, _, i, rfl⟩ := yp y (by simp)
      exact ⟨i :: ns, rfl⟩
  obtain ⟨ns, rfl⟩ := hi
  refine ⟨ns, c', (ev_comp (us := [I m]) (μ1 := [c]) (xs := (List.range m).map I) (ev_l1 ev_int) (walk_rng (by omega)) e1).trans rfl, C', by simpa using yl⟩
theorem set_ok (k : Nat) {c : U} (C : Cup c) {σ : R.Env} (h0 : σ[0]? = some (some (.ob 0))) (h2 : σ[2]? = some (some (rU row))) (hr : row.length ≤ 20) (m : Nat) (hm : m ≤ 20) :
    ∃ (xs : List U) (c' : U), evalE (runF defs (k + 1)) 1 (.col false .tuple .ex [(.sset false (.comp false (.slot 17) .rng [(.int (m : Int))] (.bl true) (.call 22 [(.var 0), (.bin false .add (.bi .len [(.var 2)]) (.int 1))]) [17]))]) σ [c] = some (.tup xs, [c']) ∧ Cup c' ∧ xs.length ≤ 20 ∧ ∀ u ∈ xs, Pl 0 0 u := by
  obtain ⟨ns, c', e1, C', hl⟩ := rolls_ok k C h0 h2 hr m hm
  refine ⟨(ssrt ns).map U.int, c', ev_col (us := [.lst ((ssrt ns).map U.int)]) (xs := (ssrt ns).map U.int) (ev_l1 (ev_sset e1 (by omega))) rfl rfl, C', by have := ssrt_len ns; simp; omega, fun u hu => ?_⟩
  obtain ⟨i, _, rfl⟩ := List.mem_map.mp hu
  exact .int _ _
theorem ft_back : R.isNon (oU (ft row.reverse e s)) = R.isNon (oU (ft row s e)) := by
  have a := @ft_none row.reverse e s
  have b := @ft_none row s e
  rw [kn_rev] at a
  have : ft row.reverse e s = none ↔ ft row s e = none := a.trans b.symm
  cases h1 : ft row.reverse e s <;> cases h2 : ft row s e
  · rfl
  · rw [h1, h2] at this; simp at this
  · rw [h1, h2] at this; simp at this
  · rfl
end
end K05

set_option Elab.async false
set_option linter.all false
set_option maxRecDepth 100000
set_option maxHeartbeats 4000000
namespace K05
open PySem L2 R
theorem right_ok (k : Nat) {c : U} (C : Cup c) {n : Nat} {es row : Row'} (T : Town n es) (r : Row n es row) (hl : row.length ≤ 20) : ∃ c', runF defs (k + 10) 36 [.ob 0, tU n es, rU row] [c] = some (.bl true, [c']) ∧ Cup c' := by
  have hn := T.n12
  have n1 := T.n1
  obtain ⟨s, c1, es1, hs, C1⟩ := roll_ok (k + 8) [] C (many := n) n1 (by omega)
  obtain ⟨e, c2, es2, he, C2⟩ := roll_ok (k + 8) [] C1 (many := n) n1 (by omega)
  obtain ⟨W, V, eW, eV, P⟩ := papers_ok (k + 1) [c2] T r hs he
  let nn : Option U := none
  have hW : R.isNon W = R.isNon (oU (ft row s e)) := by
    rcases P with ⟨hf, rfl, _⟩ | ⟨te, w, hf, rfl, _⟩ <;> rw [hf] <;> rfl
  have hV : R.isNon V = !R.isNon (oU (ft row s e)) := by
    rcases P with ⟨hf, _, rfl, _⟩ | ⟨te, w, hf, _, _, _, rfl⟩ <;> rw [hf] <;> rfl
  have pV : Pl 63 1 V := by
    rcases P with ⟨hf, _, rfl, _⟩ | ⟨te, w, hf, _, _, _, rfl⟩
    · exact .tup (by simp; omega) fun u hu => (hours_pl u hu).up (Nat.zero_le _) (Nat.zero_le _)
    · exact .non _
  -- what is told first
  let told : List U := [oU (ft row s e), .bl (R.isNon (oU (ft row s e))), .bl (!R.isNon (oU (ft row s e)))]
  have pt : Pl 63 1 (.lst told) := .lst (show 3 ≤ 63 by decide) fun u hu => by
    simp only [told, List.mem_cons, List.not_mem_nil, or_false] at hu
    rcases hu with rfl | rfl | rfl
    · cases ft row s e with
      | none => exact .non _
      | some t => exact .int _ _
    · exact .bl _ _
    · exact .bl _ _
  let F := oU (ft row.reverse e s)
  -- some
  have some5 : ∃ (xs : List U) (c3 : U), evalE (runF defs (k + 9)) 1 (.ite (.cmp .isnot (.var 13) .non) (.var 13) (.col false .tuple .ex [(.sset false c__law_right_0)])) (sR n es row s e W V (some F) nn nn nn nn nn) [c2] = some (.tup xs, [c3]) ∧ Cup c3 ∧ xs.length ≤ 20 ∧ ∀ u ∈ xs, Pl 0 0 u := by
    rcases P with ⟨hf, rfl, _⟩ | ⟨te, w, hf, rfl, Wy, _⟩
    · obtain ⟨xs, c3, e3, C3, l3, p3⟩ := set_ok (k + 8) C2 (σ := sR n es row s e .non V (some F) nn nn nn nn nn) rfl rfl hl 3 (by decide)
      exact ⟨xs, c3, ev_iteF (ev_cmp (d := false) (ev_var rfl) ev_non rfl) rfl e3, C3, l3, p3⟩
    · have := way_len Wy
      exact ⟨w.map I, c2, ev_iteT (ev_cmp (u := lU w) (d := true) (ev_var rfl) ev_non rfl) rfl (ev_var rfl), C2, by simp; omega, fun u hu => by
        obtain ⟨x, _, rfl⟩ := List.mem_map.mp hu
        exact .int _ _⟩
  obtain ⟨xs, c3, e5, C3, lx, px⟩ := some5
  obtain ⟨a, c4, e6, ha, C4⟩ := roll_ok (k + 8) [] C3 (many := xs.length + 1) (by omega) (by omega)
  obtain ⟨us, e7, lu, pu⟩ := ways_ev (cal := runF defs (k + 9)) (n0 := 1) (σ := sR n es row s e W V (some F) (some (.tup xs)) (some (I a)) nn nn nn) (μ := [c4]) (row := row) (a := a) rfl lx px rfl rfl
  obtain ⟨ys, c5, e8, C5, ly, py⟩ := set_ok (k + 8) C4 (σ := sR n es row s e W V (some F) (some (.tup xs)) (some (I a)) (some (.lst us)) nn nn) rfl rfl hl 2 (by decide)
  let vs : List U := us ++ [.tup ((List.range row.length).map I), .tup ys]
  have pvs : ∀ u ∈ vs, Pl 63 1 u := fun u hu => by
    rcases List.mem_append.mp hu with z | z
    · exact pu u z
    · simp only [List.mem_cons, List.not_mem_nil, or_false] at z
      rcases z with rfl | rfl
      · exact .tup (by simp; omega) fun v hv => by
          obtain ⟨x, _, rfl⟩ := List.mem_map.mp hv
          exact .int _ _
      · exact .tup (by omega) fun v hv => (py v hv).up (Nat.zero_le _) (Nat.zero_le _)
  obtain ⟨y8, e9⟩ := judge_ways (W := W) (V := V) k 1 [c5] T r hs he (x4 := some F) (x5 := some (.tup xs)) (x6 := some (I a)) (x7 := some (.lst vs)) (x9 := nn) pvs nn
  obtain ⟨b, c6, e10, hb, C6⟩ := roll_ok (k + 8) [] C5 (many := n) n1 (by omega)
  let hrs : List U := (List.range n).map fun h => oU (ft row s h)
  have lh : hrs.length ≤ 12 := by simp [hrs]; omega
  obtain ⟨bs, e11, lb, pb⟩ := bars_ev (cal := runF defs (k + 9)) (n0 := 1) (σ := sR n es row s e W V (some F) (some (.tup hrs)) (some (I b)) (some (.lst vs)) y8 (some (.lst hrs))) (μ := [c6]) (xs := hrs) (V := V) (s := s) hn rfl lh (hours_pl (row := row)) rfl rfl rfl pV rfl
  obtain ⟨os, e12, lo, po⟩ := owns_ev (cal := runF defs (k + 9)) (n0 := 1) (σ := sR n es row s e W V (some F) (some (.tup hrs)) (some (I b)) (some (.lst bs)) y8 (some (.lst hrs))) (μ := [c6]) (row := row) (xs := hrs) (a := b) rfl lh (hours_pl (row := row)) rfl rfl rfl
  have j := judge_bars (W := W) (V := V) k 1 [c6] T r hs he (x4 := some F) (x5 := some (.tup hrs)) (x6 := some (I b)) (x8 := y8) (x9 := some (.lst hrs)) (xs := bs ++ os) (by simp; omega) (fun u hu => (List.mem_append.mp hu).elim (pb u) (po u))
  refine ⟨c6, ?_, C6⟩
  rw [run__law_right]
  have bd : exL (runF defs (k + 9)) 1 b__law_right [some (.ob 0), some (tU n es), some (rU row), nn, nn, nn, nn, nn, nn, nn, nn, nn, nn, nn, nn, nn, nn, nn] [c] = some (.rt (.bl true) [c6]) := by
    unfold b__law_right
    refine (ex_seq (ex_set (u := I n) (μ' := [c]) (ev_idxT (ev_var rfl) ev_int (atI_of (j := 0) rfl)))).trans ?_
    refine (ex_seq (ex_asg (u := .tup [I s, I e]) (μ' := [c2]) (σ' := [some (.ob 0), some (tU n es), some (rU row), some (I n), nn, nn, nn, nn, nn, nn, some (I s), some (I e), nn, nn, nn, nn, nn, nn]) (ev_tup (us := [I s, I e]) (ev_l2 (ev_call (us := [.ob 0, I n]) (ev_l2 (ev_var rfl) (ev_var rfl)) es1) (ev_call (us := [.ob 0, I n]) (ev_l2 (ev_var rfl) (ev_var rfl)) es2)) (show 2 ≤ SZ by decide)) rfl)).trans ?_
    refine (ex_seq (ex_par (us := [oU (ft row s e), W, V]) (μ' := [c2]) (σ' := sR n es row s e W V nn nn nn nn nn nn) (ev_lcons (ev_call (us := [I n, rU row, I s, I e]) (ev_lcons (ev_var rfl) (ev_lcons (ev_var rfl) (ev_l2 (ev_var rfl) (ev_var rfl)))) (law_first_ok (k + 7) [c2] T r hs he)) (ev_l2 (ev_call (us := [tU n es, rU row, I s, I e]) (ev_lcons (ev_var rfl) (ev_lcons (ev_var rfl) (ev_l2 (ev_var rfl) (ev_var rfl)))) eW) (ev_call (us := [tU n es, rU row, I s, I e]) (ev_lcons (ev_var rfl) (ev_lcons (ev_var rfl) (ev_l2 (ev_var rfl) (ev_var rfl)))) eV))) rfl)).trans ?_
    have i13 : evalE (runF defs (k + 9)) 1 (.cmp .is_ (.var 13) .non) (sR n es row s e W V nn nn nn nn nn nn) [c2] = some (.bl (R.isNon (oU (ft row s e))), [c2]) := ev_cmp (u := W) (ev_var rfl) ev_non (by rw [← hW]; rfl)
    have i14 : evalE (runF defs (k + 9)) 1 (.cmp .is_ (.var 14) .non) (sR n es row s e W V nn nn nn nn nn nn) [c2] = some (.bl (!R.isNon (oU (ft row s e))), [c2]) := ev_cmp (u := V) (ev_var rfl) ev_non (by rw [← hV]; rfl)
    have j1 := like_pl (B := 63) (by decide) pt (k + 6) [c2] (by decide)
    refine (ex_seq ((ex_ifF (ev_not (d := true) (ev_call (us := [.lst told, .lst told]) (ev_l2 (ev_lst (us := told) (ev_lcons (ev_call (us := [tU n es, rU row, I s, I e]) (ev_lcons (ev_var rfl) (ev_lcons (ev_var rfl) (ev_l2 (ev_var rfl) (ev_var rfl)))) (first_known_ok (k + 1) [c2] T r hs he)) (ev_l2 i13 i14)) (show 3 ≤ SZ by decide)) (ev_lst (us := told) (ev_lcons (ev_var rfl) (ev_l2 (ev_cmp (u := oU (ft row s e)) (ev_var rfl) ev_non rfl) (ev_cmp (u := oU (ft row s e)) (ev_var rfl) ev_non rfl))) (show 3 ≤ SZ by decide))) j1) rfl) rfl).trans ex_nil)).trans ?_
    refine (ex_seq ((ex_ifF (order_ok k 1 [c2] T r hl hs he P) rfl).trans ex_nil)).trans ?_
    refine (ex_seq (ex_set (u := F) (μ' := [c2]) (ev_call (us := [tU n es, rU row.reverse, I e, I s]) (ev_lcons (ev_var rfl) (ev_lcons (ev_call (us := [tU n es, rU row]) (ev_l2 (ev_var rfl) (ev_var rfl)) (turned_ok (k + 2) [c2] T r)) (ev_l2 (ev_var rfl) (ev_var rfl)))) (first_known_ok (k + 1) [c2] T r.rev he hs)))).trans ?_
    show exL (runF defs (k + 9)) 1 _ (sR n es row s e W V (some F) nn nn nn nn nn) [c2] = _
    have c4e : evalE (runF defs (k + 9)) 1 (.cmp .ne (.cmp .is_ (.var 4) .non) (.cmp .is_ (.var 12) .non)) (sR n es row s e W V (some F) nn nn nn nn nn) [c2] = some (.bl false, [c2]) := by
      refine ev_cmp (u := .bl (R.isNon F)) (v := .bl (R.isNon (oU (ft row s e)))) (ev_cmp (u := F) (ev_var rfl) ev_non rfl) (ev_cmp (u := oU (ft row s e)) (ev_var rfl) ev_non rfl) ?_
      rw [show R.isNon F = R.isNon (oU (ft row s e)) from ft_back]
      cases R.isNon (oU (ft row s e)) <;> rfl
    refine (ex_seq ((ex_ifF c4e rfl).trans ex_nil)).trans ?_
    refine (ex_seq (ex_set e5)).trans ?_
    show exL (runF defs (k + 9)) 1 _ (sR n es row s e W V (some F) (some (.tup xs)) nn nn nn nn) [c3] = _
    refine (ex_seq (ex_set (u := I a) (μ' := [c4]) (ev_call (us := [.ob 0, I (xs.length + 1)]) (ev_l2 (ev_var rfl) (ev_bin (u := I xs.length) (ev_bi (ev_l1 (ev_var rfl)) (by simp [evBi, cont])) ev_int rfl)) e6))).trans ?_
    show exL (runF defs (k + 9)) 1 _ (sR n es row s e W V (some F) (some (.tup xs)) (some (I a)) nn nn nn) [c4] = _
    refine (ex_seq (ex_set e7)).trans ?_
    show exL (runF defs (k + 9)) 1 _ (sR n es row s e W V (some F) (some (.tup xs)) (some (I a)) (some (.lst us)) nn nn) [c4] = _
    refine (ex_seq (ex_set (u := .lst vs) (μ' := [c5]) (ev_addL (ys := [.tup ((List.range row.length).map I), .tup ys]) (ev_var rfl) (ev_lst (us := [.tup ((List.range row.length).map I), .tup ys]) (ev_l2 (ev_col (us := [I row.length]) (xs := (List.range row.length).map I) (ev_l1 (ev_len2 rfl)) ?_ rfl) e8) (show 2 ≤ SZ by decide)) (by rw [lu]; exact (show 12 + 2 ≤ SZ by decide))))).trans ?_
    · simp only [items]
      rw [if_pos (by omega), rgn_nat]
    show exL (runF defs (k + 9)) 1 _ (sR n es row s e W V (some F) (some (.tup xs)) (some (I a)) (some (.lst vs)) nn nn) [c5] = _
    refine (ex_seq (((show exS _ _ l__law_right_2 _ _ = _ from ex_for (us := [.lst vs]) (xs := vs) (μ1 := [c5]) (ev_l1 (ev_var rfl)) rfl).trans e9))).trans ?_
    have ch : evalE (runF defs (k + 9)) 1 c__law_right_4 (sR n es row s e W V (some F) (some (.tup xs)) (some (I a)) (some (.lst vs)) y8 nn) [c5] = some (.lst hrs, [c5]) := by
      refine (ev_comp (us := [I n]) (μ1 := [c5]) (xs := (List.range n).map I) (ev_l1 (ev_var rfl)) (walk_rng (by omega)) (compL_all (enc := I) (g := fun h => oU (ft row s h)) (xs := List.range n) (fun h hh => cs_yes rfl (ev_call (us := [I n, rU row, I s, I h]) (ev_lcons (ev_var rfl) (ev_lcons (ev_var rfl) (ev_l2 (ev_var rfl) (ev_var rfl)))) (law_first_ok (k + 7) [c5] T r hs (by simpa using hh)))) (by simp; unfold SZ; omega))).trans rfl
    refine (ex_seq (ex_set ch)).trans ?_
    refine (ex_seq (ex_set (u := .tup hrs) (μ' := [c5]) (ev_col (us := [.lst hrs]) (xs := hrs) (ev_l1 (ev_var rfl)) rfl rfl))).trans ?_
    refine (ex_seq (ex_set (u := I b) (μ' := [c6]) (ev_call (us := [.ob 0, I n]) (ev_l2 (ev_var rfl) (ev_var rfl)) e10))).trans ?_
    refine (ex_seq (ex_set e11)).trans ?_
    show exL (runF defs (k + 9)) 1 _ (sR n es row s e W V (some F) (some (.tup hrs)) (some (I b)) (some (.lst bs)) y8 (some (.lst hrs))) [c6] = _
    refine (ex_seq (ex_set (u := .lst (bs ++ os)) (μ' := [c6]) (ev_addL (ev_var rfl) e12 (by rw [lb, lo]; decide)))).trans ?_
    refine ex_ret (ev_cmp (u := .lst []) (v := .lst []) (μ1 := [c6]) j (ev_lst ev_lnil (show 0 ≤ SZ by decide)) rfl)
  exact (if_pos rfl).trans (run_rt bd (fin_cut rfl rfl))
end K05

set_option Elab.async false
set_option linter.all false
set_option maxRecDepth 100000
set_option maxHeartbeats 4000000
namespace K05
open PySem L2 R
/-! ### first times, quickly -/
def ftS (f : List (Option Nat)) (i : Nat) (p : Nat × Nat) : List (Option Nat) := match f[p.1]?.getD none, f[p.2]?.getD none with
  | none, some _ => f.set p.1 (some (i + 1))
  | some _, none => f.set p.2 (some (i + 1))
  | _, _ => f
def ftG : List (Option Nat) → Nat → Row' → List (Option Nat)
  | f, _, [] => f
  | f, i, p :: row => ftG (ftS f i p) (i + 1) row
def ftF (n s : Nat) (row : Row') : List (Option Nat) := ftG ((List.range n).map fun h => if h = s then some 0 else none) 0 row
theorem ftG_snoc (p : Nat × Nat) : ∀ (row : Row') (f : List (Option Nat)) (i : Nat), ftG f i (row ++ [p]) = ftS (ftG f i row) (i + row.length) p
  | [], f, i => rfl
  | q :: row, f, i => by
    simp only [List.cons_append, ftG]
    rw [ftG_snoc p row, List.length_cons, show i + (row.length + 1) = i + 1 + row.length by omega]
theorem ftS_len (f : List (Option Nat)) (i : Nat) (p : Nat × Nat) : (ftS f i p).length = f.length := by
  unfold ftS
  split <;> simp
theorem ftF_ok {n s : Nat} (row : Row') (hr : InN n row) : (ftF n s row).length = n ∧ ∀ h, h < n → (ftF n s row)[h]?.getD none = ft row s h := by
  induction row using snoc_ind with
  | h0 =>
    refine ⟨by simp [ftF, ftG], fun h hh => ?_⟩
    simp only [ftF, ftG]
    rw [List.getElem?_map, List.getElem?_range hh]
    simp only [Option.map_some, Option.getD_some, ft, List.length_nil, Nat.zero_add, List.range_one, List.find?_cons, List.find?_nil, List.take_nil]
    by_cases e : h = s
    · rw [if_pos e, show kn [] h s = true from k0_iff.mpr e]
    · rw [if_neg e, show kn [] h s = false by
        cases z : kn [] h s with
        | false => rfl
        | true => exact absurd (k0_iff.mp z) e]
  | h1 row p ih =>
    obtain ⟨r1, r2, r3⟩ := hr.snoc
    obtain ⟨hl, hf⟩ := ih r1
    have e : ftF n s (row ++ [p]) = ftS (ftF n s row) row.length p := by
      unfold ftF
      rw [ftG_snoc, Nat.zero_add]
    rw [e]
    refine ⟨by rw [ftS_len, hl], fun h hh => ?_⟩
    have f1 := hf p.1 r2
    have f2 := hf p.2 r3
    have fh := hf h hh
    rw [ft_snoc]
    have kt : ∀ x, kn row x s = true ↔ ft row s x ≠ none := fun x => by
      have := @ft_none row s x
      rw [Ne, this]
      simp
    have nw : ft row s h = none → (kn (row ++ [p]) h s = true ↔ (h = p.1 ∧ ft row s p.2 ≠ none) ∨ (h = p.2 ∧ ft row s p.1 ≠ none)) := fun hn => by
      constructor
      · intro z
        have := kn_new z (fun w => (kt h).mp w hn)
        rw [kt, kt] at this
        exact this
      · rintro (⟨rfl, z⟩ | ⟨rfl, z⟩)
        · exact (kn_meet (.inr ((kt _).mpr z))).1
        · exact (kn_meet (.inl ((kt _).mpr z))).2
    have set' : ∀ (j : Nat) (v : Option Nat), j < n → ((ftF n s row).set j v)[h]?.getD none = if j = h then v else ft row s h := fun j v hj => by
      rw [List.getElem?_set]
      by_cases c : j = h
      · rw [if_pos c, if_pos c, if_pos (by omega)]
        rfl
      · rw [if_neg c, if_neg c]
        exact fh
    unfold ftS
    rw [f1, f2]
    cases e1 : ft row s p.1 with
    | none =>
      cases e2 : ft row s p.2 with
      | none =>
        simp only
        rw [fh]
        cases e3 : ft row s h with
        | some t => rfl
        | none =>
          simp only
          have := nw e3
          rw [e1, e2] at this
          simp only [ne_eq, not_true_eq_false, and_false, or_self, iff_false] at this
          rw [if_neg this]
      | some t2 =>
        simp only
        rw [set' _ _ r2]
        by_cases c : p.1 = h
        · rw [if_pos c, ← c, e1]
          simp only
          rw [if_pos (c ▸ (nw (c ▸ e1)).mpr (.inl ⟨c.symm, by rw [e2]; simp⟩))]
        · rw [if_neg c]
          cases e3 : ft row s h with
          | some t => rfl
          | none =>
            simp only
            have := nw e3
            rw [e1] at this
            simp only [ne_eq, not_true_eq_false, and_false, or_false] at this
            rw [if_neg fun z => c (this.mp z).1.symm]
    | some t1 =>
      cases e2 : ft row s p.2 with
      | none =>
        simp only
        rw [set' _ _ r3]
        by_cases c : p.2 = h
        · rw [if_pos c, ← c, e2]
          simp only
          rw [if_pos (c ▸ (nw (c ▸ e2)).mpr (.inr ⟨c.symm, by rw [e1]; simp⟩))]
        · rw [if_neg c]
          cases e3 : ft row s h with
          | some t => rfl
          | none =>
            simp only
            have := nw e3
            rw [e2] at this
            simp only [ne_eq, not_true_eq_false, and_false, false_or] at this
            rw [if_neg fun z => c (this.mp z).1.symm]
      | some t2 =>
        simp only
        rw [fh]
        cases e3 : ft row s h with
        | some t => rfl
        | none =>
          simp only
          rw [if_neg fun z => ?_]
          rcases (nw e3).mp z with ⟨rfl, _⟩ | ⟨rfl, _⟩
          · rw [e1] at e3; cases e3
          · rw [e2] at e3; cases e3
/-! ### lines -/
def rnd (n : Nat) : Row' := ((List.replicate 20 (lineE n)).flatten).take 200
def barL (n : Nat) : List (Option Nat) := List.replicate (n - 2) none ++ [some (n - 1), some 0]
def okG (n : Nat) : Bool :=
  decide ((ftF n 0 (lineE n))[n - 1]?.getD none = some (n - 1)) && decide ((ftF n (n - 1) (lineE n))[0]?.getD none = none) && decide ((ftF n (n - 1) (lineE n).reverse)[0]?.getD none = some (n - 1))
  && ((List.range (min (n - 1) ((rnd n).length / (n - 1)))).all fun q => decide ((ftF n (n - 1) (rnd n))[n - 1 - (q + 1)]?.getD none = some (q * (n - 1) + (n - 1) - (q + 1) + 1)))
  && decide ((ftF n 0 (rnd n))[n - 1]?.getD none = some (n - 1)) && okF (lineE n) (n - 1) 0 (barL n)
def okT (n : Nat) : Bool := (lineE n).all (fun p => decide (p.1 < p.2) && decide (p.2 < n)) && decide ((lineE n).Pairwise lex)
theorem okT_all : ∀ n, n < 13 → okT n = true := by decide +kernel
theorem okG_all : ∀ n, n < 13 → 3 ≤ n → okG n = true := by decide +kernel
theorem line_town {n : Nat} (h1 : 1 ≤ n) (hn : n ≤ 12) : Town n (lineE n) := by
  have h := okT_all n (by omega)
  unfold okT at h
  simp only [Bool.and_eq_true, List.all_eq_true, decide_eq_true_eq] at h
  obtain ⟨a, c⟩ := h
  exact ⟨h1, hn, by simp [lineE]; omega, a, c⟩
theorem asc_range : ∀ (m : Nat) {w : List Nat}, w.Pairwise (· < ·) → (∀ i ∈ w, i < m) → m ≤ w.length → w = List.range m
  | 0, w, _, h, _ => by
    cases w with
    | nil => rfl
    | cons a w => exact absurd (h a (by simp)) (by omega)
  | m + 1, w, hp, h, hl => by
    rcases List.eq_nil_or_concat w with rfl | ⟨l, j, rfl⟩
    · simp at hl
    · rw [List.concat_eq_append] at hp h hl ⊢
      obtain ⟨p1, _, p3⟩ := List.pairwise_append.mp hp
      have hj := h j (by simp)
      have hlt : ∀ i ∈ l, i < j := fun i hi => p3 i hi j (by simp)
      have ih := asc_range m p1 (fun i hi => by have := hlt i hi; omega) (by simp at hl; omega)
      rw [ih, List.range_succ]
      have : j = m := by
        cases m with
        | zero => omega
        | succ m =>
          have := hlt m (by rw [ih]; simp)
          omega
      rw [this]
theorem go_far {row : Row'} (hr : ∀ p ∈ row, p.2 = p.1 + 1) : ∀ (w : List Nat) {s e : Nat}, go row s w = some e → e ≤ s + w.length
  | [], s, e, h => by simp only [K05.go, Option.some.injEq] at h; simp; omega
  | i :: w, s, e, h => by
    simp only [K05.go] at h
    cases hp : row[i]? with
    | none => rw [hp] at h; cases h
    | some p =>
      rw [hp] at h
      have := hr p (List.mem_of_getElem? hp)
      simp only at h
      split at h
      · have := go_far hr w h
        simp
        omega
      · split at h
        · have := go_far hr w h
          simp
          omega
        · cases h
theorem line_way {n : Nat} {w : List Nat} (h1 : 1 ≤ n) (W : Way (lineE n) 0 (n - 1) w) : w = List.range (n - 1) := by
  have l : (lineE n).length = n - 1 := by simp [lineE]
  refine asc_range (n - 1) W.asc (fun i hi => by have := W.lt i hi; omega) ?_
  have := go_far (row := lineE n) (fun p hp => by
    obtain ⟨i, _, rfl⟩ := List.mem_map.mp hp
    rfl) w W.go
  omega
end K05

set_option Elab.async false
set_option linter.all false
set_option maxRecDepth 100000
set_option maxHeartbeats 4000000
namespace K05
open PySem L2 R
theorem ft_at {n s h : Nat} {row : Row'} (hr : InN n row) (hh : h < n) : ft row s h = (ftF n s row)[h]?.getD none := ((ftF_ok row hr).2 h hh).symm
theorem barL_ok {n : Nat} (h3 : 3 ≤ n) (hg : okF (lineE n) (n - 1) 0 (barL n) = true) : okBar n (lineE n) (n - 1) 0 (.tup ((barL n).map oU)) = true := by
  simp only [okBar, decF]
  rw [if_pos (by simp [barL]; omega), mapO_decB (fun t ht => by
    have : (lineE n).length = n - 1 := by simp [lineE]
    simp only [barL, List.mem_append, List.mem_replicate, List.mem_cons, List.not_mem_nil, or_false] at ht
    rcases ht with ⟨_, h⟩ | h | h
    · cases h
    · injection h; omega
    · injection h; omega)]
  exact hg
theorem great_ok (k : Nat) {c : U} (C : Cup c) : ∃ c', runF defs (k + 10) 37 [.ob 0] [c] = some (.bl true, [c']) := by
  obtain ⟨r, c1, er, hr, C1⟩ := roll_ok (k + 8) [] C (many := 10) (by omega) (by omega)
  generalize hnn : 3 + r = n
  have h3 : 3 ≤ n := by omega
  have hn : n ≤ 12 := by omega
  have T := line_town (n := n) (by omega) hn
  have g := okG_all n (by omega) h3
  unfold okG at g
  simp only [Bool.and_eq_true, decide_eq_true_eq, List.all_eq_true] at g
  obtain ⟨⟨⟨⟨⟨g1, g2⟩, g3⟩, g4⟩, g5⟩, g6⟩ := g
  have g6 := barL_ok h3 g6
  have way := @line_way n
  have lr : (rnd n).length = min 200 (20 * (n - 1)) := by
    simp [rnd, lineE]
    omega
  have ll : (lineE n).length = n - 1 := by simp [lineE]
  have mrnd : ∀ p ∈ rnd n, p ∈ lineE n := fun p hp => by
    obtain ⟨l, hl, z⟩ := List.mem_flatten.mp (List.mem_of_mem_take hp)
    rw [List.eq_of_mem_replicate hl] at z
    exact z
  have hrnd : rnd n = ((List.replicate 20 (lineE n)).flatten).take 200 := rfl
  have hle := line_ok (k + 8) [c1] (n := n) (by omega) hn
  generalize hL : lineE n = L at T g1 g2 g3 g6 way ll mrnd hrnd hle
  generalize hM : rnd n = M at g4 g5 lr mrnd hrnd
  have r0 : Row n L L := ⟨fun p h => h, by omega⟩
  have rM : Row n L M := ⟨mrnd, by omega⟩
  rw [← ft_at (r0.inN T) (by omega)] at g1
  rw [← ft_at (r0.inN T) (by omega)] at g2
  rw [← ft_at (r0.rev.inN T) (by omega)] at g3
  rw [← ft_at (rM.inN T) (by omega)] at g5
  have dv : 1 ≤ M.length / (n - 1) := by
    rw [Nat.le_div_iff_mul_le (by omega), lr]
    omega
  obtain ⟨q, c2, eq, hq, C2⟩ := roll_ok (k + 8) [] C1 (many := min (n - 1) (M.length / (n - 1))) (by omega) (by omega)
  have hq1 : q < n - 1 := by omega
  have g4 := g4 q (by simpa using hq)
  rw [← ft_at (rM.inN T) (by omega)] at g4
  generalize hd : q * (n - 1) + (n - 1) - (q + 1) + 1 = due at g4
  obtain ⟨w, w1, w2, _⟩ := (news_way_ok (k + 1) [c1] T r0 (s := 0) (e := n - 1) (by omega) (by omega)).2 _ g1
  have hw := way (by omega) w2
  rw [hw] at w1
  have q1 := first_known_ok (k + 1) [c1] T r0 (s := 0) (e := n - 1) (by omega) (by omega)
  rw [g1] at q1
  have q3 := first_known_ok (k + 1) [c1] T r0 (s := n - 1) (e := 0) (by omega) (by omega)
  rw [g2] at q3
  have q4 := first_known_ok (k + 1) [c1] T r0.rev (s := n - 1) (e := 0) (by omega) (by omega)
  rw [g3] at q4
  have q5 := news_bar_ok (k + 1) [c1] T r0 (s := 0) (e := n - 1) (by omega) (by omega)
  rw [if_neg (by rw [g1]; simp)] at q5
  have p1 := first_known_ok (k + 1) [c2] T rM (s := n - 1) (e := n - 1 - (q + 1)) (by omega) (by omega)
  rw [g4] at p1
  have p2 := first_known_ok (k + 1) [c2] T rM (s := 0) (e := n - 1) (by omega) (by omega)
  rw [g5] at p2
  have pb : Pl 63 1 (.tup ((barL n).map oU)) := .tup (by simp [barL]; omega) fun u hu => by
    obtain ⟨o, _, rfl⟩ := List.mem_map.mp hu
    cases o with
    | none => exact .non _
    | some t => exact .int _ _
  have p3 := is_bar_ok (k + 1) [c2] T r0 (s := n - 1) (e := 0) (by omega) (by omega) (by decide) pb
  rw [g6] at p3
  let told : List U := [I (n - 1), lU (List.range (n - 1)), .non, I (n - 1), .non]
  have pt : Pl 63 2 (.lst told) := .lst (show 5 ≤ 63 by decide) fun u hu => by
    simp only [told, List.mem_cons, List.not_mem_nil, or_false] at hu
    rcases hu with rfl | rfl | rfl | rfl | rfl
    · exact .int _ _
    · exact (pl_ints (B := 63) (d := 0) (by simp; omega)).1
    · exact .non _
    · exact .int _ _
    · exact .non _
  let told2 : List U := [I due, I (n - 1), .bl true]
  have pt2 : Pl 63 1 (.lst told2) := .lst (show 3 ≤ 63 by decide) fun u hu => by
    simp only [told2, List.mem_cons, List.not_mem_nil, or_false] at hu
    rcases hu with rfl | rfl | rfl
    · exact .int _ _
    · exact .int _ _
    · exact .bl _ _
  let nn : Option U := none
  let σ : Option U → Option U → Option U → Option U → R.Env := fun x3 x4 x5 x6 => [some (.ob 0), some (I n), some (tU n L), x3, x4, x5, x6, some (rU L), some (I (n - 1))]
  refine ⟨c2, ?_⟩
  rw [run__law_great_right]
  have b : exL (runF defs (k + 9)) 1 b__law_great_right [some (.ob 0), nn, nn, nn, nn, nn, nn, nn, nn] [c] = some (.rt (.bl true) [c2]) := by
    unfold b__law_great_right
    refine (ex_seq (ex_set (u := I n) (μ' := [c1]) (ev_bin (u := .int 3) (v := I r) ev_int (ev_call (us := [.ob 0, I 10]) (ev_l2 (ev_var rfl) ev_int) er) (by rw [← hnn]; simp only [evBin]; congr 3)))).trans ?_
    refine (ex_seq (ex_set (u := tU n L) (μ' := [c1]) (ev_call (ev_l1 (ev_var rfl)) hle))).trans ?_
    have nm1 : ∀ {σ : R.Env} {μ : Mu}, σ[1]? = some (some (I n)) → evalE (runF defs (k + 9)) 1 (.bin false .sub (.var 1) (.int 1)) σ μ = some (I (n - 1), μ) := fun h => ev_bin (ev_var h) ev_int (by simp only [evBin]; rw [show ((n : Int) - 1) = ((n - 1 : Nat) : Int) by omega])
    refine (ex_seq (ex_par (us := [rU L, I (n - 1)]) (μ' := [c1]) (σ' := σ nn nn nn nn) (ev_l2 (ev_idxT (ev_var rfl) ev_int (w := rU L) (atI_of (j := 1) rfl)) (nm1 rfl)) rfl)).trans ?_
    refine (ex_seq (ex_set (u := .lst told) (μ' := [c1]) (ev_lst (us := told) (ev_lcons (ev_call (us := [tU n L, rU L, I 0, I (n - 1)]) (ev_lcons (ev_var rfl) (ev_lcons (ev_var rfl) (ev_l2 ev_int (ev_var rfl)))) q1) (ev_lcons (ev_call (us := [tU n L, rU L, I 0, I (n - 1)]) (ev_lcons (ev_var rfl) (ev_lcons (ev_var rfl) (ev_l2 ev_int (ev_var rfl)))) w1) (ev_lcons (ev_call (us := [tU n L, rU L, I (n - 1), I 0]) (ev_lcons (ev_var rfl) (ev_lcons (ev_var rfl) (ev_l2 (ev_var rfl) ev_int))) q3) (ev_l2 (ev_call (us := [tU n L, rU L.reverse, I (n - 1), I 0]) (ev_lcons (ev_var rfl) (ev_lcons (er_rev (ev_var rfl)) (ev_l2 (ev_var rfl) ev_int))) q4) (ev_call (us := [tU n L, rU L, I 0, I (n - 1)]) (ev_lcons (ev_var rfl) (ev_lcons (ev_var rfl) (ev_l2 ev_int (ev_var rfl)))) q5))))) (show 5 ≤ SZ by decide)))).trans ?_
    show exL (runF defs (k + 9)) 1 _ (σ (some (.lst told)) nn nn nn) [c1] = _
    have l1 := like_pl (B := 63) (by decide) pt (k + 5) [c1] (by decide)
    refine (ex_seq ((ex_ifF (u := .bl false) (μ1 := [c1]) (ev_not (d := true) (ev_call (us := [.lst told, .lst told]) (ev_l2 (ev_var rfl) (ev_lst (us := told) (ev_lcons (ev_var rfl) (ev_lcons (ev_col (us := [I (n - 1)]) (xs := (List.range (n - 1)).map I) (ev_l1 (ev_var rfl)) (by
      simp only [items]
      rw [if_pos (by omega), rgn_nat]) rfl) (ev_lcons ev_non (ev_l2 (ev_var rfl) ev_non)))) (show 5 ≤ SZ by decide))) l1) rfl) rfl).trans ex_nil)).trans ?_
    refine (ex_seq (ex_set (u := rU M) (μ' := [c1]) (by rw [hrnd]; exact er_to (j := 200) (er_mul (j := 20) (ev_var rfl) ev_int (by omega) (by omega)) ev_int))).trans ?_
    show exL (runF defs (k + 9)) 1 _ (σ (some (.lst told)) (some (rU M)) nn nn) [c1] = _
    have fd : evalE (runF defs (k + 9)) 1 (.bin false .fdiv (.bi .len [(.var 4)]) (.var 8)) (σ (some (.lst told)) (some (rU M)) nn nn) [c1] = some (I (M.length / (n - 1)), [c1]) := by
      refine ev_bin (u := I M.length) (v := I (n - 1)) (ev_bi (ev_l1 (ev_var rfl)) (by simp [evBi, cont])) (ev_var rfl) ?_
      simp only [evBin]
      rw [if_pos ⟨by omega, by omega⟩, ← Int.natCast_ediv]
    refine (ex_seq (ex_set (u := I (q + 1)) (μ' := [c2]) (ev_bin (u := .int 1) (v := I q) ev_int (ev_call (us := [.ob 0, I (min (n - 1) (M.length / (n - 1)))]) (ev_l2 (ev_var rfl) (ev_bi (ev_l2 (ev_var rfl) fd) (min2_I _ _ _))) eq) (by simp only [evBin]; rw [show ((1 : Int) + (q : Int)) = ((q + 1 : Nat) : Int) by omega])))).trans ?_
    show exL (runF defs (k + 9)) 1 _ (σ (some (.lst told)) (some (rU M)) (some (I (q + 1))) nn) [c2] = _
    have sm1 : evalE (runF defs (k + 9)) 1 (.bin false .sub (.var 5) (.int 1)) (σ (some (.lst told)) (some (rU M)) (some (I (q + 1))) nn) [c2] = some (I q, [c2]) := ev_bin (ev_var rfl) ev_int (by simp only [evBin]; rw [show (((q + 1 : Nat) : Int) - 1) = ((q : Nat) : Int) by omega])
    have ml : evalE (runF defs (k + 9)) 1 (.bin false .mul (.bin false .sub (.var 5) (.int 1)) (.var 8)) (σ (some (.lst told)) (some (rU M)) (some (I (q + 1))) nn) [c2] = some (I (q * (n - 1)), [c2]) := by
      refine ev_bin sm1 (v := I (n - 1)) (ev_var rfl) ?_
      simp only [evBin]
      rw [if_pos (by simp only [mulOk, Bool.or_eq_true, Bool.and_eq_true, decide_eq_true_eq]; left; omega), ← Int.natCast_mul]
    have ed : evalE (runF defs (k + 9)) 1 (.bin false .add (.bin false .sub (.bin false .add (.bin false .mul (.bin false .sub (.var 5) (.int 1)) (.var 8)) (.var 8)) (.var 5)) (.int 1)) (σ (some (.lst told)) (some (rU M)) (some (I (q + 1))) nn) [c2] = some (I due, [c2]) := by
      refine ev_bin (u := .int (((q * (n - 1) : Nat) : Int) + ((n - 1 : Nat) : Int) - ((q + 1 : Nat) : Int))) (v := .int 1) (ev_bin (u := .int (((q * (n - 1) : Nat) : Int) + ((n - 1 : Nat) : Int))) (v := I (q + 1)) (ev_bin ml (v := I (n - 1)) (ev_var rfl) rfl) (ev_var rfl) rfl) ev_int ?_
      simp only [evBin]
      generalize q * (n - 1) = z at hd
      rw [← hd, show ((z : Int) + ((n - 1 : Nat) : Int) - ((q + 1 : Nat) : Int) + 1) = ((z + (n - 1) - (q + 1) + 1 : Nat) : Int) by omega]
    refine (ex_seq (ex_set ed)).trans ?_
    show exL (runF defs (k + 9)) 1 _ (σ (some (.lst told)) (some (rU M)) (some (I (q + 1))) (some (I due))) [c2] = _
    have s85 : evalE (runF defs (k + 9)) 1 (.bin false .sub (.var 8) (.var 5)) (σ (some (.lst told)) (some (rU M)) (some (I (q + 1))) (some (I due))) [c2] = some (I (n - 1 - (q + 1)), [c2]) := ev_bin (u := I (n - 1)) (v := I (q + 1)) (ev_var rfl) (ev_var rfl) (by simp only [evBin]; rw [show (((n - 1 : Nat) : Int) - ((q + 1 : Nat) : Int)) = ((n - 1 - (q + 1) : Nat) : Int) by omega])
    have s81 : evalE (runF defs (k + 9)) 1 (.bin false .sub (.var 8) (.int 1)) (σ (some (.lst told)) (some (rU M)) (some (I (q + 1))) (some (I due))) [c2] = some (I (n - 2), [c2]) := ev_bin (u := I (n - 1)) (v := .int 1) (ev_var rfl) ev_int (by simp only [evBin]; rw [show (((n - 1 : Nat) : Int) - 1) = ((n - 2 : Nat) : Int) by omega])
    have be : evalE (runF defs (k + 9)) 1 (.bin false .add (.bin false .mul (.tup [.non]) (.bin false .sub (.var 8) (.int 1))) (.tup [(.var 8), (.int 0)])) (σ (some (.lst told)) (some (rU M)) (some (I (q + 1))) (some (I due))) [c2] = some (.tup ((barL n).map oU), [c2]) := by
      have m : evalE (runF defs (k + 9)) 1 (.bin false .mul (.tup [.non]) (.bin false .sub (.var 8) (.int 1))) (σ (some (.lst told)) (some (rU M)) (some (I (q + 1))) (some (I due))) [c2] = some (.tup (List.replicate (n - 2) .non), [c2]) := by
        refine ev_bin (u := .tup [.non]) (ev_tup (ev_l1 ev_non) (show 1 ≤ SZ by decide)) s81 ?_
        simp only [evBin]
        rw [if_pos ⟨by omega, by omega, by simp; unfold SZ; omega⟩]
        simp
      have := ev_addT m (ev_tup (us := [I (n - 1), I 0]) (ev_l2 (a := .var 8) (b := .int 0) (ev_var rfl) ev_int) (show 2 ≤ SZ by decide)) (by simp; unfold SZ; omega)
      rw [this]
      simp [barL]
    refine (ex_seq (ex_set (u := .lst told2) (μ' := [c2]) (ev_lst (us := told2) (ev_lcons (ev_call (us := [tU n L, rU M, I (n - 1), I (n - 1 - (q + 1))]) (ev_lcons (ev_var rfl) (ev_lcons (ev_var rfl) (ev_l2 (ev_var rfl) s85))) p1) (ev_l2 (ev_call (us := [tU n L, rU M, I 0, I (n - 1)]) (ev_lcons (ev_var rfl) (ev_lcons (ev_var rfl) (ev_l2 ev_int (ev_var rfl)))) p2) (ev_call (us := [tU n L, rU L, I (n - 1), I 0, .tup ((barL n).map oU)]) (ev_lcons (ev_var rfl) (ev_lcons (ev_var rfl) (ev_lcons (ev_var rfl) (ev_l2 ev_int be)))) p3))) (show 3 ≤ SZ by decide)))).trans ?_
    have l2 := like_pl (B := 63) (by decide) pt2 (k + 6) [c2] (by decide)
    exact ex_ret (ev_call (us := [.lst told2, .lst told2]) (ev_l2 (ev_var rfl) (ev_lst (us := told2) (ev_lcons (ev_var rfl) (ev_l2 (ev_var rfl) ev_bl)) (show 3 ≤ SZ by decide))) l2)
  exact (if_pos rfl).trans (run_rt b (fin_cut rfl rfl))
end K05

set_option Elab.async false
set_option linter.all false
set_option maxRecDepth 100000
set_option maxHeartbeats 4000000
namespace K05
open PySem L2 R
theorem T4 : Town 4 (lineE 4) := line_town (by omega) (by omega)
abbrev TH : Row' := [(0, 1), (1, 2)]
abbrev BK : Row' := [(1, 2), (0, 1)]
theorem mem_line {row : List (Nat × Nat)} (h : (row.all fun p => decide (p ∈ lineE 4)) = true) (hl : row.length ≤ 200) : Row 4 (lineE 4) row := ⟨fun p hp => by simpa using List.all_eq_true.mp h p hp, hl⟩
theorem rTH : Row 4 (lineE 4) TH := mem_line (by decide) (by decide)
theorem rBK : Row 4 (lineE 4) BK := mem_line (by decide) (by decide)
theorem rNO : Row 4 (lineE 4) [] := mem_line (by decide) (by decide)
theorem rT3 : Row 4 (lineE 4) [(0, 1), (1, 2), (0, 1)] := mem_line (by decide) (by decide)
def fl : U → Bool
  | .non => true
  | .int _ => true
  | .bl _ => true
  | _ => false
theorem fl_pl {u : U} (h : fl u = true) {B d : Nat} : Pl B d u := by
  cases u <;> first | exact .non _ | exact .int _ _ | exact .bl _ _ | cases h
theorem tup_pl {xs : List U} (h : xs.all fl = true) (hl : xs.length ≤ 63) {d : Nat} : Pl 63 (d + 1) (.tup xs) := .tup hl fun u hu => fl_pl (List.all_eq_true.mp h u hu)
section
variable {cal : Nat → List U → Mu → Option (U × Mu)} {n0 : Nat} {σ : R.Env} {μ : Mu}
theorem p2 {a b : Int} : evalE cal n0 (.tup [.int a, .int b]) σ μ = some (.tup [.int a, .int b], μ) := ev_tup (ev_l2 ev_int ev_int) (show 2 ≤ SZ by decide)
theorem pr2 {a b c d : Int} : evalE cal n0 (.tup [.tup [.int a, .int b], .tup [.int c, .int d]]) σ μ = some (.tup [.tup [.int a, .int b], .tup [.int c, .int d]], μ) := ev_tup (ev_l2 p2 p2) (show 2 ≤ SZ by decide)
theorem e0 : evalE cal n0 (.tup []) σ μ = some (.tup [], μ) := ev_tup ev_lnil (show 0 ≤ SZ by decide)
theorem q4 {a b c d : E} {u v w x : U} (h1 : evalE cal n0 a σ μ = some (u, μ)) (h2 : evalE cal n0 b σ μ = some (v, μ)) (h3 : evalE cal n0 c σ μ = some (w, μ)) (h4 : evalE cal n0 d σ μ = some (x, μ)) : evalE cal n0 (.tup [a, b, c, d]) σ μ = some (.tup [u, v, w, x], μ) := ev_tup (ev_lcons h1 (ev_lcons h2 (ev_l2 h3 h4))) (show 4 ≤ SZ by decide)
end
section
variable (k : Nat) (μ : Mu)
theorem c1 : runF defs (k + 8) 17 [tU 4 (lineE 4), rU TH, I 0, I 2] μ = some (lU [0, 1], μ) := by
  obtain ⟨w, e, W, _⟩ := (news_way_ok k μ T4 rTH (s := 0) (e := 2) (by omega) (by omega)).2 2 (by rw [ft_at (rTH.inN T4) (by omega)]; decide +kernel)
  have : w = List.range 2 := asc_range 2 W.asc (fun i hi => W.lt i hi) (by
    have := go_far (row := TH) (fun p hp => by
      simp only [TH, List.mem_cons, List.not_mem_nil, or_false] at hp
      rcases hp with rfl | rfl <;> rfl) w W.go
    omega)
  rw [this] at e
  exact e
theorem c2 : runF defs (k + 8) 17 [tU 4 (lineE 4), rU BK, I 0, I 2] μ = some (.non, μ) :=
  (news_way_ok k μ T4 rBK (s := 0) (e := 2) (by omega) (by omega)).1 (by rw [ft_at (rBK.inN T4) (by omega)]; decide +kernel)
theorem c3 : runF defs (k + 8) 16 [tU 4 (lineE 4), rU TH, I 0, I 2] μ = some (I 2, μ) := by
  have h := first_known_ok k μ T4 rTH (s := 0) (e := 2) (by omega) (by omega)
  rw [ft_at (rTH.inN T4) (by omega), show (ftF 4 0 TH)[2]?.getD none = some 2 by decide +kernel] at h
  exact h
theorem c4 : runF defs (k + 8) 16 [tU 4 (lineE 4), rU BK, I 3, I 3] μ = some (I 0, μ) := by
  have h := first_known_ok k μ T4 rBK (s := 3) (e := 3) (by omega) (by omega)
  rw [ft_at (rBK.inN T4) (by omega), show (ftF 4 3 BK)[3]?.getD none = some 0 by decide +kernel] at h
  exact h
theorem cb {row : Row'} (r : Row 4 (lineE 4) row) {s e : Nat} (hs : s < 4) (he : e < 4) {xs : List U} (hx : xs.all fl = true) (hl : xs.length ≤ 63) {b : Bool} (hb : okBar 4 row s e (.tup xs) = b) : runF defs (k + 8) 20 [tU 4 (lineE 4), rU row, I s, I e, .tup xs] μ = some (.bl b, μ) := by
  have h := is_bar_ok k μ T4 r hs he (show 63 ≤ 1000 by decide) (tup_pl hx hl (d := 0))
  rw [hb] at h
  exact h
theorem cw {row : Row'} (r : Row 4 (lineE 4) row) {s e : Nat} (hs : s < 4) (he : e < 4) {xs : List U} (hx : xs.all fl = true) (hl : xs.length ≤ 63) {b : Bool} (hb : okWay row s e (.tup xs) = b) : runF defs (k + 8) 19 [tU 4 (lineE 4), rU row, I s, I e, .tup xs] μ = some (.bl b, μ) := by
  have h := is_way_ok k μ T4 r hs he (show 63 ≤ 1000 by decide) (tup_pl hx hl (d := 0))
  rw [hb] at h
  exact h
theorem c7 : runF defs (k + 8) 18 [tU 4 (lineE 4), rU BK, I 2, I 1] μ = some (.non, μ) := by
  have h := news_bar_ok k μ T4 rBK (s := 2) (e := 1) (by omega) (by omega)
  rw [if_neg (by rw [ft_at (rBK.inN T4) (by omega)]; decide +kernel)] at h
  exact h
theorem c8 : runF defs (k + 8) 17 [tU 4 (lineE 4), rU [], I 1, I 1] μ = some (lU [], μ) := by
  obtain ⟨w, e, W, _⟩ := (news_way_ok k μ T4 rNO (s := 1) (e := 1) (by omega) (by omega)).2 0 (by rw [ft_at (rNO.inN T4) (by omega)]; decide +kernel)
  have : w = [] := by
    cases w with
    | nil => rfl
    | cons a w => exact absurd (W.lt a (by simp)) (by simp)
  rw [this] at e
  exact e
end
def A1 : List U := [lU [0, 1], .non, I 2, I 0, .bl true]
def A2 : List U := [.bl false, .non, lU [], .bl true]
def A3 : List U := [.bl true, .bl true]
def A4 : List U := [.bl false, .bl true, .bl false]
abbrev sZ (x0 x2 x3 x4 x5 : Option U) : R.Env := [x0, some (.ob 0), x2, x3, x4, x5, some (tU 4 (lineE 4)), some (rU TH), some (rU BK)]
section
variable (k : Nat) {n0 : Nat} {μ : Mu} {x0 x2 x3 x4 x5 : Option U}
theorem a1_ev : evalE (runF defs (k + 8)) n0 (.lst false [(.call 17 [(.var 6), (.var 7), (.int 0), (.int 2)]), (.call 17 [(.var 6), (.var 8), (.int 0), (.int 2)]), (.call 16 [(.var 6), (.var 7), (.int 0), (.int 2)]), (.call 16 [(.var 6), (.var 8), (.int 3), (.int 3)]), (.call 20 [(.var 6), (.var 8), (.int 0), (.int 2), (.tup [(.int 0), (.int 2), .non, .non])])]) (sZ x0 x2 x3 x4 x5) μ = some (.lst A1, μ) :=
  ev_lst (us := A1) (ev_lcons (ev_call (ev_lcons (ev_var rfl) (ev_lcons (ev_var rfl) (ev_l2 ev_int ev_int))) (c1 k μ)) (ev_lcons (ev_call (ev_lcons (ev_var rfl) (ev_lcons (ev_var rfl) (ev_l2 ev_int ev_int))) (c2 k μ)) (ev_lcons (ev_call (ev_lcons (ev_var rfl) (ev_lcons (ev_var rfl) (ev_l2 ev_int ev_int))) (c3 k μ)) (ev_l2 (ev_call (ev_lcons (ev_var rfl) (ev_lcons (ev_var rfl) (ev_l2 ev_int ev_int))) (c4 k μ)) (ev_call (ev_lcons (ev_var rfl) (ev_lcons (ev_var rfl) (ev_lcons ev_int (ev_l2 ev_int (q4 ev_int ev_int ev_non ev_non))))) (cb k μ rBK (s := 0) (e := 2) (by omega) (by omega) (by decide) (by decide) (by decide +kernel))))))) (show 5 ≤ SZ by decide)
theorem a2_ev : evalE (runF defs (k + 8)) n0 (.lst false [(.call 20 [(.var 6), (.var 8), (.int 0), (.int 2), (.tup [(.int 0), .non, .non, .non])]), (.call 18 [(.var 6), (.var 8), (.int 2), (.int 1)]), (.call 17 [(.var 6), (.tup []), (.int 1), (.int 1)]), (.call 19 [(.var 6), (.var 7), (.int 0), (.int 0), (.tup [])])]) (sZ x0 x2 x3 x4 x5) μ = some (.lst A2, μ) :=
  ev_lst (us := A2) (ev_lcons (ev_call (ev_lcons (ev_var rfl) (ev_lcons (ev_var rfl) (ev_lcons ev_int (ev_l2 ev_int (q4 ev_int ev_non ev_non ev_non))))) (cb k μ rBK (s := 0) (e := 2) (by omega) (by omega) (by decide) (by decide) (by decide +kernel))) (ev_lcons (ev_call (ev_lcons (ev_var rfl) (ev_lcons (ev_var rfl) (ev_l2 ev_int ev_int))) (c7 k μ)) (ev_l2 (ev_call (ev_lcons (ev_var rfl) (ev_lcons e0 (ev_l2 ev_int ev_int))) (c8 k μ)) (ev_call (ev_lcons (ev_var rfl) (ev_lcons (ev_var rfl) (ev_lcons ev_int (ev_l2 ev_int e0)))) (cw k μ rTH (s := 0) (e := 0) (by omega) (by omega) (by decide) (by decide) (by decide +kernel)))))) (show 4 ≤ SZ by decide)
theorem a3_ev : evalE (runF defs (k + 8)) n0 (.lst false [(.call 19 [(.var 6), (.bin false .add (.var 7) (.slc false (.var 7) .non (.int 1))), (.int 0), (.int 0), (.tup [(.int 0), (.int 2)])]), (.call 20 [(.var 6), (.tup []), (.int 0), (.int 3), (.tup [(.int 0), (.int 0), (.int 0), .non])])]) (sZ x0 x2 x3 x4 x5) μ = some (.lst A3, μ) :=
  ev_lst (us := A3) (ev_l2 (ev_call (us := [tU 4 (lineE 4), rU [(0, 1), (1, 2), (0, 1)], I 0, I 0, .tup [I 0, I 2]]) (ev_lcons (ev_var rfl) (ev_lcons (er_add (r1 := TH) (r2 := [(0, 1)]) (ev_var rfl) (er_to (row := TH) (j := 1) (ev_var rfl) ev_int) (by decide)) (ev_lcons ev_int (ev_l2 ev_int p2)))) (cw k μ rT3 (s := 0) (e := 0) (by omega) (by omega) (by decide) (by decide) (by decide +kernel))) (ev_call (us := [tU 4 (lineE 4), rU [], I 0, I 3, .tup [I 0, I 0, I 0, .non]]) (ev_lcons (ev_var rfl) (ev_lcons e0 (ev_lcons ev_int (ev_l2 ev_int (q4 ev_int ev_int ev_int ev_non))))) (cb k μ rNO (s := 0) (e := 3) (by omega) (by omega) (by decide) (by decide) (by decide +kernel)))) (show 2 ≤ SZ by decide)
theorem a4_ev : evalE (runF defs (k + 8)) n0 (.lst false [(.call 20 [(.var 6), (.var 7), (.int 0), (.int 0), (.tup [(.int 0), .non, .non, .non])]), (.call 20 [(.var 6), (.var 8), (.int 0), (.int 2), (.tup [(.int 0), (.int 1), .non, .non])]), (.call 20 [(.var 6), (.var 8), (.int 0), (.int 2), (.tup [(.int 0), (.int 0), .non, .non])])]) (sZ x0 x2 x3 x4 x5) μ = some (.lst A4, μ) :=
  ev_lst (us := A4) (ev_lcons (ev_call (ev_lcons (ev_var rfl) (ev_lcons (ev_var rfl) (ev_lcons ev_int (ev_l2 ev_int (q4 ev_int ev_non ev_non ev_non))))) (cb k μ rTH (s := 0) (e := 0) (by omega) (by omega) (by decide) (by decide) (by decide +kernel))) (ev_l2 (ev_call (ev_lcons (ev_var rfl) (ev_lcons (ev_var rfl) (ev_lcons ev_int (ev_l2 ev_int (q4 ev_int ev_int ev_non ev_non))))) (cb k μ rBK (s := 0) (e := 2) (by omega) (by omega) (by decide) (by decide) (by decide +kernel))) (ev_call (ev_lcons (ev_var rfl) (ev_lcons (ev_var rfl) (ev_lcons ev_int (ev_l2 ev_int (q4 ev_int ev_int ev_non ev_non))))) (cb k μ rBK (s := 0) (e := 2) (by omega) (by omega) (by decide) (by decide) (by decide +kernel))))) (show 3 ≤ SZ by decide)
end
theorem due_ev {cal : Nat → List U → Mu → Option (U × Mu)} {n0 : Nat} {σ : R.Env} {μ : Mu} : evalE cal n0 (.lst false [(.tup [(.int 0), (.int 1)]), .non, (.int 2), (.int 0), (.bl true), (.bl false), .non, (.tup []), (.bl true), (.bl true), (.bl true), (.bl false), (.bl true), (.bl false)]) σ μ = some (.lst (A1 ++ A2 ++ A3 ++ A4), μ) :=
  ev_lst (us := A1 ++ A2 ++ A3 ++ A4) (ev_lcons p2 (ev_lcons ev_non (ev_lcons ev_int (ev_lcons ev_int (ev_lcons ev_bl (ev_lcons ev_bl (ev_lcons ev_non (ev_lcons e0 (ev_lcons ev_bl (ev_lcons ev_bl (ev_lcons ev_bl (ev_lcons ev_bl (ev_l2 ev_bl ev_bl))))))))))))) (show 14 ≤ SZ by decide)
theorem due_pl : Pl 63 2 (.lst (A1 ++ A2 ++ A3 ++ A4)) := by
  refine .lst (show 14 ≤ 63 by decide) fun u hu => ?_
  simp only [A1, A2, A3, A4, List.cons_append, List.nil_append, List.mem_cons, List.not_mem_nil, or_false] at hu
  rcases hu with rfl | rfl | rfl | rfl | rfl | rfl | rfl | rfl | rfl | rfl | rfl | rfl | rfl | rfl
  · exact (pl_ints (B := 63) (d := 0) (l := [0, 1]) (by decide)).1
  · exact .non _
  · exact .int _ _
  · exact .int _ _
  · exact .bl _ _
  · exact .bl _ _
  · exact .non _
  · exact (pl_ints (B := 63) (d := 0) (l := []) (by decide)).1
  all_goals exact .bl _ _
/-! ### the turns -/
theorem law_turn (k : Nat) (S : U) {c : U} (C : Cup c) (x2 x5 : Option U) : ∃ (c' : U) (y5 : Option U), exL (runF defs (k + 11)) 0 lb_law_0 [some S, some (.ob 0), x2, none, none, x5, none, none, none] [c] = some (.nx [some S, some (.ob 0), x2, none, none, y5, none, none, none] [c']) ∧ Cup c' := by
  obtain ⟨r, c1, er, hr, C1⟩ := roll_ok (k + 10) [] C (many := 6) (by omega) (by omega)
  obtain ⟨c2, es, ef, C2, T⟩ := law_friends_ok (k + 7) [] C1 (n := 1 + r) (by omega) (by omega) (more := 4) (by omega)
  obtain ⟨c3, es3, ea, C3, T3⟩ := apart_ok (k + 9) [] C2 T
  obtain ⟨w, c4, es4, hw, C4⟩ := some_ok (k + 9) [] C3 (u := .lst [tU (1 + r) es, tU (1 + r) es, tU (1 + r) es3]) (xs := [tU (1 + r) es, tU (1 + r) es, tU (1 + r) es3]) (.inl rfl) (fun _ => trivial) (by simp) (by simp) fun x hx c' => by
    simp only [List.mem_cons, List.not_mem_nil, or_false] at hx
    rcases hx with rfl | rfl | rfl
    · exact frz_tU _ _ _ T.len
    · exact frz_tU _ _ _ T.len
    · exact frz_tU _ _ _ T3.len
  obtain ⟨e4, T4, rfl⟩ : ∃ e4, Town (1 + r) e4 ∧ w = tU (1 + r) e4 := by
    simp only [List.mem_cons, List.not_mem_nil, or_false] at hw
    rcases hw with rfl | rfl | rfl
    · exact ⟨_, T, rfl⟩
    · exact ⟨_, T, rfl⟩
    · exact ⟨_, T3, rfl⟩
  obtain ⟨m, c5, em, hm, C5⟩ := some_ok (k + 9) [] C4 (u := .lst [I 2, I 6, I 14]) (xs := [I 2, I 6, I 14]) (.inl rfl) (fun _ => trivial) (by simp) (by simp) fun x hx c' => by
    simp only [List.mem_cons, List.not_mem_nil, or_false] at hx
    rcases hx with rfl | rfl | rfl <;> rfl
  obtain ⟨mm, h20, rfl⟩ : ∃ mm, mm ≤ 20 ∧ m = I mm := by
    simp only [List.mem_cons, List.not_mem_nil, or_false] at hm
    rcases hm with rfl | rfl | rfl
    · exact ⟨2, by omega, rfl⟩
    · exact ⟨6, by omega, rfl⟩
    · exact ⟨14, by omega, rfl⟩
  obtain ⟨c6, row, ew, C6, rw6, hl⟩ := row_ok (k + 8) [] C5 T4 h20
  obtain ⟨c7, eright, C7⟩ := right_ok (k + 1) C6 T4 rw6 hl
  refine ⟨c7, some (tU (1 + r) e4), ?_, C7⟩
  unfold lb_law_0
  have b1 : evalE (runF defs (k + 11)) 0 (.bin false .add (.int 1) (.call 22 [(.var 1), (.int 6)])) [some S, some (.ob 0), x2, none, none, x5, none, none, none] [c] = some (I (1 + r), [c1]) := by
    refine ev_bin (u := .int 1) (v := I r) ev_int (ev_call (us := [.ob 0, I 6]) (ev_l2 (ev_var rfl) ev_int) er) ?_
    simp only [evBin]
    rw [show ((1 : Int) + (r : Int)) = ((1 + r : Nat) : Int) by omega]
  refine (ex_seq (ex_set (u := tU (1 + r) es) (μ' := [c2]) (ev_call (us := [.ob 0, I (1 + r), I 4]) (μ1 := [c1]) (ev_lcons (ev_var rfl) (ev_l2 b1 ev_int)) ef))).trans ?_
  refine (ex_seq (ex_set (u := tU (1 + r) e4) (μ' := [c4]) (ev_call (us := [.ob 0, .lst [tU (1 + r) es, tU (1 + r) es, tU (1 + r) es3]]) (μ1 := [c3]) (ev_l2 (ev_var rfl) (ev_lst (us := [tU (1 + r) es, tU (1 + r) es, tU (1 + r) es3]) (ev_lcons (ev_var rfl) (ev_l2 (ev_var rfl) (ev_call (us := [.ob 0, tU (1 + r) es]) (ev_l2 (ev_var rfl) (ev_var rfl)) ea))) (show 3 ≤ SZ by decide))) es4))).trans ?_
  refine (ex_seq ((ex_ifF (u := .bl false) (μ1 := [c7]) (ev_not (d := true) (ev_call (us := [.ob 0, tU (1 + r) e4, rU row]) (μ1 := [c6]) (ev_lcons (ev_var rfl) (ev_l2 (ev_var rfl) (ev_call (us := [.ob 0, tU (1 + r) e4, I mm]) (μ1 := [c5]) (ev_lcons (ev_var rfl) (ev_l2 (ev_var rfl) (ev_call (us := [.ob 0, .lst [I 2, I 6, I 14]]) (ev_l2 (ev_var rfl) (ev_lst (us := [I 2, I 6, I 14]) (ev_lcons ev_int (ev_l2 ev_int ev_int)) (show 3 ≤ SZ by decide))) em))) ew))) eright) rfl) rfl).trans ex_nil)).trans ?_
  exact ex_nil
theorem law_run (ns : List Int) (h : ns.length ≤ 63) : runF defs 100 38 [.scr ns] [] = some (.bl true, []) := by
  obtain ⟨c, C, ec⟩ := cup_ok 98 ns h
  obtain ⟨σ', μ', e, y2, y5, c', rfl, rfl, C'⟩ := forL_inv0 (step := fstep (runF defs 99) 0 (.slot 2) lb_law_0) (xs := (List.range 8).map I) (fun _ σ μ => ∃ (y2 y5 : Option U) (c : U), σ = [some (.scr ns), some (.ob 0), y2, none, none, y5, none, none, none] ∧ μ = [c] ∧ Cup c) (σ := [some (.scr ns), some (.ob 0), none, none, none, none, none, none, none]) (μ := [c]) ⟨none, none, c, rfl, rfl, C⟩ (fun i x σ μ hx hp => by
    obtain ⟨y2, y5, c, rfl, rfl, C⟩ := hp
    obtain ⟨c', y5', e, C'⟩ := law_turn 88 (.scr ns) C (some x) y5
    exact ⟨_, _, .inl e, some x, y5', c', rfl, rfl, C'⟩)
  obtain ⟨c2, eg⟩ := great_ok 89 C'
  rw [run_law]
  have b : exL (runF defs 99) 0 b_law [some (.scr ns), none, none, none, none, none, none, none, none] [] = some (.rt (.bl true) [c2]) := by
    unfold b_law
    refine (ex_seq (ex_set (u := .ob 0) (μ' := [c]) (ev_call (ev_l1 (ev_var rfl)) ec))).trans ?_
    refine (ex_seq (((show exS _ _ l_law_0 _ _ = _ from ex_for (us := [I 8]) (xs := (List.range 8).map I) (ev_l1 ev_int) (walk_rng (by omega))).trans e))).trans ?_
    refine (ex_seq (ex_par (us := [tU 4 (lineE 4), rU TH, rU BK]) (μ' := [c']) (σ' := sZ (some (.scr ns)) y2 none none y5) (ev_lcons (ev_call (us := [I 4]) (ev_l1 ev_int) (line_ok 98 [c'] (n := 4) (by omega) (by omega))) (ev_l2 pr2 pr2)) rfl)).trans ?_
    refine (ex_seq (ex_set (a1_ev 91))).trans ?_
    show exL (runF defs 99) 0 _ (sZ (some (.scr ns)) y2 (some (.lst A1)) none y5) [c'] = _
    refine (ex_seq (ex_set (ev_addL (xs := A1) (ys := A2) (ev_var rfl) (a2_ev 91) (show 9 ≤ SZ by decide)))).trans ?_
    show exL (runF defs 99) 0 _ (sZ (some (.scr ns)) y2 (some (.lst (A1 ++ A2))) none y5) [c'] = _
    refine (ex_seq (ex_set (ev_addL (xs := A1 ++ A2) (ys := A3) (ev_var rfl) (a3_ev 91) (show 11 ≤ SZ by decide)))).trans ?_
    show exL (runF defs 99) 0 _ (sZ (some (.scr ns)) y2 (some (.lst (A1 ++ A2 ++ A3))) none y5) [c'] = _
    refine (ex_seq (ex_set (ev_addL (xs := A1 ++ A2 ++ A3) (ys := A4) (ev_var rfl) (a4_ev 91) (show 14 ≤ SZ by decide)))).trans ?_
    show exL (runF defs 99) 0 _ (sZ (some (.scr ns)) y2 (some (.lst (A1 ++ A2 ++ A3 ++ A4))) none y5) [c'] = _
    refine (ex_seq (ex_set due_ev)).trans ?_
    have l := like_pl (B := 63) (by decide) due_pl 95 [c'] (by decide)
    exact ex_ret (ev_andT (ev_call (us := [.lst (A1 ++ A2 ++ A3 ++ A4), .lst (A1 ++ A2 ++ A3 ++ A4)]) (ev_l2 (ev_var rfl) (ev_var rfl)) l) (ev_b1 (ev_call (us := [.ob 0]) (ev_l1 (ev_var rfl)) eg)))
  exact (if_pos rfl).trans (run_rt b (fin_cut rfl rfl))
end K05

set_option Elab.async false
set_option linter.all false
set_option maxRecDepth 1000000
set_option maxHeartbeats 4000000
namespace K05
open PySem PySem.Spec PyProof.Rows L2 R
def p_is_whole (g : Str) (s : Stmt) : Pd := ⟨g, "is_whole", s, ["value", "low", "high"], ["value", "low", "high"], d_is_whole⟩
def p_is_tuple_of (g : Str) (s : Stmt) : Pd := ⟨g, "is_tuple_of", s, ["value", "low", "high"], ["value", "low", "high"], d_is_tuple_of⟩
def p_is_ascending (g : Str) (s : Stmt) : Pd := ⟨g, "is_ascending", s, ["values", "one", "other"], ["values"], d_is_ascending⟩
def p_is_set_below (g : Str) (s : Stmt) : Pd := ⟨g, "is_set_below", s, ["value", "many", "one"], ["value", "many"], d_is_set_below⟩
def p_are_wholes (g : Str) (s : Stmt) : Pd := ⟨g, "are_wholes", s, ["value", "many", "low", "high", "one"], ["value", "many", "low", "high"], d_are_wholes⟩
def p_is_pair_of (g : Str) (s : Stmt) : Pd := ⟨g, "is_pair_of", s, ["value", "houses"], ["value", "houses"], d_is_pair_of⟩
def p_are_friends (g : Str) (s : Stmt) : Pd := ⟨g, "are_friends", s, ["value", "pair"], ["value"], d_are_friends⟩
def p_need_house (g : Str) (s : Stmt) : Pd := ⟨g, "need_house", s, ["houses", "value"], ["houses", "value"], d_need_house⟩
def p_need_few (g : Str) (s : Stmt) : Pd := ⟨g, "need_few", s, ["value"], ["value"], d_need_few⟩
def p_is_pair_in (g : Str) (s : Stmt) : Pd := ⟨g, "is_pair_in", s, ["friends", "value"], ["friends", "value"], d_is_pair_in⟩
def p_fits_row (g : Str) (s : Stmt) : Pd := ⟨g, "fits_row", s, ["friends", "value", "call"], ["friends", "value"], d_fits_row⟩
def p_need_row (g : Str) (s : Stmt) : Pd := ⟨g, "need_row", s, ["friends", "value"], ["friends", "value"], d_need_row⟩
def p_need_both (g : Str) (s : Stmt) : Pd := ⟨g, "need_both", s, ["friends", "row"], ["friends", "row"], d_need_both⟩
def p_turned_row (g : Str) (s : Stmt) : Pd := ⟨g, "turned_row", s, ["friends", "row"], ["friends", "row"], d_turned_row⟩
def p_need_all (g : Str) (s : Stmt) : Pd := ⟨g, "need_all", s, ["friends", "row", "start", "end"], ["friends", "row", "start", "end"], d_need_all⟩
def p_came_in (g : Str) (s : Stmt) : Pd := ⟨g, "came_in", s, ["row", "start", "found", "at", "one", "other", "house", "ahead"], ["row", "start"], d_came_in⟩
def p_first_known (g : Str) (s : Stmt) : Pd := ⟨g, "first_known", s, ["friends", "row", "start", "end", "found"], ["friends", "row", "start", "end"], d_first_known⟩
def p_news_way (g : Str) (s : Stmt) : Pd := ⟨g, "news_way", s, ["friends", "row", "start", "end", "found", "way"], ["friends", "row", "start", "end"], d_news_way⟩
def p_news_bar (g : Str) (s : Stmt) : Pd := ⟨g, "news_bar", s, ["friends", "row", "start", "end", "found", "house"], ["friends", "row", "start", "end"], d_news_bar⟩
def p_is_news_way (g : Str) (s : Stmt) : Pd := ⟨g, "is_news_way", s, ["friends", "row", "start", "end", "value", "at"], ["friends", "row", "start", "end", "value"], d_is_news_way⟩
def p_is_news_bar (g : Str) (s : Stmt) : Pd := ⟨g, "is_news_bar", s, ["friends", "row", "start", "end", "value", "at", "one", "other", "house", "ahead", "calls"], ["friends", "row", "start", "end", "value"], d_is_news_bar⟩
def p__law_cup (g : Str) (s : Stmt) : Pd := ⟨g, "_law_cup", s, ["script", "cell"], ["script"], d__law_cup⟩
def p__law_roll (g : Str) (s : Stmt) : Pd := ⟨g, "_law_roll", s, ["cup", "many", "deep", "found"], ["cup", "many"], d__law_roll⟩
def p__law_some (g : Str) (s : Stmt) : Pd := ⟨g, "_law_some", s, ["cup", "things"], ["cup", "things"], d__law_some⟩
def p__law_sort (g : Str) (s : Stmt) : Pd := ⟨g, "_law_sort", s, ["value"], ["value"], d__law_sort⟩
def p__law_like (g : Str) (s : Stmt) : Pd := ⟨g, "_law_like", s, ["one", "other", "sort", "first", "second"], ["one", "other"], d__law_like⟩
def p__law_is_whole (g : Str) (s : Stmt) : Pd := ⟨g, "_law_is_whole", s, ["value", "low", "high"], ["value", "low", "high"], d__law_is_whole⟩
def p__law_tree (g : Str) (s : Stmt) : Pd := ⟨g, "_law_tree", s, ["cup", "houses", "turn", "pairs", "at", "left", "names", "one", "other"], ["cup", "houses"], d__law_tree⟩
def p__law_friends (g : Str) (s : Stmt) : Pd := ⟨g, "_law_friends", s, ["cup", "houses", "more", "pairs", "turn", "one", "other", "pair"], ["cup", "houses", "more"], d__law_friends⟩
def p__law_apart (g : Str) (s : Stmt) : Pd := ⟨g, "_law_apart", s, ["cup", "friends", "pair"], ["cup", "friends"], d__law_apart⟩
def p__law_row (g : Str) (s : Stmt) : Pd := ⟨g, "_law_row", s, ["cup", "friends", "many", "turn"], ["cup", "friends", "many"], d__law_row⟩
def p__law_known (g : Str) (s : Stmt) : Pd := ⟨g, "_law_known", s, ["houses", "row", "known", "one", "other", "both", "house", "own"], ["houses", "row"], d__law_known⟩
def p__law_line (g : Str) (s : Stmt) : Pd := ⟨g, "_law_line", s, ["houses", "house"], ["houses"], d__law_line⟩
def p__law_is_way (g : Str) (s : Stmt) : Pd := ⟨g, "_law_is_way", s, ["row", "start", "end", "value", "at", "house"], ["row", "start", "end", "value"], d__law_is_way⟩
def p__law_is_bar (g : Str) (s : Stmt) : Pd := ⟨g, "_law_is_bar", s, ["houses", "row", "start", "end", "value", "at", "call", "one", "other", "own"], ["houses", "row", "start", "end", "value"], d__law_is_bar⟩
def p__law_first (g : Str) (s : Stmt) : Pd := ⟨g, "_law_first", s, ["houses", "row", "start", "end", "found", "at"], ["houses", "row", "start", "end"], d__law_first⟩
def p__law_right (g : Str) (s : Stmt) : Pd := ⟨g, "_law_right", s, ["cup", "friends", "row", "houses", "back", "some", "at", "values", "value", "hours", "start", "end", "first", "way", "bar", "house", "own", "turn"], ["cup", "friends", "row"], d__law_right⟩
def p__law_great_right (g : Str) (s : Stmt) : Pd := ⟨g, "_law_great_right", s, ["cup", "houses", "line", "told", "rounds", "steps", "due", "there", "last"], ["cup"], d__law_great_right⟩
def p_law (g : Str) (s : Stmt) : Pd := ⟨g, "law", s, ["script", "cup", "turn", "told", "due", "friends", "line", "there", "back"], ["script"], d_law⟩
def top (i : Nat) : Stmt := PySem.Challenge.pw_messengers_k05_whole_news_ways.main.body.getD i (.Pass ⟨0, 0, 0, 0⟩)
def pds : List Pd := p_is_whole "is_whole" (top 6) :: p_is_tuple_of "is_tuple_of" (top 7) :: p_is_ascending "is_ascending" (top 8) :: p_is_set_below "is_set_below" (top 9) :: p_are_wholes "are_wholes" (top 10) :: p_is_pair_of "is_pair_of" (top 14) :: p_are_friends "are_friends" (top 15) :: p_need_house "need_house" (top 16) :: p_need_few "need_few" (top 20) :: p_is_pair_in "is_pair_in" (top 21) :: p_fits_row "fits_row" (top 22) :: p_need_row "need_row" (top 23) :: p_need_both "need_both" (top 24) :: p_turned_row "turned_row" (top 25) :: p_need_all "need_all" (top 27) :: p_came_in "came_in" (top 28) :: p_first_known "first_known" (top 29) :: p_news_way "news_way" (top 30) :: p_news_bar "news_bar" (top 31) :: p_is_news_way "is_news_way" (top 32) :: p_is_news_bar "is_news_bar" (top 33) :: p__law_cup "_law_cup" (top 35) :: p__law_roll "_law_roll" (top 36) :: p__law_some "_law_some" (top 37) :: p__law_sort "_law_sort" (top 38) :: p__law_like "_law_like" (top 39) :: p__law_is_whole "_law_is_whole" (top 40) :: p__law_tree "_law_tree" (top 41) :: p__law_friends "_law_friends" (top 42) :: p__law_apart "_law_apart" (top 43) :: p__law_row "_law_row" (top 44) :: p__law_known "_law_known" (top 45) :: p__law_line "_law_line" (top 46) :: p__law_is_way "_law_is_way" (top 47) :: p__law_is_bar "_law_is_bar" (top 48) :: p__law_first "_law_first" (top 49) :: p__law_right "_law_right" (top 50) :: p__law_great_right "_law_great_right" (top 51) :: p_law "law" (top 52) :: []
theorem binds : BdAll pds := ⟨fun _ _ _ _ _ _ us hl => match us, hl with | [_, _, _], _ => rfl, fun _ _ _ _ _ _ us hl => match us, hl with | [_, _, _], _ => rfl, fun _ _ _ _ _ _ us hl => match us, hl with | [_], _ => rfl, fun _ _ _ _ _ _ us hl => match us, hl with | [_, _], _ => rfl, fun _ _ _ _ _ _ us hl => match us, hl with | [_, _, _, _], _ => rfl, fun _ _ _ _ _ _ us hl => match us, hl with | [_, _], _ => rfl, fun _ _ _ _ _ _ us hl => match us, hl with | [_], _ => rfl, fun _ _ _ _ _ _ us hl => match us, hl with | [_, _], _ => rfl, fun _ _ _ _ _ _ us hl => match us, hl with | [_], _ => rfl, fun _ _ _ _ _ _ us hl => match us, hl with | [_, _], _ => rfl, fun _ _ _ _ _ _ us hl => match us, hl with | [_, _], _ => rfl, fun _ _ _ _ _ _ us hl => match us, hl with | [_, _], _ => rfl, fun _ _ _ _ _ _ us hl => match us, hl with | [_, _], _ => rfl, fun _ _ _ _ _ _ us hl => match us, hl with | [_, _], _ => rfl, fun _ _ _ _ _ _ us hl => match us, hl with | [_, _, _, _], _ => rfl, fun _ _ _ _ _ _ us hl => match us, hl with | [_, _], _ => rfl, fun _ _ _ _ _ _ us hl => match us, hl with | [_, _, _, _], _ => rfl, fun _ _ _ _ _ _ us hl => match us, hl with | [_, _, _, _], _ => rfl, fun _ _ _ _ _ _ us hl => match us, hl with | [_, _, _, _], _ => rfl, fun _ _ _ _ _ _ us hl => match us, hl with | [_, _, _, _, _], _ => rfl, fun _ _ _ _ _ _ us hl => match us, hl with | [_, _, _, _, _], _ => rfl, fun _ _ _ _ _ _ us hl => match us, hl with | [_], _ => rfl, fun _ _ _ _ _ _ us hl => match us, hl with | [_, _], _ => rfl, fun _ _ _ _ _ _ us hl => match us, hl with | [_, _], _ => rfl, fun _ _ _ _ _ _ us hl => match us, hl with | [_], _ => rfl, fun _ _ _ _ _ _ us hl => match us, hl with | [_, _], _ => rfl, fun _ _ _ _ _ _ us hl => match us, hl with | [_, _, _], _ => rfl, fun _ _ _ _ _ _ us hl => match us, hl with | [_, _], _ => rfl, fun _ _ _ _ _ _ us hl => match us, hl with | [_, _, _], _ => rfl, fun _ _ _ _ _ _ us hl => match us, hl with | [_, _], _ => rfl, fun _ _ _ _ _ _ us hl => match us, hl with | [_, _, _], _ => rfl, fun _ _ _ _ _ _ us hl => match us, hl with | [_, _], _ => rfl, fun _ _ _ _ _ _ us hl => match us, hl with | [_], _ => rfl, fun _ _ _ _ _ _ us hl => match us, hl with | [_, _, _, _], _ => rfl, fun _ _ _ _ _ _ us hl => match us, hl with | [_, _, _, _, _], _ => rfl, fun _ _ _ _ _ _ us hl => match us, hl with | [_, _, _, _], _ => rfl, fun _ _ _ _ _ _ us hl => match us, hl with | [_, _, _], _ => rfl, fun _ _ _ _ _ _ us hl => match us, hl with | [_], _ => rfl, fun _ _ _ _ _ _ us hl => match us, hl with | [_], _ => rfl, True.intro⟩
def loose0 : List Str := ["LetterError", "InvalidFriends", "InvalidHouse", "InvalidRow", "is_whole", "is_tuple_of", "is_ascending", "is_set_below", "are_wholes", "HOUSES_friends", "PAIRS", "is_pair_of", "are_friends", "need_house", "HOUSES_callrows", "CALLS", "need_few", "is_pair_in", "fits_row", "need_row", "need_both", "turned_row", "need_all", "came_in", "first_known", "news_way", "news_bar", "is_news_way", "is_news_bar", "_law_cup"]
def loose1 : List Str := ["_law_roll", "_law_some", "_law_sort", "_law_like", "_law_is_whole", "_law_tree", "_law_friends", "_law_apart", "_law_row", "_law_known", "_law_line", "_law_is_way", "_law_is_bar", "_law_first", "_law_right", "_law_great_right"]
def loose : List Str := loose0 ++ loose1
def lawAt : Nat := 52
def lawIx : Nat := 38
theorem law_true : ∀ ns : List Int, ns.length ≤ 63 → ∃ μ, runF (pds.map (·.df)) 100 lawIx [.scr ns] [] = some (.bl true, μ) := fun ns h => ⟨[], law_run ns h⟩
def fns : List (Str × Nat) := (("is_whole" : Str), (0 : Nat)) :: (("is_tuple_of" : Str), (1 : Nat)) :: (("is_ascending" : Str), (2 : Nat)) :: (("is_set_below" : Str), (3 : Nat)) :: (("are_wholes" : Str), (4 : Nat)) :: (("is_pair_of" : Str), (5 : Nat)) :: (("are_friends" : Str), (6 : Nat)) :: (("need_house" : Str), (7 : Nat)) :: (("need_few" : Str), (8 : Nat)) :: (("is_pair_in" : Str), (9 : Nat)) :: (("fits_row" : Str), (10 : Nat)) :: (("need_row" : Str), (11 : Nat)) :: (("need_both" : Str), (12 : Nat)) :: (("turned_row" : Str), (13 : Nat)) :: (("need_all" : Str), (14 : Nat)) :: (("came_in" : Str), (15 : Nat)) :: (("first_known" : Str), (16 : Nat)) :: (("news_way" : Str), (17 : Nat)) :: (("news_bar" : Str), (18 : Nat)) :: (("is_news_way" : Str), (19 : Nat)) :: (("is_news_bar" : Str), (20 : Nat)) :: (("_law_cup" : Str), (21 : Nat)) :: (("_law_roll" : Str), (22 : Nat)) :: (("_law_some" : Str), (23 : Nat)) :: (("_law_sort" : Str), (24 : Nat)) :: (("_law_like" : Str), (25 : Nat)) :: (("_law_is_whole" : Str), (26 : Nat)) :: (("_law_tree" : Str), (27 : Nat)) :: (("_law_friends" : Str), (28 : Nat)) :: (("_law_apart" : Str), (29 : Nat)) :: (("_law_row" : Str), (30 : Nat)) :: (("_law_known" : Str), (31 : Nat)) :: (("_law_line" : Str), (32 : Nat)) :: (("_law_is_way" : Str), (33 : Nat)) :: (("_law_is_bar" : Str), (34 : Nat)) :: (("_law_first" : Str), (35 : Nat)) :: (("_law_right" : Str), (36 : Nat)) :: (("_law_great_right" : Str), (37 : Nat)) :: (("law" : Str), (38 : Nat)) :: []
def nums : List (Str × Int) := (("HOUSES_friends" : Str), (60 : Int)) :: (("PAIRS" : Str), (400 : Int)) :: (("HOUSES_callrows" : Str), (12 : Int)) :: (("CALLS" : Str), (200 : Int)) :: []
def bns : List Str := ["len", "int", "abs", "all", "min", "max", "range", "enumerate", "zip", "list", "tuple", "sorted", "dict", "isinstance", "bool", "str", "set"]
end K05
set_option maxHeartbeats 0
namespace K05
open PySem PySem.Spec PyProof.Rows L2 R
theorem zFnsOk : fns.all (fun p => decide ((pds[p.2]?).map (·.glob) = some p.1)) = true := by kernel_rfl
theorem zChk (fa : Nat → Option Addr) : pds.all (pdC ⟨fa, fns, nums, bns⟩) = true := by kernel_rfl
abbrev zRow : PySem.W.OpenRow := PySem.W.OpenLaw.row PySem.Challenge.rw_messengers_k05_whole_news_ways
def zFacts : List He.Fa := factsOf fns nums bns
def zFnd : List He.DefD := fnD pds
abbrev zHk : PySem.W.Hook := He.hookD 4 zFacts zFnd
def zOb (s : PySem.W.SharedT) : He.AlD := He.obsDG 4 zFacts zFnd (HandSHeadRun.getT s)
theorem zObEq (s : PySem.W.SharedT) : zOb s = zHk.obs s.abs := He.obsDG_eq (HandSHeadRun.getT_eq s)
theorem zRun (w : World) : HandSHeadRun.RunEq zRow (PySem.W.view zRow.prog [lawAt]) zHk zOb 4000 loose w := by
  intro os
  kernel_rfl
end K05
open PySem PySem.W PySem.Calls PyProof.Rows
theorem PySem.Challenge.cw_messengers_k05_whole_news_ways_holds : PySem.Challenge.rw_messengers_k05_whole_news_ways.Holds := by
  w_on; o_law
  refine HandSHeadRun.head_any (r := OpenLaw.row PySem.Challenge.rw_messengers_k05_whole_news_ways) (q := view (OpenLaw.row PySem.Challenge.rw_messengers_k05_whole_news_ways).prog [K05.lawAt]) (H := K05.zHk) (ob := K05.zOb) (M := 4000) (loose := K05.loose) (d := HandSHeadRun.topDef (OpenLaw.row PySem.Challenge.rw_messengers_k05_whole_news_ways).prog K05.lawAt) (kwd := []) K05.zObEq
    (by kernel_rfl) (fun s => by kernel_rfl) K05.zRun (by kernel_rfl) (by kernel_rfl) (by kernel_rfl) (by rfl) (by first | assumption | decide +kernel) (by decide +kernel) ⟨rfl, rfl, rfl, rfl, rfl, by decide +kernel⟩ ?hw ?hc
  case hw => w_witness2
  case hc =>
    refine L2.walk_ofE (l := PySem.Challenge.rw_messengers_k05_whole_news_ways) (n := 63) (k := 100) (x := "script") (CX := C8.CX0) rfl (by decide) (by kernel_rfl) ⟨rfl, by decide, by decide⟩ ?F (fun _ _ _ _ z => z)
    intro w mg fa h Y G hmg0
    obtain ⟨K, KX, c⟩ := Y
    have hmg : mg ("law" : PySem.Str) = some (.ref fa) := by
      have e : (HandSHeadRun.topDef (OpenLaw.row PySem.Challenge.rw_messengers_k05_whole_news_ways).prog K05.lawAt).name = ("law" : PySem.Str) := by kernel_rfl
      rw [← e]
      exact hmg0
    obtain ⟨fd, hb, hF⟩ := R.law_ok (P := (PySem.Challenge.rw_messengers_k05_whole_news_ways).prog) (w := w) (L := K05.lawIx) (k := 100) KX G c K05.binds K05.zFnsOk K05.zChk (d := K05.p_law "law" (K05.top K05.lawAt)) rfl rfl rfl (by kernel_rfl) hmg K05.law_true
    exact ⟨K, fd, R.spLaw K, KX, hb, fun H a ns hl _ hS => ⟨a, ns, rfl, hS, hl, fun _ => rfl⟩, hF⟩
